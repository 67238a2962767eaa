import PyProof.Rows.All
import PySem.Str
import HandS.ForMost
import HandS.ForExc
import HandS.IsInst
import HandS.Wide
import HandS.Lambda
import HandS.EndTab
import HandS.TupAny
import HandS.TupMul
import HandS.Zip
import HandS.Deep
import HandS.Conv
import HandS.Sort
import HandS.SortInts
import HandS.SortKw
import HandS.CallLocal
import HandS.CallSlots
import HandS.HotCalls
import HandS.Rev
import HandS.Gcd
import HandS.Flow
import HandS.TupLe
import HandS.Style
import HandS.ExcCtx
import HandS.ExcIs
import KE.KMathG
import KE.KRevSl
import HandS.TryOnly
import PySem.Challenge.RW_lotsatdawn_k68_whole_rules_that_protect
set_option autoImplicit false
namespace DL
open PySem (Str)

/-- the longest list -/
def sizeL : Nat := 2 ^ 24
/-- plain values -/
inductive D where
  | non | bl (b : Bool) | int (i : Int) | str (x : Str) | tup (xs : List D) | lst (xs : List D) | cup | fn (k : Nat) | ty (k : Nat) | exc
  deriving Inhabited

/-- an error: the number of its class, what it bears -/
structure Ex where
  cls : Nat
  arg : D
  deriving Inhabited

/-- the two cells of the cup -/
structure C where
  a : Int
  b : Int
  deriving Inhabited, DecidableEq

inductive R (α : Type) where
  | ok (a : α) (c : C) | er (x : Ex) (c : C) | st

def R.bind {α β : Type} (m : R α) (f : α → C → R β) : R β := match m with
  | .ok a c => f a c
  | .er x c => .er x c
  | .st => .st
def R.post {α : Type} (m : R α) (P : α → C → Prop) (B : Ex → C → Prop) : Prop := match m with
  | .ok a c => P a c
  | .er x c => B x c
  | .st => False
def R.calm {α : Type} (m : R α) : R α := match m with
  | .er _ _ => .st
  | r => r

/-- a value at hand: a plain one, or the list that slot i owns -/
inductive RV where
  | pl (d : D) | ow (i : Nat) (xs : List D)
def RV.d : RV → D
  | .pl d => d
  | .ow _ xs => .lst xs
def RV.plain : RV → Bool
  | .pl _ => true
  | .ow _ _ => false
inductive Slot where
  | no | val (d : D) | own (xs : List D)
abbrev Env := List Slot
abbrev DE := Env → C → R RV
abbrev DT := Env → C → R Bool
abbrev DI := Env → C → R (List D)
abbrev DA := Env → C → R (List RV)
inductive F where
  | nx (e : Env) (c : C) | rt (d : D) (c : C) | bk (e : Env) (c : C) | ct (e : Env) (c : C) | er (x : Ex) (e : Env) (c : C) | st
abbrev DS := Env → C → F

/-! ### expressions -/
def dVar (i : Nat) : DE := fun env c => match env[i]? with
  | some (.val d) => .ok (.pl d) c
  | some (.own xs) => .ok (.ow i xs) c
  | _ => .st
def dC (d : D) : DE := fun _ c => .ok (.pl d) c
def opt1 (o : Option D) (c : C) : R RV := match o with
  | some d => .ok (.pl d) c
  | none => .st
def dO1 (op : D → Option D) (a : DE) : DE := fun env c => (a env c).bind fun x c => opt1 (op x.d) c
def dO2 (op : D → D → Option D) (a b : DE) : DE := fun env c => (a env c).bind fun x c => (b env c).bind fun y c => opt1 (op x.d y.d) c
def dAnd (a b : DE) : DE := fun env c => (a env c).bind fun x c => match x.d with
  | .bl true => b env c
  | .bl false => .ok (.pl (.bl false)) c
  | _ => .st
def dOr (a b : DE) : DE := fun env c => (a env c).bind fun x c => match x.d with
  | .bl false => b env c
  | .bl true => .ok (.pl (.bl true)) c
  | _ => .st
def dIf (t : DT) (a b : DE) : DE := fun env c => (t env c).bind fun k c => if k = true then a env c else b env c
def dChain (op1 op2 : D → D → Option D) (a b e : DE) : DE := fun env c => (a env c).bind fun x c => (b env c).bind fun y c => match op1 x.d y.d with
  | some (.bl true) => (e env c).bind fun z c => opt1 (op2 y.d z.d) c
  | some (.bl false) => .ok (.pl (.bl false)) c
  | _ => .st
def dArgs : List DE → DA
  | [] => fun _ c => .ok [] c
  | e :: es => fun env c => (e env c).bind fun x c => (dArgs es env c).bind fun xs c => .ok (x :: xs) c
def dTup (es : List DE) : DE := fun env c => (dArgs es env c).bind fun xs c => if xs.all RV.plain then .ok (.pl (.tup (xs.map RV.d))) c else .st
def dLst (es : List DE) : DE := fun env c => (dArgs es env c).bind fun xs c => if xs.all RV.plain then .ok (.pl (.lst (xs.map RV.d))) c else .st
def dB (f : List D → Option D) (es : List DE) : DE := fun env c => (dArgs es env c).bind fun xs c => opt1 (f (xs.map RV.d)) c
mutual
def D.noL : D → Bool
  | .lst _ => false
  | .tup xs => D.noLs xs
  | _ => true
def D.noLs : List D → Bool
  | [] => true
  | x :: xs => x.noL && D.noLs xs
end
abbrev Sem := List D → C → R D
def dCall (sem : Sem) (es : List DE) : DE := fun env c => (dArgs es env c).bind fun xs c => (sem (xs.map RV.d) c).bind fun d c => if xs.all RV.plain || d.noL then .ok (.pl d) c else .st
/-- a slice, its ends -/
def dPart : Option DE → Env → C → R (Option Int)
  | none => fun _ c => .ok none c
  | some e => fun env c => (e env c).bind fun x c => match x.d with
    | .int i => .ok (some i) c
    | _ => .st
def dSl (f : D → Option Int → Option Int → Option D) (e : DE) (lo hi : Option DE) : DE := fun env c => (e env c).bind fun x c => (dPart lo env c).bind fun a c => (dPart hi env c).bind fun b c => opt1 (f x.d a b) c

/-! ### tests -/
def D.truth : D → Option Bool
  | .non => some false
  | .bl b => some b
  | .int i => some (i != 0)
  | .str x => if x.length ≤ sizeL then some ((x.length : Int) != 0) else none
  | .tup xs => some (!xs.isEmpty)
  | .lst xs => some (!xs.isEmpty)
  | _ => none
def tE (e : DE) : DT := fun env c => (e env c).bind fun x c => match x.d.truth with
  | some k => .ok k c
  | none => .st
def tNot (t : DT) : DT := fun env c => (t env c).bind fun k c => .ok (!k) c
def tAnd (a b : DT) : DT := fun env c => (a env c).bind fun k c => if k = true then b env c else .ok false c
def tOr (a b : DT) : DT := fun env c => (a env c).bind fun k c => if k = true then .ok true c else b env c
def tYes : DT := fun _ c => .ok true c

/-! ### targets, what is walked -/
abbrev TG := D → Env → Option Env
def tgN (i : Nat) : TG := fun x env => some (env.set i (.val x))
def tgAll : List TG → List D → Env → Option Env
  | [], [], env => some env
  | t :: ts, x :: xs, env => (t x env).bind fun env => tgAll ts xs env
  | _, _, _ => none
def tgT (ts : List TG) : TG := fun x env => match x with
  | .tup xs => tgAll ts xs env
  | _ => none
def RV.good (st : Bool) (x : RV) : Bool := !st || x.plain
def D.items : D → Option (List D)
  | .tup xs => some xs
  | .lst xs => some xs
  | _ => none
/-- st: it is walked by statements, which may change lists -/
def iSeq (st : Bool) (e : DE) : DI := fun env c => (e env c).bind fun x c => if x.good st = true then (match x.d.items with
  | some xs => .ok xs c
  | none => .st) else .st
def rng (lo : Int) : Nat → List D
  | 0 => []
  | n + 1 => .int lo :: rng (lo + 1) n
def rngLine : Int := 2 ^ 62
def okR (i : Int) : Bool := decide (-rngLine ≤ i) && decide (i < rngLine)
def kRng1 (x : RV) (c : C) : R (List D) := match x.d with
  | .int j => if (okR j && decide (j.toNat ≤ sizeL)) = true then .ok (rng 0 j.toNat) c else .st
  | _ => .st
def iRng1 (e : DE) : DI := fun env c => (e env c).bind kRng1
def kRng2 (x y : RV) (c : C) : R (List D) := match x.d, y.d with
  | .int i, .int j => if (okR i && okR j && decide ((j - i).toNat ≤ sizeL)) = true then .ok (rng i (j - i).toNat) c else .st
  | _, _ => .st
def iRng2 (a b : DE) : DI := fun env c => (a env c).bind fun x c => (b env c).bind fun y c => kRng2 x y c
def zipD : List D → List D → List D
  | x :: xs, y :: ys => .tup [x, y] :: zipD xs ys
  | _, _ => []
def zip2 : D → D → Option (List D)
  | .tup xs, .tup ys => some (zipD xs ys)
  | .lst xs, .lst ys => some (zipD xs ys)
  | _, _ => none
def kZip (st : Bool) (x y : RV) (c : C) : R (List D) := if (x.good st && y.good st) = true then (match zip2 x.d y.d with
  | some zs => .ok zs c
  | none => .st) else .st
def iZip (st : Bool) (a b : DE) : DI := fun env c => (a env c).bind fun x c => (b env c).bind fun y c => kZip st x y c
def enumD : Int → List D → List D
  | _, [] => []
  | i, x :: xs => .tup [.int i, x] :: enumD (i + 1) xs
def kEnum (st : Bool) (x : RV) (c : C) : R (List D) := if x.good st = true then (match x.d with
  | .lst xs => .ok (enumD 0 xs) c
  | _ => .st) else .st
def iEnum (st : Bool) (a : DE) : DI := fun env c => (a env c).bind (kEnum st)

/-! ### comprehensions -/
def wipeE (env : Env) : List Nat → Env
  | [] => env
  | v :: vs => (wipeE env vs).set v .no
def dLoop (tg : TG) (t : DT) (e : DE) (env : Env) : List D → C → R (List D)
  | [], c => .ok [] c
  | x :: xs, c => match tg x env with
    | none => .st
    | some env2 => (t env2 c).bind fun k c => if k = true then ((e env2 c).bind fun y c => match y with
        | .pl d => (dLoop tg t e env xs c).bind fun ds c => .ok (d :: ds) c
        | .ow _ _ => .st) else dLoop tg t e env xs c
def dComp (it : DI) (tg : TG) (t : DT) (e : DE) (vs : List Nat) : DE := fun env c => (it env c).bind fun items c => ((dLoop tg t e (wipeE env vs) items c).bind fun ds c => .ok (.pl (.lst ds)) c).calm
/-- two clauses -/
def dLoop2 (tg : TG) (t : DT) (it1 : DI) (tg1 : TG) (t1 : DT) (e : DE) (vs1 : List Nat) (env : Env) : List D → C → R (List D)
  | [], c => .ok [] c
  | x :: xs, c => match tg x env with
    | none => .st
    | some env2 => (t env2 c).bind fun k c => if k = true then ((it1 env2 c).bind fun items c => (dLoop tg1 t1 e (wipeE env2 vs1) items c).bind fun ds c =>
        (dLoop2 tg t it1 tg1 t1 e vs1 env xs c).bind fun es c => .ok (ds ++ es) c) else dLoop2 tg t it1 tg1 t1 e vs1 env xs c
def dComp2 (it : DI) (tg : TG) (t : DT) (it1 : DI) (tg1 : TG) (t1 : DT) (e : DE) (vs vs1 : List Nat) : DE := fun env c => (it env c).bind fun items c => ((dLoop2 tg t it1 tg1 t1 e vs1 (wipeE env vs) items c).bind fun ds c => if ds.length ≤ sizeL then .ok (.pl (.lst ds)) c else .st).calm

/-! ### statements -/
def frzS (env : Env) (i : Nat) : Env := match env[i]? with
  | some (.own xs) => env.set i (.val (.lst xs))
  | _ => env
def F.of {α : Type} (m : R α) (env : Env) (f : α → C → F) : F := match m with
  | .ok a c => f a c
  | .er x c => .er x env c
  | .st => .st
def kSet (i : Nat) (env : Env) (x : RV) (c : C) : F := match x with
  | .pl d => .nx (env.set i (.val d)) c
  | .ow j xs => .nx ((frzS env j).set i (.val (.lst xs))) c
def sSet (i : Nat) (e : DE) : DS := fun env c => F.of (e env c) env (kSet i env)
/-- e makes a new list: slot i owns it -/
def sOwn (i : Nat) (e : DE) : DS := fun env c => F.of (e env c) env fun x c => match x with
  | .pl (.lst xs) => .nx (env.set i (.own xs)) c
  | _ => .st
def sTgt (tg : TG) (e : DE) : DS := fun env c => F.of (e env c) env fun x c => match x with
  | .pl d => (match tg d env with
    | some env => .nx env c
    | none => .st)
  | .ow _ _ => .st
/-- several targets at once: each gets its value, or owns a new list -/
def parSet : List (Nat × Bool) → List RV → Env → Option Env
  | [], [], env => some env
  | (i, false) :: ks, .pl d :: xs, env => parSet ks xs (env.set i (.val d))
  | (i, true) :: ks, .pl (.lst ys) :: xs, env => parSet ks xs (env.set i (.own ys))
  | _, _, _ => none
def sPar (ks : List (Nat × Bool)) (es : List DE) : DS := fun env c => F.of (dArgs es env c) env fun xs c => match parSet ks xs env with
  | some env => .nx env c
  | none => .st
def kApp (i : Nat) (env : Env) (xs : List D) (x : RV) (c : C) : F := match x with
  | .pl d => if xs.length < sizeL then .nx (env.set i (.own (xs ++ [d]))) c else .st
  | .ow _ _ => .st
def sApp (i : Nat) (e : DE) : DS := fun env c => match env[i]? with
  | some (.own xs) => F.of (e env c) env (kApp i env xs)
  | _ => .st
def ixD (n : Nat) (i : Int) : Option Nat := if 0 ≤ i then (if i < n then some i.toNat else none) else if -(n : Int) ≤ i then some (i + n).toNat else none
def kPut (i : Nat) (env : Env) (xs : List D) (x j : RV) (c : C) : F := match x, j.d with
  | .pl d, .int j => (match ixD xs.length j with
    | some m => .nx (env.set i (.own (xs.set m d))) c
    | none => .st)
  | _, _ => .st
/-- x[k] = e -/
def sPut (i : Nat) (k e : DE) : DS := fun env c => match env[i]? with
  | some (.own xs) => F.of (e env c) env fun x c => F.of (k env c) env fun j c => kPut i env xs x j c
  | _ => .st
def sExpr (e : DE) : DS := fun env c => F.of (e env c) env fun _ c => .nx env c
def sRet (e : DE) : DS := fun env c => F.of (e env c) env fun x c => .rt x.d c
def sRetN : DS := fun _ c => .rt .non c
def sPass : DS := fun env c => .nx env c
def sBrk : DS := fun env c => .bk env c
def sCnt : DS := fun env c => .ct env c
def sRaise (k : Nat) : DS := fun env c => .er ⟨k, .non⟩ env c
def sSeq (s t : DS) : DS := fun env c => match s env c with
  | .nx env c => t env c
  | r => r
def sNil : DS := fun env c => .nx env c
def sIf (t : DT) (s u : DS) : DS := fun env c => F.of (t env c) env fun k c => if k = true then s env c else u env c
def frzE (env : Env) : List Nat → Env
  | [] => env
  | i :: is => frzS (frzE env is) i
/-- no step of the program: some lists are not changed from here on -/
def sFrz (is : List Nat) (s : DS) : DS := fun env c => s (frzE env is) c
def sForL (tg : TG) (s : DS) : List D → Env → C → F
  | [], env, c => .nx env c
  | x :: xs, env, c => match tg x env with
    | none => .st
    | some env => match s env c with
      | .nx env c => sForL tg s xs env c
      | .ct env c => sForL tg s xs env c
      | .bk env c => .nx env c
      | r => r
/-- the walked thing is not one of the def's own lists -/
def sFor (it : DI) (tg : TG) (s : DS) : DS := fun env c => F.of (it env c) env fun items c => sForL tg s items env c
def sWhL (t : DT) (s : DS) : Nat → Env → C → F
  | 0, _, _ => .st
  | n + 1, env, c => F.of (t env c) env fun k c => if k = true then (match s env c with
      | .nx env c => sWhL t s n env c
      | .ct env c => sWhL t s n env c
      | .bk env c => .nx env c
      | r => r) else .nx env c
def sWhile (n : Nat) (t : DT) (s : DS) : DS := fun env c => sWhL t s n env c

def runF (n : Nat) (body : DS) : Sem := fun ds c => match body (ds.map .val ++ List.replicate (n - ds.length) .no) c with
  | .nx _ c => .ok .non c
  | .rt d c => .ok d c
  | .er x _ c => .er x c
  | _ => .st

/-! ### operators by values -/
def D.b2i (b : Bool) : Int := if b = true then 1 else 0
def wideLine : Nat := 2 ^ 4000
def mulOk (i j : Int) : Bool := (decide (-(2 ^ 64) < i) && decide (i < 2 ^ 64)) || (decide (-(2 ^ 64) < j) && decide (j < 2 ^ 64)) || (decide (i.natAbs < wideLine) && decide (j.natAbs < wideLine))
def D.add : D → D → Option D
  | .int i, .int j => some (.int (i + j))
  | .str x, .str y => if x.length + y.length ≤ sizeL then some (.str (x ++ y)) else none
  | .tup xs, .tup ys => if xs.length + ys.length ≤ sizeL then some (.tup (xs ++ ys)) else none
  | _, _ => none
/-- two lists: a new one -/
def D.cat : D → D → Option D
  | .lst xs, .lst ys => if xs.length + ys.length ≤ sizeL then some (.lst (xs ++ ys)) else none
  | _, _ => none
def D.sub : D → D → Option D
  | .int i, .int j => some (.int (i - j))
  | _, _ => none
def D.mul : D → D → Option D
  | .int i, .int j => if mulOk i j = true then some (.int (i * j)) else none
  | _, _ => none
def D.fdiv : D → D → Option D
  | .int i, .int j => if 0 < j ∧ j.natAbs < wideLine then some (.int (i / j)) else none
  | _, _ => none
def D.mod : D → D → Option D
  | .int i, .int j => if 0 < j then some (.int (i % j)) else none
  | _, _ => none
def D.pow : D → D → Option D
  | .int i, .int j => if 0 ≤ j ∧ j ≤ 1000000 ∧ i.natAbs < 2 ^ 64 then some (.int (i ^ j.toNat)) else none
  | _, _ => none
def D.neg : D → Option D
  | .int i => some (.int (-i))
  | _ => none
def D.inv : D → Option D
  | .bl b => some (.bl (!b))
  | _ => none
/-- a list over and over -/
def D.rep : D → D → Option D
  | .lst xs, .int k => if -(2 ^ 63) ≤ k ∧ k < 2 ^ 63 ∧ xs.length * k.toNat ≤ sizeL then some (.lst (List.replicate k.toNat xs).flatten) else none
  | _, _ => none
def D.repT : D → D → Option D
  | .tup xs, .int k => if xs ≠ [] ∧ 2 ≤ k ∧ k ≤ 1000 ∧ xs.length ≤ 1000 then some (.tup (List.replicate k.toNat xs).flatten) else none
  | _, _ => none
def D.lt : D → D → Option D
  | .int i, .int j => some (.bl (decide (i < j)))
  | _, _ => none
def D.le : D → D → Option D
  | .int i, .int j => some (.bl (decide (i ≤ j)))
  | _, _ => none
def D.gt : D → D → Option D
  | .int i, .int j => some (.bl (decide (j < i)))
  | _, _ => none
def D.ge : D → D → Option D
  | .int i, .int j => some (.bl (decide (j ≤ i)))
  | _, _ => none
mutual
def D.eqv : D → D → Bool
  | .non, .non => true
  | .bl a, .bl b => a == b
  | .bl a, .int j => (if a then 1 else 0) == j
  | .int i, .bl b => i == (if b then 1 else 0)
  | .int i, .int j => i == j
  | .str x, .str y => x == y
  | .lst xs, .lst ys => D.eqvs xs ys
  | .tup xs, .tup ys => D.eqvs xs ys
  | _, _ => false
def D.eqvs : List D → List D → Bool
  | [], [] => true
  | x :: xs, y :: ys => D.eqv x y && D.eqvs xs ys
  | _, _ => false
end
/-- data of at most that depth -/
def strGood (x : Str) : Bool := x.cps.all (· < 0x110000)
def D.shal : Nat → D → Bool
  | n + 1, .lst xs => xs.all (D.shal n)
  | n + 1, .tup xs => xs.all (D.shal n)
  | 0, .lst _ => false
  | 0, .tup _ => false
  | _, .cup => false
  | _, .fn _ => false
  | _, .ty _ => false
  | _, .exc => false
  | _, .str x => strGood x
  | _, _ => true
def D.eq (x y : D) : Option D := if (x.shal 60 && y.shal 60) = true then some (.bl (D.eqv x y)) else none
def D.ne (x y : D) : Option D := if (x.shal 60 && y.shal 60) = true then some (.bl (!D.eqv x y)) else none
/-- two texts, whatever their signs -/
def D.eqS : D → D → Option D
  | .str x, .str y => some (.bl (x == y))
  | _, _ => none
def D.isNon : D → Bool
  | .non => true
  | _ => false
/-- x is None (the right side written) -/
def D.isN (x y : D) : Option D := match y with
  | .non => some (.bl x.isNon)
  | _ => none
def D.notN (x y : D) : Option D := match y with
  | .non => some (.bl (!x.isNon))
  | _ => none
def D.flat : D → Bool
  | .non => true
  | .bl _ => true
  | .int _ => true
  | .str _ => true
  | _ => false
/-- membership: flat things in a list or tuple of such, or data in a list of data -/
def D.memB (x y : D) : Option Bool := match y.items with
  | none => none
  | some ys => if (x.flat && ys.all D.flat) = true then some (ys.any fun z => D.eqv z x) else (match y with
    | .lst _ => if (x.shal 60 && y.shal 60) = true then some (ys.any fun z => D.eqv z x) else none
    | _ => none)
def D.mem (x y : D) : Option D := (D.memB x y).map .bl
def D.nmem (x y : D) : Option D := (D.memB x y).map fun b => .bl (!b)
def D.isB : D → D → Option D
  | .bl a, .bl b => some (.bl (a == b))
  | _, _ => none
def D.notB : D → D → Option D
  | .bl a, .bl b => some (.bl (!(a == b)))
  | _, _ => none
def D.ix : D → D → Option D
  | .tup xs, .int i => (ixD xs.length i).bind fun j => xs[j]?
  | .lst xs, .int i => (ixD xs.length i).bind fun j => xs[j]?
  | _, _ => none
/-- a slice's end -/
def cutAt (n d : Nat) : Option Int → Nat
  | none => d
  | some i => if i < 0 then (i + (n : Int)).toNat else min i.toNat n
def cutD (xs : List D) (lo hi : Option Int) : List D := (xs.drop (cutAt xs.length 0 lo)).take (cutAt xs.length xs.length hi - cutAt xs.length 0 lo)
def D.slT : D → Option Int → Option Int → Option D
  | .tup xs, lo, hi => some (.tup (cutD xs lo hi))
  | _, _, _ => none
def D.slL : D → Option Int → Option Int → Option D
  | .lst xs, lo, hi => some (.lst (cutD xs lo hi))
  | _, _, _ => none

/-! ### built-in functions by values -/
def bLen : List D → Option D
  | [.tup xs] => some (.int xs.length)
  | [.lst xs] => some (.int xs.length)
  | [.str x] => if x.length ≤ sizeL then some (.int x.length) else none
  | _ => none
def bAbs : List D → Option D
  | [.int i] => some (.int (if i < 0 then -i else i))
  | _ => none
def bMax2 : List D → Option D
  | [.int i, .int j] => some (.int (if j > i then j else i))
  | _ => none
def bMin2 : List D → Option D
  | [.int i, .int j] => some (.int (if j < i then j else i))
  | _ => none
def bInt : List D → Option D
  | [.int i] => some (.int i)
  | [.bl b] => some (.int (if b = true then 1 else 0))
  | _ => none
def bTuple : List D → Option D
  | [.tup xs] => some (.tup xs)
  | [.lst xs] => some (.tup xs)
  | _ => none
/-- a new list -/
def bList : List D → Option D
  | [.tup xs] => some (.lst xs)
  | [.lst xs] => some (.lst xs)
  | _ => none
def intsOf : List D → Option (List Int)
  | [] => some []
  | .int i :: r => (intsOf r).map (i :: ·)
  | _ :: _ => none
def bools : List D → Option (List Bool)
  | [] => some []
  | .bl b :: r => (bools r).map (b :: ·)
  | _ :: _ => none
def bSum : List D → Option D
  | [.lst xs] => (intsOf xs).map fun ns => .int ns.sum
  | _ => none
def bAll : List D → Option D
  | [.lst xs] => (bools xs).map fun bs => .bl (bs.all id)
  | _ => none
def bAny : List D → Option D
  | [.lst xs] => (bools xs).map fun bs => .bl (bs.any id)
  | _ => none
def D.kind : D → Nat
  | .non => 0
  | .bl _ => 1
  | .int _ => 2
  | .str _ => 3
  | .tup _ => 4
  | .lst _ => 5
  | _ => 9
/-- isinstance(x, T): T by its number: 1 bool, 2 int, 3 str, 4 tuple, 5 list -/
def bIsi : List D → Option D
  | [x, .ty t] => if x.kind ≤ 5 ∧ 1 ≤ t ∧ t ≤ 5 then some (.bl (x.kind == t || (x.kind == 1 && t == 2))) else none
  | _ => none
def bStr : List D → Option D
  | [.int i] => if i.natAbs < 10 ^ 500 then some (.str (toString i |> Str.ofString)) else none
  | _ => none
end DL
namespace DL
/-! ### by any kind -/
def D.addA (x y : D) : Option D := (D.add x y).or (D.cat x y)
def D.mulA (x y : D) : Option D := (D.mul x y).or ((D.rep x y).or (D.repT x y))
def D.slA (x : D) (lo hi : Option Int) : Option D := (D.slT x lo hi).or (D.slL x lo hi)
/-! ### the cup -/
def cupGet (c : C) (k : Nat) : Int := if k = 0 then c.a else c.b
def cupPut (c : C) (k : Nat) (i : Int) : C := if k = 0 then ⟨i, c.b⟩ else ⟨c.a, i⟩
/-- cup[k], the cup in slot i -/
def dCup (i k : Nat) : DE := fun env c => match env[i]? with
  | some (.val .cup) => .ok (.pl (.int (cupGet c k))) c
  | _ => .st
/-- cup[k] = e -/
def sCup (i k : Nat) (e : DE) : DS := fun env c => match env[i]? with
  | some (.val .cup) => F.of (e env c) env fun x c => (match x.d with
    | .int j => .nx env (cupPut c k j)
    | _ => .st)
  | _ => .st
end DL
namespace DL
/-! ### more -/
/-- a test by a truth value alone -/
def tBl (e : DE) : DT := fun env c => (e env c).bind fun x c => match x.d with
  | .bl k => .ok k c
  | _ => .st
def m_gcd : List D → Option D
  | [.int a, .int b] => some (.int ((Nat.gcd a.natAbs b.natAbs : Nat) : Int))
  | _ => none
def fallD (n : Int) (k : Nat) : Int := (List.range k).foldl (fun (p : Int) (i : Nat) => p * (n - (i : Int))) 1
def m_comb : List D → Option D
  | [.int n, .int k] => if 0 ≤ n ∧ 0 ≤ k ∧ n ≤ 1000 then some (.int (if k > n then 0 else fallD n (min k (n - k)).toNat / fallD (min k (n - k)) (min k (n - k)).toNat)) else none
  | _ => none
end DL
namespace DL
open PySem (Str)
/-! ### errors caught -/
def strsOf : List D → Option (List Str)
  | [] => some []
  | .str x :: r => (strsOf r).map (x :: ·)
  | _ :: _ => none
/-- s.join(xs) -/
def D.join : D → D → Option D
  | .str s, .lst xs => (strsOf xs).bind fun ys => if (ys.map (·.length)).sum + ys.length * s.length ≤ 16777216 then some (.str (Str.join s ys)) else none
  | .str s, .tup xs => (strsOf xs).bind fun ys => if (ys.map (·.length)).sum + ys.length * s.length ≤ 16777216 then some (.str (Str.join s ys)) else none
  | _, _ => none
/-- isinstance(e, the k-th class), e the error x in hand, in slot i -/
def dIsX (sub : Nat → Nat → Bool) (x : Ex) (i k : Nat) : DE := fun env c => match env[i]? with
  | some (.val .exc) => .ok (.pl (.bl (sub x.cls k))) c
  | _ => .st
/-- try: lam() / except .. as e: suite / rest -/
def semTry (n ie : Nat) (catch_ : Nat → Bool) (suite : Ex → DS) (rest : DS) (lam : C → R D) : C → R D := fun c => match lam c with
  | .ok _ c => (match rest (List.replicate n .no) c with
    | .nx _ c => .ok .non c
    | .rt d c => .ok d c
    | _ => .st)
  | .er x c => if (catch_ x.cls && x.arg.isNon) = true then (match suite x ((List.replicate n .no).set ie (.val .exc)) c with
    | .rt d c => if d.flat = true then .ok d c else .st
    | _ => .st) else .st
  | .st => .st
/-- f(lambda: body) -/
def dLam (sem : (C → R D) → C → R D) (body : DE) : DE := fun env c => match sem (fun c => (body env c).bind fun x c => .ok x.d c) c with
  | .ok d c => .ok (.pl d) c
  | _ => .st
/-- lists only -/
def iLst (e : DE) : DI := fun env c => (e env c).bind fun x c => match x.d with
  | .lst xs => .ok xs c
  | _ => .st
end DL
namespace DL
/-- a call of what slot i holds: one of the defs of the table -/
def dCallV (tbl : Nat → Option Sem) (i : Nat) (es : List DE) : DE := fun env c => match env[i]? with
  | some (.val (.fn k)) => (match tbl k with
    | some sem => dCall sem es env c
    | none => .st)
  | _ => .st
end DL
namespace DL
/-- xs[::-1] -/
def D.revA : D → Option D
  | .lst xs => some (.lst xs.reverse)
  | _ => none
end DL
namespace DL
def D.subB : D → D → Option D
  | .bl a, .bl b => some (.int ((if a = true then 1 else 0) - (if b = true then 1 else 0)))
  | _, _ => none
def D.subA (x y : D) : Option D := (D.sub x y).or (D.subB x y)
end DL
namespace DL
/-- a, b = a list -/
def tgL (ts : List TG) : TG := fun x env => match x with
  | .lst xs => tgAll ts xs env
  | _ => none
end DL

set_option Elab.async false
set_option linter.all false
set_option maxRecDepth 100000
set_option maxHeartbeats 4000000
set_option autoImplicit false
/-! ## values by data: the relation -/
namespace DL
open PySem PySem.Spec PyProof.Rows L2
/-- what is fixed for a whole law: the tables of code objects, the names of functions and of errors by number, what an error bears -/
structure Zp where
  T : List (Addr × Str)
  fnm : Nat → Str
  xnm : Nat → Str
  xfl : Nat → Str
  ex : Option Addr := none
def tyName : Nat → String
  | 1 => "bool"
  | 2 => "int"
  | 3 => "str"
  | 4 => "tuple"
  | 5 => "list"
  | _ => "object"
structure Yp where
  K : PySem.W.Frag
  mg : Str → Option Value
  Z : Zp
mutual
inductive Wt (Y : Yp) (G : Hp) (ca : Option Addr) : V → D → Prop
  | non : Wt Y G ca .non .non
  | bl (b : Bool) : Wt Y G ca (.bl b) (.bl b)
  | int (i : Int) : Wt Y G ca (.int i) (.int i)
  | str (x : Str) : Wt Y G ca (.str x) (.str x)
  | tup {a : Addr} {vs : List V} {ds : List D} : SqT Y.K G a vs → Wts Y G ca vs ds → ds.length ≤ sizeL → Wt Y G ca (.ref a) (.tup ds)
  | lst {a : Addr} {vs : List V} {ds : List D} : G a = some (.lst vs) → Wts Y G ca vs ds → ds.length ≤ sizeL → Wt Y G ca (.ref a) (.lst ds)
  | cup {a : Addr} : ca = some a → Wt Y G ca (.ref a) .cup
  | fn {k : Nat} {a : Addr} : Y.mg (Y.Z.fnm k) = some (.ref a) → Wt Y G ca (.ref a) (.fn k)
  | ty (k : Nat) : Wt Y G ca (.ty (tyName k)) (.ty k)
  | exc {a : Addr} : Y.Z.ex = some a → Wt Y G ca (.ref a) .exc
inductive Wts (Y : Yp) (G : Hp) (ca : Option Addr) : List V → List D → Prop
  | nil : Wts Y G ca [] []
  | cons {v : V} {vs : List V} {d : D} {ds : List D} : Wt Y G ca v d → Wts Y G ca vs ds → Wts Y G ca (v :: vs) (d :: ds)
end
theorem rd_mono {G G' : Hp} {a : Addr} {u : HO} (e : Same G G') (h : Rd G a u) : Rd G' a u := by
  rcases h with h | ⟨o, h⟩
  · exact .inl (e _ _ h)
  · exact .inr ⟨o, e _ _ h⟩
theorem sqT_mono {K : PySem.W.Frag} {G G' : Hp} {a : Addr} {vs : List V} (e : Same G G') (h : SqT K G a vs) : SqT K G' a vs := h.imp (rd_mono e) id
theorem sqL_mono {K : PySem.W.Frag} {G G' : Hp} {a : Addr} {vs : List V} (e : Same G G') (h : SqL K G a vs) : SqL K G' a vs := h.imp (rd_mono e) id
section
variable {Y : Yp} {G G' : Hp} {ca ca' : Option Addr}
mutual
theorem Wt.mono (e : Same G G') (k : ∀ a, ca = some a → ca' = some a) : ∀ {v : V} {d : D}, Wt Y G ca v d → Wt Y G' ca' v d
  | _, _, .non => .non
  | _, _, .bl b => .bl b
  | _, _, .int i => .int i
  | _, _, .str x => .str x
  | _, _, .tup h r l => .tup (sqT_mono e h) (Wts.mono e k r) l
  | _, _, .lst h r l => .lst (e _ _ h) (Wts.mono e k r) l
  | _, _, .cup h => .cup (k _ h)
  | _, _, .fn h => .fn h
  | _, _, .ty k => .ty k
  | _, _, .exc h => .exc h
theorem Wts.mono (e : Same G G') (k : ∀ a, ca = some a → ca' = some a) : ∀ {vs : List V} {ds : List D}, Wts Y G ca vs ds → Wts Y G' ca' vs ds
  | _, _, .nil => .nil
  | _, _, .cons h r => .cons (Wt.mono e k h) (Wts.mono e k r)
end
theorem Wts.length : ∀ {vs : List V} {ds : List D}, Wts Y G ca vs ds → vs.length = ds.length
  | _, _, .nil => rfl
  | _, _, .cons _ r => congrArg (· + 1) (Wts.length r)
theorem Wts.append : ∀ {vs us : List V} {ds es : List D}, Wts Y G ca vs ds → Wts Y G ca us es → Wts Y G ca (vs ++ us) (ds ++ es)
  | _, _, _, _, .nil, h => h
  | _, _, _, _, .cons h r, k => .cons h (Wts.append r k)
theorem Wts.take : ∀ {vs : List V} {ds : List D} (n : Nat), Wts Y G ca vs ds → Wts Y G ca (vs.take n) (ds.take n)
  | _, _, 0, _ => by simp only [List.take_zero]; exact .nil
  | _, _, _ + 1, .nil => .nil
  | _, _, n + 1, .cons h r => .cons h (Wts.take n r)
theorem Wts.drop : ∀ {vs : List V} {ds : List D} (n : Nat), Wts Y G ca vs ds → Wts Y G ca (vs.drop n) (ds.drop n)
  | _, _, 0, h => h
  | _, _, _ + 1, .nil => .nil
  | _, _, n + 1, .cons _ r => Wts.drop n r
theorem Wts.get : ∀ {vs : List V} {ds : List D} {i : Nat} {d : D}, Wts Y G ca vs ds → ds[i]? = some d → ∃ v, vs[i]? = some v ∧ Wt Y G ca v d
  | _, _, i, _, .nil, e => by simp at e
  | _, _, 0, _, .cons h _, e => by simp at e; subst e; exact ⟨_, rfl, h⟩
  | _, _, i + 1, d, .cons _ r, e => by
    obtain ⟨v, h1, h2⟩ := Wts.get (i := i) (d := d) r (by simpa using e)
    exact ⟨v, by simpa using h1, h2⟩
theorem Wts.set {v : V} {d : D} (h : Wt Y G ca v d) : ∀ {vs : List V} {ds : List D} (i : Nat), Wts Y G ca vs ds → Wts Y G ca (vs.set i v) (ds.set i d)
  | _, _, _, .nil => .nil
  | _, _, 0, .cons _ r => .cons h r
  | _, _, i + 1, .cons q r => .cons q (Wts.set h i r)
theorem Wts.reverse : ∀ {vs : List V} {ds : List D}, Wts Y G ca vs ds → Wts Y G ca vs.reverse ds.reverse
  | _, _, .nil => .nil
  | _, _, .cons h r => by
    rw [List.reverse_cons, List.reverse_cons]
    exact Wts.append (Wts.reverse r) (.cons h .nil)
theorem Wts.eraseIdx : ∀ {vs : List V} {ds : List D} (i : Nat), Wts Y G ca vs ds → Wts Y G ca (vs.eraseIdx i) (ds.eraseIdx i)
  | _, _, _, .nil => .nil
  | _, _, 0, .cons _ r => r
  | _, _, i + 1, .cons q r => .cons q (Wts.eraseIdx i r)
theorem Wts.flat {vs : List V} {ds : List D} (h : Wts Y G ca vs ds) : ∀ n : Nat, Wts Y G ca (List.replicate n vs).flatten (List.replicate n ds).flatten
  | 0 => by simpa using Wts.nil
  | n + 1 => by
    rw [List.replicate_succ, List.replicate_succ, List.flatten_cons, List.flatten_cons]
    exact h.append (Wts.flat h n)
theorem flat_len {α : Type} (vs : List α) (n : Nat) : (List.replicate n vs).flatten.length = vs.length * n := by
  induction n with
  | zero => simp
  | succ n ih => rw [List.replicate_succ, List.flatten_cons, List.length_append, ih, Nat.mul_succ, Nat.add_comm]
theorem Wts.ints : ∀ {vs : List V} {ds : List D} {ns : List Int}, Wts Y G ca vs ds → DL.intsOf ds = some ns → vs = ns.map V.int
  | _, _, ns, .nil, e => by simp [DL.intsOf] at e; subst e; rfl
  | _, _, ns, .cons h r, e => by
    cases h <;> simp only [DL.intsOf] at e <;> first | cases e | skip
    simp only [Option.map_eq_some_iff] at e
    obtain ⟨ms, e1, rfl⟩ := e
    rw [Wts.ints r e1]
    rfl
theorem Wts.bools : ∀ {vs : List V} {ds : List D} {ns : List Bool}, Wts Y G ca vs ds → DL.bools ds = some ns → vs = ns.map V.bl
  | _, _, ns, .nil, e => by simp [DL.bools] at e; subst e; rfl
  | _, _, ns, .cons h r, e => by
    cases h <;> simp only [DL.bools] at e <;> first | cases e | skip
    simp only [Option.map_eq_some_iff] at e
    obtain ⟨ms, e1, rfl⟩ := e
    rw [Wts.bools r e1]
    rfl
theorem Wts.ofInts : ∀ ns : List Int, Wts Y G ca (ns.map V.int) (ns.map D.int)
  | [] => .nil
  | n :: r => .cons (.int n) (Wts.ofInts r)
end

/-- the abstract heap of a law's state: G what never changes again, ca the cup's place -/
structure RS0 (Y : Yp) (G : Hp) (ca : Option Addr) (H : Hp) (c : C) : Prop where
  le : Same G H
  tab : LamX.Tabs Y.Z.T H
  cup : ∀ a, ca = some a → H a = some (.lst [.int c.a, .int c.b]) ∧ G a = none
  nt : ∀ b ps, G b ≠ some (.tbl ps)
/-- nothing stands at b but, maybe, a table -/
def NoO (H : Hp) (b : Addr) : Prop := ∀ o, H b = some o → ∃ ps, o = .tbl ps
theorem NoO.of {H : Hp} {b : Addr} (h : H b = none) : NoO H b := fun o e => by rw [h] at e; cases e
theorem NoO.no {H : Hp} {b : Addr} {o : HO} (h : NoO H b) (e : H b = some o) (n : ∀ ps, o ≠ .tbl ps) : False := by
  obtain ⟨ps, z⟩ := h o e
  exact n ps z
structure Stp (G : Hp) (ca : Option Addr) (H G' : Hp) (ca' : Option Addr) (H' : Hp) : Prop where
  le : Same G G'
  nw : ∀ b o, G' b = some o → G b = some o ∨ NoO H b
  dm : ∀ b, NoO H' b → NoO H b
  fr : ∀ b o, H b = some o → (∀ ps, o ≠ .tbl ps) → ca ≠ some b → H' b = some o
  cl : ∀ a, ca = some a → ca' = some a
  cn : ∀ a, ca' = some a → ca = some a ∨ NoO H a
section
variable {Y : Yp} {G G' G'' H H' H'' : Hp} {ca ca' ca'' : Option Addr} {c c' : C}
theorem Stp.refl : Stp G ca H G ca H := ⟨fun _ _ h => h, fun _ _ h => .inl h, fun _ h => h, fun _ _ h _ _ => h, fun _ h => h, fun _ h => .inl h⟩
theorem Stp.trans (s : Stp G ca H G' ca' H') (t : Stp G' ca' H' G'' ca'' H'') : Stp G ca H G'' ca'' H'' where
  le := fun b o h => t.le b o (s.le b o h)
  nw := fun b o h => by
    rcases t.nw b o h with h | h
    · exact s.nw b o h
    · exact .inr (s.dm b h)
  dm := fun b h => s.dm b (t.dm b h)
  fr := fun b o h n k => by
    refine t.fr b o (s.fr b o h n k) n fun z => ?_
    rcases s.cn b z with z | z
    · exact k z
    · exact z.no h n
  cl := fun a h => t.cl a (s.cl a h)
  cn := fun a h => by
    rcases t.cn a h with h | h
    · exact s.cn a h
    · exact .inr (s.dm a h)
/-- a new object that may be changed later: not in G -/
theorem Stp.new {p : Addr} {o : HO} (hp : H p = none) : Stp G ca H G ca (upd H p o) where
  le := fun _ _ h => h
  nw := fun _ _ h => .inl h
  dm := fun b h => by
    by_cases e : b = p
    · subst e; exact .of hp
    · exact fun u hu => h u (by rw [upd_ne e]; exact hu)
  fr := fun b u h _ _ => by rw [upd_ne (ne_of_none h hp)]; exact h
  cl := fun _ h => h
  cn := fun _ h => .inl h
theorem RS0.new (r : RS0 Y G ca H c) {p : Addr} {o : HO} (hp : H p = none) : RS0 Y G ca (upd H p o) c where
  le := fun b u h => by rw [upd_ne (ne_of_none (r.le b u h) hp)]; exact r.le b u h
  tab := r.tab.ext fun b u h => by rw [upd_ne (ne_of_none h hp)]; exact h
  cup := fun a h => by
    obtain ⟨h1, h2⟩ := r.cup a h
    exact ⟨by rw [upd_ne (ne_of_none h1 hp)]; exact h1, h2⟩
  nt := r.nt
theorem RS0.free (r : RS0 Y G ca H c) {p : Addr} (hp : H p = none) : G p = none := by
  cases e : G p with
  | none => rfl
  | some o => rw [r.le p o e] at hp; cases hp
/-- an object that stands, that is neither the cup nor known to G, is known from now on -/
theorem RS0.frz (r : RS0 Y G ca H c) {p : Addr} {o : HO} (hp : H p = some o) (hg : G p = none) (hc : ca ≠ some p) (ho : ∀ ps, o ≠ .tbl ps := by intro _ z; cases z) : RS0 Y (upd G p o) ca H c where
  le := fun b u h => by
    by_cases e : b = p
    · subst e; rw [upd_same] at h; cases h; exact hp
    · rw [upd_ne e] at h; exact r.le b u h
  tab := r.tab
  cup := fun a h => by
    obtain ⟨h1, h2⟩ := r.cup a h
    refine ⟨h1, ?_⟩
    rw [upd_ne (fun z => hc (by rw [← z]; exact h))]
    exact h2
  nt := fun b ps h => by
    by_cases e : b = p
    · subst e
      rw [upd_same] at h
      cases h
      exact ho ps rfl
    · rw [upd_ne e] at h
      exact r.nt b ps h
theorem same_upd {G : Hp} {p : Addr} {o : HO} (hg : G p = none) : Same G (upd G p o) := fun b u h => by rw [upd_ne (ne_of_none h hg)]; exact h
theorem Stp.newG (r : RS0 Y G ca H c) {p : Addr} {o : HO} (hp : H p = none) : Stp G ca H (upd G p o) ca (upd H p o) where
  le := same_upd (r.free hp)
  nw := fun b u h => by
    by_cases e : b = p
    · subst e; exact .inr (.of hp)
    · rw [upd_ne e] at h; exact .inl h
  dm := (Stp.new (G := G) (ca := ca) (o := o) hp).dm
  fr := (Stp.new (G := G) (ca := ca) (o := o) hp).fr
  cl := fun _ h => h
  cn := fun _ h => .inl h
theorem RS0.ncup (r : RS0 Y G ca H c) {p : Addr} (hp : H p = none) : ca ≠ some p := fun z => by rw [(r.cup p z).1] at hp; cases hp
theorem RS0.newG (r : RS0 Y G ca H c) {p : Addr} {o : HO} (hp : H p = none) (ho : ∀ ps, o ≠ .tbl ps := by intro _ z; cases z) : RS0 Y (upd G p o) ca (upd H p o) c :=
  (r.new hp).frz upd_same (r.free hp) (r.ncup hp) ho
end

/-- where the def was entered -/
structure En where
  G : Hp
  ca : Option Addr
  H : Hp
structure RS (Y : Yp) (N : En) (G : Hp) (ca : Option Addr) (σ : L2.St) (H : Hp) (env : Env) (c : C) : Prop where
  r0 : RS0 Y G ca H c
  st : Stp N.G N.ca N.H G ca H
  len : env.length = σ.length
  val : ∀ (i : Nat) (d : D), env[i]? = some (.val d) → ∃ v, σ[i]? = some (some v) ∧ Wt Y G ca v d
  own : ∀ (i : Nat) (xs : List D), env[i]? = some (.own xs) → ∃ a vs, σ[i]? = some (some (.ref a)) ∧ H a = some (.lst vs) ∧ Wts Y G ca vs xs ∧ G a = none ∧ ca ≠ some a ∧ NoO N.H a ∧ xs.length ≤ sizeL
  sep : ∀ (i j : Nat) (xs ys : List D) (a : Addr), env[i]? = some (.own xs) → env[j]? = some (.own ys) → σ[i]? = some (some (.ref a)) → σ[j]? = some (some (.ref a)) → i = j
/-- a value at hand -/
def WtR (Y : Yp) (G : Hp) (ca : Option Addr) (σ : L2.St) (env : Env) (v : V) : RV → Prop
  | .pl d => Wt Y G ca v d
  | .ow i xs => env[i]? = some (.own xs) ∧ σ[i]? = some (some v)
/-- .. as it may be read -/
def WtS (Y : Yp) (G H : Hp) (ca : Option Addr) (v : V) (d : D) : Prop :=
  Wt Y G ca v d ∨ ∃ a vs xs, v = .ref a ∧ d = .lst xs ∧ H a = some (.lst vs) ∧ Wts Y G ca vs xs ∧ xs.length ≤ sizeL
section
variable {Y : Yp} {N : En} {G G' H H' : Hp} {ca ca' : Option Addr} {σ : L2.St} {env : Env} {c c' : C} {v : V} {rv : RV} {d : D}
theorem notbl {vs : List V} : ∀ ps, HO.lst vs ≠ HO.tbl ps := fun ps z => by cases z
theorem RS.step (r : RS Y N G ca σ H env c) (s : Stp G ca H G' ca' H') (r' : RS0 Y G' ca' H' c') : RS Y N G' ca' σ H' env c' where
  r0 := r'
  st := r.st.trans s
  len := r.len
  val := fun i d h => by
    obtain ⟨v, h1, h2⟩ := r.val i d h
    exact ⟨v, h1, h2.mono s.le s.cl⟩
  own := fun i xs h => by
    obtain ⟨a, vs, h1, h2, h3, h4, h5, h6, h7⟩ := r.own i xs h
    refine ⟨a, vs, h1, s.fr a _ h2 notbl h5, h3.mono s.le s.cl, ?_, fun z => ?_, h6, h7⟩
    · cases e : G' a with
      | none => rfl
      | some o =>
        rcases s.nw a o e with z | z
        · rw [h4] at z; cases z
        · exact (z.no h2 notbl).elim
    · rcases s.cn a z with z | z
      · exact h5 z
      · exact z.no h2 notbl
  sep := r.sep
theorem WtR.step (w : WtR Y G ca σ env v rv) (s : Stp G ca H G' ca' H') : WtR Y G' ca' σ env v rv := by
  cases rv with
  | pl d => exact Wt.mono s.le s.cl w
  | ow i xs => exact w
theorem WtR.read (r : RS Y N G ca σ H env c) (w : WtR Y G ca σ env v rv) : WtS Y G H ca v rv.d := by
  cases rv with
  | pl d => exact .inl w
  | ow i xs =>
    obtain ⟨w1, w2⟩ := w
    obtain ⟨a, vs, h1, h2, h3, _, _, _, h7⟩ := r.own i xs w1
    rw [h1] at w2
    cases w2
    exact .inr ⟨a, vs, xs, rfl, rfl, h2, h3, h7⟩
/-- all of it as it stands in H -/
theorem WtS.all (r : RS0 Y G ca H c) (w : WtS Y G H ca v d) : Wt Y H ca v d := by
  rcases w with w | ⟨a, vs, xs, rfl, rfl, h, w, l⟩
  · exact w.mono r.le fun _ h => h
  · exact .lst h (w.mono r.le fun _ h => h) l
theorem WtS.bl (w : WtS Y G H ca v (.bl true) ∨ WtS Y G H ca v (.bl false)) : ∃ b, v = .bl b := by
  rcases w with (w | ⟨_, _, _, _, e, _⟩) | (w | ⟨_, _, _, _, e, _⟩)
  · cases w; exact ⟨_, rfl⟩
  · cases e
  · cases w; exact ⟨_, rfl⟩
  · cases e
/-- plain, unless it is a list -/
theorem WtS.atom (w : WtS Y G H ca v d) (h : ∀ xs, d ≠ .lst xs) : Wt Y G ca v d := by
  rcases w with w | ⟨_, _, _, _, e, _⟩
  · exact w
  · exact absurd e (h _)
theorem WtS.lst {xs : List D} (r : RS0 Y G ca H c) (w : WtS Y G H ca v (.lst xs)) : ∃ a vs, v = .ref a ∧ H a = some (.lst vs) ∧ Wts Y G ca vs xs ∧ xs.length ≤ sizeL := by
  rcases w with w | ⟨a, vs, ys, e1, e, h, w, l⟩
  · cases w with
    | lst h w l => exact ⟨_, _, rfl, r.le _ _ h, w, l⟩
  · cases e
    exact ⟨a, vs, e1, h, w, l⟩
theorem sql {K : PySem.W.Frag} {a : Addr} {vs : List V} (h : H a = some (.lst vs)) : SqL K H a vs := .inl (.inl h)
theorem WtS.tup {xs : List D} (r : RS0 Y G ca H c) (w : WtS Y G H ca v (.tup xs)) : ∃ a vs, v = .ref a ∧ SqT Y.K H a vs ∧ Wts Y G ca vs xs ∧ xs.length ≤ sizeL := by
  cases w.atom (fun _ e => by cases e) with
  | tup h w l => exact ⟨_, _, rfl, sqT_mono r.le h, w, l⟩
end

/-! ### readings -/
abbrev yOf (X : Cx) (Z : Zp) : Yp := ⟨X.K, X.mg, Z⟩
/-- the error's class and its own dict -/
def IsX (Y : Yp) (x : Ex) (cls : Value) (dd : Option Addr) (H : Hp) : Prop := ∃ a, Y.mg (Y.Z.xnm x.cls) = some (.ref a) ∧ cls = .ref a ∧
  (match x.arg with
    | .non => dd = none
    | .int i => ∃ dx, dd = some dx ∧ H dx = some (.xd [(Y.Z.xfl x.cls, .int i)])
    | _ => False)
/-- what follows an error -/
def Bad (Y : Yp) (N : En) (W : WX) (σ : L2.St) (env : Env) (x : Ex) (c : C) (G : Hp) (ca : Option Addr) (H : Hp) : Prop :=
  ∀ cls dd G' ca' H', IsX Y x cls dd H' → Stp G ca H G' ca' H' → RS Y N G' ca' σ H' env c → W cls dd σ H'
def tD (Y : Yp) (N : En) (W : WX) (f : DE) : TE := fun σ H Q => ∃ G ca env c, RS Y N G ca σ H env c ∧ (match f env c with
  | .ok rv c' => ∀ G' ca' H' v, Stp G ca H G' ca' H' → RS Y N G' ca' σ H' env c' → WtR Y G' ca' σ env v rv → Q v H'
  | .er x c' => Bad Y N W σ env x c' G ca H
  | .st => False)
/-- e makes a new list -/
def tDO (Y : Yp) (N : En) (W : WX) (f : DE) : TE := fun σ H Q => ∃ G ca env c, RS Y N G ca σ H env c ∧ (match f env c with
  | .ok rv c' => ∃ ds, rv = .pl (.lst ds) ∧ ∀ G' ca' H' a vs, Stp G ca H G' ca' H' → RS Y N G' ca' σ H' env c' → NoO H a → H' a = some (.lst vs) → G' a = none → ca' ≠ some a → Wts Y G' ca' vs ds → ds.length ≤ sizeL → Q (.ref a) H'
  | .er x c' => Bad Y N W σ env x c' G ca H
  | .st => False)
def tDT (Y : Yp) (N : En) (W : WX) (f : DT) : TT := fun σ H Q => ∃ G ca env c, RS Y N G ca σ H env c ∧ (match f env c with
  | .ok b c' => ∀ G' ca' H', Stp G ca H G' ca' H' → RS Y N G' ca' σ H' env c' → Q b H'
  | .er x c' => Bad Y N W σ env x c' G ca H
  | .st => False)
def WtRs (Y : Yp) (G : Hp) (ca : Option Addr) (σ : L2.St) (env : Env) : List V → List RV → Prop := Paired (WtR Y G ca σ env)
def tDA (Y : Yp) (N : En) (W : WX) (f : DA) : TA := fun σ H Q => ∃ G ca env c, RS Y N G ca σ H env c ∧ (match f env c with
  | .ok rvs c' => ∀ G' ca' H' vs, Stp G ca H G' ca' H' → RS Y N G' ca' σ H' env c' → WtRs Y G' ca' σ env vs rvs → Q vs H'
  | .er x c' => Bad Y N W σ env x c' G ca H
  | .st => False)
section
variable {X : Cx} {Z : Zp} {N : En} {W : WX}
abbrev PD (X : Cx) (Z : Zp) (N : En) (W : WX) (e : Expr) (f : DE) : Prop := PE X e (tD (yOf X Z) N W f)
abbrev PDO (X : Cx) (Z : Zp) (N : En) (W : WX) (e : Expr) (f : DE) : Prop := PE X e (tDO (yOf X Z) N W f)
abbrev PDT (X : Cx) (Z : Zp) (N : En) (W : WX) (e : Expr) (f : DT) : Prop := PT X e (tDT (yOf X Z) N W f)
abbrev PDA (X : Cx) (Z : Zp) (N : En) (W : WX) (es : List Expr) (f : DA) : Prop := PA X es (tDA (yOf X Z) N W f)
theorem pe_imp {e : Expr} {t t' : TE} (h : PE X e t) (i : ∀ σ H Q, t' σ H Q → t σ H Q) : PE X e t' := ⟨fun pins s σ H Q I q => h.run pins s σ H Q I (i _ _ _ q)⟩
theorem pt_imp {e : Expr} {t t' : TT} (h : PT X e t) (i : ∀ σ H Q, t' σ H Q → t σ H Q) : PT X e t' := ⟨fun pins s σ H Q I q => h.run pins s σ H Q I (i _ _ _ q)⟩
theorem pw_imp {e : Expr} {t t' : TT} (h : PW X e t) (i : ∀ σ H Q, t' σ H Q → t σ H Q) : PW X e t' := ⟨fun whole pins s σ H Q I q => h.run whole pins s σ H Q I (i _ _ _ q)⟩
theorem pa_imp {es : List Expr} {t t' : TA} (h : PA X es t) (i : ∀ σ H Q, t' σ H Q → t σ H Q) : PA X es t' := ⟨fun pos pins s σ H Q I q => h.run pos pins s σ H Q I (i _ _ _ q)⟩
theorem ps_imp {e : Stmt} {t t' : TS} (h : PS X e t) (i : ∀ D σ H, t' D σ H → t D σ H) : PS X e t' := ⟨fun pins s σ H D I q => h.run pins s σ H D I (i _ _ _ q)⟩
theorem pss_imp {e : List Stmt} {t t' : TS} (h : PSs X e t) (i : ∀ D σ H, t' D σ H → t D σ H) : PSs X e t' := ⟨fun pins s σ H D I q => h.run pins s σ H D I (i _ _ _ q)⟩
theorem pi_imp {tg e : Expr} {t t' : TI} (h : PI X tg e t) (i : ∀ σ H Q, t' σ H Q → t σ H Q) : PI X tg e t' := ⟨fun pins s σ H Q I q => h.run pins s σ H Q I (i _ _ _ q)⟩
theorem pg_imp {e : Expr} {t t' : L2.TG} (h : PG X e t) (i : ∀ v σ H Q, t' v σ H Q → t v σ H Q) : PG X e t' := ⟨fun pins s σ H v u Q I r q => h.run pins s σ H v u Q I r (i _ _ _ _ q)⟩

theorem Bad.back {Y : Yp} {σ : L2.St} {env : Env} {x : Ex} {c : C} {G G' H H' : Hp} {ca ca' : Option Addr} (b : Bad Y N W σ env x c G ca H) (s : Stp G ca H G' ca' H') : Bad Y N W σ env x c G' ca' H' :=
  fun cls dd G2 ca2 H2 h1 h2 h3 => b cls dd G2 ca2 H2 h1 (s.trans h2) h3

/-! ### names and constants -/
theorem pd_var {i : Nat} {x : Str} {pos : Pos} (hN : X.N[i]? = some x) (hv : Vis X.env.scope x) (hd : (x == ("__debug__" : Str)) = false) (hcd : (x == ("__classdict__" : Str)) = false) : PD X Z N W (.Name x pos) (dVar i) := by
  refine pe_imp (pe_var hN hv hd hcd) fun σ H Q h => ?_
  obtain ⟨G, ca, env, c, r, h⟩ := h
  unfold dVar at h
  cases e : env[i]? with
  | none => rw [e] at h; exact h.elim
  | some s =>
    rw [e] at h
    cases s with
    | no => exact h.elim
    | val d =>
      obtain ⟨v, h1, h2⟩ := r.val i d e
      exact ⟨v, h1, h _ _ _ v .refl r h2⟩
    | own xs =>
      obtain ⟨a, vs, h1, _⟩ := r.own i xs e
      exact ⟨.ref a, h1, h _ _ _ _ .refl r ⟨e, h1⟩⟩
theorem pd_c {e : Expr} {v : V} {d : D} (h : PE X e (tC v)) (w : ∀ G ca, Wt (yOf X Z) G ca v d) : PD X Z N W e (dC d) :=
  pe_imp h fun σ H Q ⟨G, ca, env, c, r, h⟩ => h _ _ _ v .refl r (w _ _)
theorem pd_int {i : Int} {j pos} : PD X Z N W (.Constant (.int i) j pos) (dC (.int i)) := pd_c pe_int fun _ _ => .int i
theorem pd_bl {b : Bool} {j pos} : PD X Z N W (.Constant (.bool b) j pos) (dC (.bl b)) := pd_c pe_bl fun _ _ => .bl b
theorem pd_non {j pos} : PD X Z N W (.Constant .none j pos) (dC .non) := pd_c pe_non fun _ _ => .non
theorem pd_str {x : Str} {j pos} : PD X Z N W (.Constant (.str x) j pos) (dC (.str x)) := pd_c pe_str fun _ _ => .str x
/-- a constant of the module -/
theorem pd_glob {x : Str} {u : Value} {v : V} {d : D} {pos : Pos} (hg : Gl X x) (hm : X.mg x = some u) (r : RelV v u) (w : ∀ G ca, Wt (yOf X Z) G ca v d) (hd : (x == ("__debug__" : Str)) = false) : PD X Z N W (.Name x pos) (dC d) := pd_c (pe_glob hg hm r hd) w

/-! ### what an operation leaves -/
def Done (Y : Yp) (G : Hp) (ca : Option Addr) (H : Hp) (c : C) (d : D) (Q : VK) : Prop := ∀ G' H' v, Stp G ca H G' ca H' → RS0 Y G' ca H' c → Wt Y G' ca v d → Q v H'
def DoneO (Y : Yp) (G : Hp) (ca : Option Addr) (H : Hp) (c : C) (ds : List D) (Q : VK) : Prop := ∀ H' a vs, Stp G ca H G ca H' → RS0 Y G ca H' c → H a = none → H' a = some (.lst vs) → Wts Y G ca vs ds → ds.length ≤ sizeL → Q (.ref a) H'
variable {Y : Yp} {G H : Hp} {ca : Option Addr} {c : C} {Q : VK}
theorem Done.here {d : D} {v : V} (k : Done Y G ca H c d Q) (r : RS0 Y G ca H c) (w : Wt Y G ca v d) : Q v H := k G H v .refl r w
theorem Done.tup {ds : List D} {vs : List V} {p : Addr} (k : Done Y G ca H c (.tup ds) Q) (r : RS0 Y G ca H c) (w : Wts Y G ca vs ds) (hl : ds.length ≤ sizeL) (hp : H p = none) : Q (.ref p) (upd H p (.tup vs)) :=
  k (upd G p (.tup vs)) _ _ (.newG r hp) (r.newG hp) (.tup (.inl (.inl upd_same)) (w.mono (same_upd (r.free hp)) fun _ h => h) hl)
theorem Done.lst {ds : List D} {vs : List V} {p : Addr} (k : Done Y G ca H c (.lst ds) Q) (r : RS0 Y G ca H c) (w : Wts Y G ca vs ds) (hl : ds.length ≤ sizeL) (hp : H p = none) : Q (.ref p) (upd H p (.lst vs)) :=
  k (upd G p (.lst vs)) _ _ (.newG r hp) (r.newG hp) (.lst upd_same (w.mono (same_upd (r.free hp)) fun _ h => h) hl)
theorem DoneO.new {ds : List D} {vs : List V} {p : Addr} (k : DoneO Y G ca H c ds Q) (r : RS0 Y G ca H c) (w : Wts Y G ca vs ds) (hl : ds.length ≤ sizeL) (hp : H p = none) : Q (.ref p) (upd H p (.lst vs)) :=
  k _ _ _ (.new hp) (r.new hp) hp upd_same w hl
theorem Done.o {ds : List D} (k : Done Y G ca H c (.lst ds) Q) (r : RS0 Y G ca H c) : DoneO Y G ca H c ds Q := fun H' a vs s r' hn ha w hl => by
  have ga : G a = none := r.free hn
  refine k (upd G a (.lst vs)) H' (.ref a) ⟨same_upd ga, fun b o h => ?_, s.dm, s.fr, s.cl, s.cn⟩ (r'.frz ha ga (r.ncup hn)) (.lst upd_same (w.mono (same_upd ga) fun _ h => h) hl)
  by_cases e : b = a
  · subst e; exact .inr (.of hn)
  · rw [upd_ne e] at h; exact .inl h
/-- a new list need not be owned -/
theorem pdo_pd {e : Expr} {f : DE} (h : PDO X Z N W e f) (hf : ∀ env c c' rv, f env c = .ok rv c' → ∃ ds, rv = .pl (.lst ds)) : PD X Z N W e f := by
  refine pe_imp h fun σ H Q h => ?_
  obtain ⟨G, ca, env, c, r, h⟩ := h
  refine ⟨G, ca, env, c, r, ?_⟩
  cases e : f env c with
  | st => rw [e] at h; exact h.elim
  | er x c' => rw [e] at h; exact h
  | ok rv c' =>
    rw [e] at h
    obtain ⟨ds, rfl⟩ := hf _ _ _ _ e
    refine ⟨ds, rfl, fun G' ca' H' a vs s r' hn ha ga na w hl => ?_⟩
    have s2 : Stp G ca H (upd G' a (.lst vs)) ca' H' := ⟨s.le.trans (same_upd ga), fun b o h => by
      by_cases e : b = a
      · subst e; exact .inr hn
      · rw [upd_ne e] at h; exact s.nw b o h, s.dm, s.fr, s.cl, s.cn⟩
    exact h _ _ _ (.ref a) s2 (r.step s2 (r'.r0.frz ha ga na)) (Wt.lst upd_same (w.mono (same_upd ga) fun _ h => h) hl)

/-! ### operators -/
/-- a binary operator, by its values -/
def OpD (X : Cx) (Z : Zp) (f : Value → Value → PySem.Sem Value) (g : D → D → Option D) : Prop := ∃ r : R2, OpR X f r ∧
  ∀ (G : Hp) (ca : Option Addr) (H : Hp) (c : C) (x y : V) (dx dy d : D) (Q : VK), RS0 (yOf X Z) G ca H c → WtS (yOf X Z) G H ca x dx → WtS (yOf X Z) G H ca y dy → g dx dy = some d → Done (yOf X Z) G ca H c d Q → r x y H Q
def OpDO (X : Cx) (Z : Zp) (f : Value → Value → PySem.Sem Value) (g : D → D → Option D) : Prop := ∃ r : R2, OpR X f r ∧
  ∀ (G : Hp) (ca : Option Addr) (H : Hp) (c : C) (x y : V) (dx dy d : D) (Q : VK), RS0 (yOf X Z) G ca H c → WtS (yOf X Z) G H ca x dx → WtS (yOf X Z) G H ca y dy → g dx dy = some d → ∃ ds, d = .lst ds ∧ (DoneO (yOf X Z) G ca H c ds Q → r x y H Q)
theorem td2 {N : En} {W : WX} {fa fb : DE} {r : R2} {g : D → D → Option D} {σ : L2.St} (hr : ∀ (G : Hp) (ca : Option Addr) (H : Hp) (c : C) (x y : V) (dx dy d : D) (Q : VK), RS0 Y G ca H c → WtS Y G H ca x dx → WtS Y G H ca y dy → g dx dy = some d → Done Y G ca H c d Q → r x y H Q)
    (h : tD Y N W (dO2 g fa fb) σ H Q) : tOp r (tD Y N W fa) (tD Y N W fb) σ H Q := by
  obtain ⟨G, ca, env, c, rs, h⟩ := h
  refine ⟨G, ca, env, c, rs, ?_⟩
  simp only [dO2] at h
  cases e : fa env c with
  | st => rw [e] at h; exact h
  | er x c1 => rw [e] at h; exact h
  | ok x c1 =>
    rw [e] at h
    simp only [R.bind] at h
    intro G1 ca1 H1 vx s1 r1 w1
    refine ⟨G1, ca1, env, c1, r1, ?_⟩
    cases e2 : fb env c1 with
    | st => rw [e2] at h; exact h
    | er z c2 => rw [e2] at h; exact Bad.back h s1
    | ok y c2 =>
      rw [e2] at h
      intro G2 ca2 H2 vy s2 r2 w2
      dsimp only at h
      cases e3 : g x.d y.d with
      | none => rw [e3] at h; exact h.elim
      | some d =>
        rw [e3] at h
        refine hr G2 ca2 H2 c2 vx vy x.d y.d d Q r2.r0 ((w1.step s2).read r2) (w2.read r2) e3 fun G3 H3 v s3 r3 w3 => ?_
        exact h G3 ca2 H3 v ((s1.trans s2).trans s3) (r2.step s3 r3) w3
theorem pd_bin {op : Operator} {a b : Expr} {fa fb : DE} {g : D → D → Option D} {pos : Pos} (ho : OpD X Z (binaryOp op) g) (ha : PD X Z N W a fa) (hb : PD X Z N W b fb) : PD X Z N W (.BinOp a op b pos) (dO2 g fa fb) := by
  obtain ⟨r, h1, h2⟩ := ho
  exact pe_imp (pe_op h1 ha hb) fun σ H Q h => td2 h2 h
theorem pd_cmp {op : CmpOp} {a b : Expr} {fa fb : DE} {g : D → D → Option D} {pos : Pos} (ho : OpD X Z (compareOp op) g) (ha : PD X Z N W a fa) (hb : PD X Z N W b fb) (hm : behindInMarks op b = false) : PD X Z N W (.Compare a [op] [b] pos) (dO2 g fa fb) := by
  obtain ⟨r, h1, h2⟩ := ho
  exact pe_imp (pe_cmpR h1 ha hb hm) fun σ H Q h => td2 h2 h
theorem td2o {N : En} {W : WX} {fa fb : DE} {r : R2} {g : D → D → Option D} {σ : L2.St} (hr : ∀ (G : Hp) (ca : Option Addr) (H : Hp) (c : C) (x y : V) (dx dy d : D) (Q : VK), RS0 Y G ca H c → WtS Y G H ca x dx → WtS Y G H ca y dy → g dx dy = some d → ∃ ds, d = .lst ds ∧ (DoneO Y G ca H c ds Q → r x y H Q))
    (h : tDO Y N W (dO2 g fa fb) σ H Q) : tOp r (tD Y N W fa) (tD Y N W fb) σ H Q := by
  obtain ⟨G, ca, env, c, rs, h⟩ := h
  refine ⟨G, ca, env, c, rs, ?_⟩
  simp only [dO2] at h
  cases e : fa env c with
  | st => rw [e] at h; exact h
  | er x c1 => rw [e] at h; exact h
  | ok x c1 =>
    rw [e] at h
    simp only [R.bind] at h
    intro G1 ca1 H1 vx s1 r1 w1
    refine ⟨G1, ca1, env, c1, r1, ?_⟩
    cases e2 : fb env c1 with
    | st => rw [e2] at h; exact h
    | er z c2 => rw [e2] at h; exact Bad.back h s1
    | ok y c2 =>
      rw [e2] at h
      intro G2 ca2 H2 vy s2 r2 w2
      dsimp only at h
      cases e3 : g x.d y.d with
      | none => rw [e3] at h; exact h.elim
      | some d =>
        rw [e3] at h
        obtain ⟨ds, e5, hr2⟩ := hr G2 ca2 H2 c2 vx vy x.d y.d d Q r2.r0 ((w1.step s2).read r2) (w2.read r2) e3
        obtain ⟨ds', e4, h⟩ := h
        cases e4
        cases e5
        refine hr2 fun H3 a vs s3 r3 hn ha w3 hl => ?_
        have s12 := s1.trans s2
        exact h G2 ca2 H3 a vs (s12.trans s3) (r2.step s3 r3) (s12.dm _ (.of hn)) ha (r2.r0.free hn) (r2.r0.ncup hn) w3 hl
theorem pdo_bin {op : Operator} {a b : Expr} {fa fb : DE} {g : D → D → Option D} {pos : Pos} (ho : OpDO X Z (binaryOp op) g) (ha : PD X Z N W a fa) (hb : PD X Z N W b fb) : PDO X Z N W (.BinOp a op b pos) (dO2 g fa fb) := by
  obtain ⟨r, h1, h2⟩ := ho
  exact pe_imp (pe_op h1 ha hb) fun σ H Q h => td2o h2 h
theorem opdo {f : Value → Value → PySem.Sem Value} {g : D → D → Option D} (h : OpDO X Z f g) : OpD X Z f g := by
  obtain ⟨r, h1, h2⟩ := h
  refine ⟨r, h1, fun G ca H c x y dx dy d Q rs w1 w2 e k => ?_⟩
  obtain ⟨ds, rfl, h3⟩ := h2 G ca H c x y dx dy d Q rs w1 w2 e
  exact h3 (k.o rs)
theorem opd_or {f : Value → Value → PySem.Sem Value} {g g' : D → D → Option D} (h : OpD X Z f g) (h' : OpD X Z f g') : OpD X Z f (fun x y => (g x y).or (g' x y)) := by
  obtain ⟨r, h1, h2⟩ := h
  obtain ⟨r', h1', h2'⟩ := h'
  refine ⟨_, h1.or h1', fun G ca H c x y dx dy d Q rs w1 w2 e k => ?_⟩
  dsimp only at e
  cases e1 : g dx dy with
  | some d' => rw [e1] at e; cases e; exact .inl (h2 _ _ _ _ _ _ _ _ _ _ rs w1 w2 e1 k)
  | none => rw [e1] at e; exact .inr (h2' _ _ _ _ _ _ _ _ _ _ rs w1 w2 e k)
theorem opd_imp {f : Value → Value → PySem.Sem Value} {g g' : D → D → Option D} (h : OpD X Z f g) (i : ∀ x y d, g' x y = some d → g x y = some d) : OpD X Z f g' := by
  obtain ⟨r, h1, h2⟩ := h
  exact ⟨r, h1, fun G ca H c x y dx dy d Q rs w1 w2 e k => h2 _ _ _ _ _ _ _ _ _ _ rs w1 w2 (i _ _ _ e) k⟩
/-- unary -/
def UnD (X : Cx) (Z : Zp) (f : Value → PySem.Sem Value) (g : D → Option D) : Prop := ∃ r, UnR X f r ∧
  ∀ (G : Hp) (ca : Option Addr) (H : Hp) (c : C) (x : V) (dx d : D) (Q : VK), RS0 (yOf X Z) G ca H c → WtS (yOf X Z) G H ca x dx → g dx = some d → Done (yOf X Z) G ca H c d Q → r x H Q
theorem td1 {N : En} {W : WX} {fa : DE} {r : V → Hp → VK → Prop} {g : D → Option D} {σ : L2.St} (hr : ∀ (G : Hp) (ca : Option Addr) (H : Hp) (c : C) (x : V) (dx d : D) (Q : VK), RS0 Y G ca H c → WtS Y G H ca x dx → g dx = some d → Done Y G ca H c d Q → r x H Q)
    (h : tD Y N W (dO1 g fa) σ H Q) : tD Y N W fa σ H (fun x H1 => r x H1 Q) := by
  obtain ⟨G, ca, env, c, rs, h⟩ := h
  refine ⟨G, ca, env, c, rs, ?_⟩
  simp only [dO1] at h
  cases e : fa env c with
  | st => rw [e] at h; exact h
  | er x c1 => rw [e] at h; exact h
  | ok x c1 =>
    rw [e] at h
    simp only [R.bind] at h
    intro G1 ca1 H1 vx s1 r1 w1
    cases e3 : g x.d with
    | none => rw [e3] at h; exact h.elim
    | some d =>
      rw [e3] at h
      exact hr G1 ca1 H1 c1 vx x.d d Q r1.r0 (w1.read r1) e3 fun G3 H3 v s3 r3 w3 => h G3 ca1 H3 v (s1.trans s3) (r1.step s3 r3) w3
theorem pd_un {op : UnaryOp} {a : Expr} {fa : DE} {g : D → Option D} {pos : Pos} (ho : UnD X Z (unaryOp op) g) (ha : PD X Z N W a fa) : PD X Z N W (.UnaryOp op a pos) (dO1 g fa) := by
  obtain ⟨r, h1, h2⟩ := ho
  exact pe_imp (pe_un h1 ha) fun σ H Q h => td1 h2 h

/-! ### argument lists, displays, calls of built-ins -/
theorem pda_nil : PDA X Z N W [] (dArgs []) := pa_imp pa_nil fun σ H Q ⟨G, ca, env, c, r, h⟩ => h _ _ _ [] .refl r .nil
theorem WtRs.step {σ : L2.St} {env : Env} {G G' H H' : Hp} {ca ca' : Option Addr} {vs : List V} {rvs : List RV} (w : WtRs Y G ca σ env vs rvs) (s : Stp G ca H G' ca' H') : WtRs Y G' ca' σ env vs rvs := Paired.mapP w fun _ _ z => z.step s
theorem pda_cons {e : Expr} {es : List Expr} {f : DE} {fs : List DE} (ha : PD X Z N W e f) (hr : PDA X Z N W es (dArgs fs)) (hs : starEach (e :: es) X.env = (false, eval e X.env) :: starEach es X.env := by rfl) : PDA X Z N W (e :: es) (dArgs (f :: fs)) := by
  refine pa_imp (pa_cons ha hr hs) fun σ H Q h => ?_
  obtain ⟨G, ca, env, c, rs, h⟩ := h
  refine ⟨G, ca, env, c, rs, ?_⟩
  simp only [dArgs] at h
  cases e : f env c with
  | st => rw [e] at h; exact h
  | er x c1 => rw [e] at h; exact h
  | ok x c1 =>
    rw [e] at h
    simp only [R.bind] at h
    intro G1 ca1 H1 vx s1 r1 w1
    refine ⟨G1, ca1, env, c1, r1, ?_⟩
    cases e2 : dArgs fs env c1 with
    | st => rw [e2] at h; exact h
    | er z c2 => rw [e2] at h; exact Bad.back h s1
    | ok ys c2 =>
      rw [e2] at h
      intro G2 ca2 H2 vs s2 r2 w2
      exact h G2 ca2 H2 (vx :: vs) (s1.trans s2) r2 (.cons (w1.step s2) w2)
theorem plain_wts {σ : L2.St} {env : Env} {G : Hp} {ca : Option Addr} : ∀ {vs : List V} {rvs : List RV}, WtRs Y G ca σ env vs rvs → rvs.all RV.plain = true → Wts Y G ca vs (rvs.map RV.d)
  | _, _, .nil, _ => .nil
  | _, rv :: _, .cons h r, e => by
    simp only [List.all_cons, Bool.and_eq_true] at e
    cases rv with
    | pl d => exact .cons h (plain_wts r e.2)
    | ow i xs => cases e.1
theorem dArgs_len : ∀ {fs : List DE} {env : Env} {c c' : C} {xs : List RV}, dArgs fs env c = .ok xs c' → xs.length = fs.length
  | [], _, _, _, _, h => by simp only [dArgs] at h; cases h; rfl
  | f :: fs, env, c, c', xs, h => by
    simp only [dArgs] at h
    cases e : f env c with
    | st => rw [e] at h; cases h
    | er x c1 => rw [e] at h; cases h
    | ok x c1 =>
      rw [e] at h
      simp only [R.bind] at h
      cases e2 : dArgs fs env c1 with
      | st => rw [e2] at h; cases h
      | er x c1 => rw [e2] at h; cases h
      | ok ys c2 =>
        rw [e2] at h
        cases h
        exact congrArg (· + 1) (dArgs_len e2)
theorem tda {N : En} {W : WX} {fs : List DE} {k : List RV → C → R RV} {σ : L2.St} {Q' : List V → Hp → Prop} {Post : Hp → Option Addr → Hp → Env → C → RV → C → Prop}
    {G : Hp} {ca : Option Addr} {env : Env} {c : C} (rs : RS Y N G ca σ H env c)
    (h : match (dArgs fs env c).bind k with
      | .ok rv c' => Post G ca H env c rv c'
      | .er x c' => Bad Y N W σ env x c' G ca H
      | .st => False)
    (hq : ∀ xs c1 G1 ca1 H1 vs, xs.length = fs.length → Stp G ca H G1 ca1 H1 → RS Y N G1 ca1 σ H1 env c1 → WtRs Y G1 ca1 σ env vs xs → (match k xs c1 with
      | .ok rv c' => Post G ca H env c rv c'
      | .er x c' => Bad Y N W σ env x c' G ca H
      | .st => False) → Q' vs H1) : tDA Y N W (dArgs fs) σ H Q' := by
  refine ⟨G, ca, env, c, rs, ?_⟩
  cases e : dArgs fs env c with
  | st => rw [e] at h; exact h
  | er x c1 => rw [e] at h; exact h
  | ok xs c1 =>
    rw [e] at h
    exact fun G1 ca1 H1 vs s1 r1 w1 => hq xs c1 G1 ca1 H1 vs (dArgs_len e) s1 r1 w1 h
theorem pd_tup {es : List Expr} {fs : List DE} {x1 pos} (h : PDA X Z N W es (dArgs fs)) (hl : fs.length ≤ 1000 := by exact Nat.le_of_ble_eq_true rfl) : PD X Z N W (.Tuple es x1 pos) (dTup fs) := by
  refine pe_imp (pe_tup h) fun σ H Q h => ?_
  obtain ⟨G, ca, env, c, rs, h⟩ := h
  refine tda (Post := fun G ca H env c rv c' => ∀ G' ca' H' v, Stp G ca H G' ca' H' → RS _ N G' ca' σ H' env c' → WtR _ G' ca' σ env v rv → Q v H') rs h fun xs c1 G1 ca1 H1 vs el s1 r1 w1 h => ?_
  refine ⟨Nat.le_of_lt (small1000 (by rw [Paired.length w1, el]; exact hl)), fun p hp => ?_⟩
  by_cases e2 : xs.all RV.plain = true
  · rw [if_pos e2] at h
    exact Done.tup (c := c1) (fun G3 H3 v s3 r3 w3 => h G3 ca1 H3 v (s1.trans s3) (r1.step s3 r3) w3) r1.r0 (plain_wts w1 e2) (by rw [List.length_map, el]; exact Nat.le_trans hl (by decide)) hp
  · rw [if_neg e2] at h; exact h.elim
theorem pdo_lst {es : List Expr} {fs : List DE} {pos} (h : PDA X Z N W es (dArgs fs)) (hl : fs.length ≤ 1000 := by exact Nat.le_of_ble_eq_true rfl) : PDO X Z N W (.List es pos) (dLst fs) := by
  refine pe_imp (pe_lst h) fun σ H Q h => ?_
  obtain ⟨G, ca, env, c, rs, h⟩ := h
  refine tda (Post := fun G ca H env c rv c' => ∃ ds, rv = .pl (.lst ds) ∧ ∀ G' ca' H' a vs, Stp G ca H G' ca' H' → RS _ N G' ca' σ H' env c' → NoO H a → H' a = some (.lst vs) → G' a = none → ca' ≠ some a → Wts _ G' ca' vs ds → ds.length ≤ sizeL → Q (.ref a) H') rs h fun xs c1 G1 ca1 H1 vs el s1 r1 w1 h => ?_
  refine ⟨Nat.le_of_lt (small1000 (by rw [Paired.length w1, el]; exact hl)), fun p hp => ?_⟩
  by_cases e2 : xs.all RV.plain = true
  · rw [if_pos e2] at h
    obtain ⟨ds, e3, h⟩ := h
    cases e3
    exact h G1 ca1 _ p vs (s1.trans (.new hp)) (r1.step (.new hp) (r1.r0.new hp)) (s1.dm p (.of hp)) upd_same (r1.r0.free hp) (r1.r0.ncup hp) (plain_wts w1 e2) (by rw [List.length_map, el]; exact Nat.le_trans hl (by decide))
  · rw [if_neg e2] at h; exact h.elim
/-- a built-in called, by its values -/
abbrev WtSs (Y : Yp) (G H : Hp) (ca : Option Addr) : List V → List D → Prop := Paired (WtS Y G H ca)
theorem WtRs.reads {N : En} {σ : L2.St} {env : Env} {G H : Hp} {ca : Option Addr} {c : C} (r : RS Y N G ca σ H env c) : ∀ {vs : List V} {rvs : List RV}, WtRs Y G ca σ env vs rvs → WtSs Y G H ca vs (rvs.map RV.d)
  | _, _, .nil => .nil
  | _, _, .cons h t => .cons (WtR.read r h) (WtRs.reads r t)
def CallD (X : Cx) (Z : Zp) (f : Value) (g : List D → Option D) : Prop := ∃ r, CallR X f r ∧
  ∀ (G : Hp) (ca : Option Addr) (H : Hp) (c : C) (xs : List V) (ds : List D) (d : D) (Q : VK), RS0 (yOf X Z) G ca H c → WtSs (yOf X Z) G H ca xs ds → g ds = some d → Done (yOf X Z) G ca H c d Q → r xs H Q
def CallDO (X : Cx) (Z : Zp) (f : Value) (g : List D → Option D) : Prop := ∃ r, CallR X f r ∧
  ∀ (G : Hp) (ca : Option Addr) (H : Hp) (c : C) (xs : List V) (ds : List D) (d : D) (Q : VK), RS0 (yOf X Z) G ca H c → WtSs (yOf X Z) G H ca xs ds → g ds = some d → ∃ es, d = .lst es ∧ (DoneO (yOf X Z) G ca H c es Q → r xs H Q)
theorem calld_or {f : Value} {g g' : List D → Option D} (h : CallD X Z f g) (h' : CallD X Z f g') : CallD X Z f (fun x => (g x).or (g' x)) := by
  obtain ⟨r, h1, h2⟩ := h
  obtain ⟨r', h1', h2'⟩ := h'
  refine ⟨_, h1.or h1', fun G ca H c x dx d Q rs w e k => ?_⟩
  dsimp only at e
  cases e1 : g dx with
  | some d' => rw [e1] at e; cases e; exact .inl (h2 _ _ _ _ _ _ _ _ rs w e1 k)
  | none => rw [e1] at e; exact .inr (h2' _ _ _ _ _ _ _ _ rs w e k)
theorem calld_imp {f : Value} {g g' : List D → Option D} (h : CallD X Z f g) (i : ∀ x d, g' x = some d → g x = some d) : CallD X Z f g' := by
  obtain ⟨r, h1, h2⟩ := h
  exact ⟨r, h1, fun G ca H c x dx d Q rs w e k => h2 _ _ _ _ _ _ _ _ rs w (i _ _ e) k⟩
theorem calldo {f : Value} {g : List D → Option D} (h : CallDO X Z f g) : CallD X Z f g := by
  obtain ⟨r, h1, h2⟩ := h
  refine ⟨r, h1, fun G ca H c x dx d Q rs w e k => ?_⟩
  obtain ⟨es, rfl, h3⟩ := h2 _ _ _ _ _ _ _ Q rs w e
  exact h3 (k.o rs)
theorem tdb {N : En} {W : WX} {fs : List DE} {r : List V → Hp → VK → Prop} {g : List D → Option D} {σ : L2.St} (hr : ∀ (G : Hp) (ca : Option Addr) (H : Hp) (c : C) (xs : List V) (ds : List D) (d : D) (Q : VK), RS0 Y G ca H c → WtSs Y G H ca xs ds → g ds = some d → Done Y G ca H c d Q → r xs H Q)
    (h : tD Y N W (dB g fs) σ H Q) : tDA Y N W (dArgs fs) σ H fun vs H1 => r vs H1 Q := by
  obtain ⟨G, ca, env, c, rs, h⟩ := h
  refine tda (Post := fun G ca H env c rv c' => ∀ G' ca' H' v, Stp G ca H G' ca' H' → RS Y N G' ca' σ H' env c' → WtR Y G' ca' σ env v rv → Q v H') rs h fun xs c1 G1 ca1 H1 vs el s1 r1 w1 h => ?_
  cases e3 : g (xs.map RV.d) with
  | none => rw [e3] at h; exact h.elim
  | some d =>
    rw [e3] at h
    exact hr G1 ca1 H1 c1 vs _ d Q r1.r0 (WtRs.reads r1 w1) e3 fun G3 H3 v s3 r3 w3 => h G3 ca1 H3 v (s1.trans s3) (r1.step s3 r3) w3
theorem tdbo {N : En} {W : WX} {fs : List DE} {r : List V → Hp → VK → Prop} {g : List D → Option D} {σ : L2.St} (hr : ∀ (G : Hp) (ca : Option Addr) (H : Hp) (c : C) (xs : List V) (ds : List D) (d : D) (Q : VK), RS0 Y G ca H c → WtSs Y G H ca xs ds → g ds = some d → ∃ es, d = .lst es ∧ (DoneO Y G ca H c es Q → r xs H Q))
    (h : tDO Y N W (dB g fs) σ H Q) : tDA Y N W (dArgs fs) σ H fun vs H1 => r vs H1 Q := by
  obtain ⟨G, ca, env, c, rs, h⟩ := h
  refine tda (Post := fun G ca H env c rv c' => ∃ ds, rv = .pl (.lst ds) ∧ ∀ G' ca' H' a vs, Stp G ca H G' ca' H' → RS Y N G' ca' σ H' env c' → NoO H a → H' a = some (.lst vs) → G' a = none → ca' ≠ some a → Wts Y G' ca' vs ds → ds.length ≤ sizeL → Q (.ref a) H') rs h fun xs c1 G1 ca1 H1 vs el s1 r1 w1 h => ?_
  cases e3 : g (xs.map RV.d) with
  | none => rw [e3] at h; exact h.elim
  | some d =>
    rw [e3] at h
    obtain ⟨es, e5, hr2⟩ := hr G1 ca1 H1 c1 vs _ d Q r1.r0 (WtRs.reads r1 w1) e3
    obtain ⟨ds, e4, h⟩ := h
    cases e4
    cases e5
    exact hr2 fun H3 a us s3 r3 hn ha w3 hl => h G1 ca1 H3 a us (s1.trans s3) (r1.step s3 r3) (s1.dm _ (.of hn)) ha (r1.r0.free hn) (r1.r0.ncup hn) w3 hl
theorem pd_callB {x : Str} {id : String} {e : Expr} {es : List Expr} {fs : List DE} {g : List D → Option D} {p pos : Pos} (hc : CallD X Z (.builtin id) g) (hg : Gl X x) (hm : X.mg x = none) (hv : bootBuiltins x = some (.builtin id)) (hn : x ≠ "__name__") (hdb : (x == ("__debug__" : Str)) = false)
    (ha : PDA X Z N W (e :: es) (dArgs fs)) (he : starEach (e :: es) X.env = (false, eval e X.env) :: starEach es X.env := by rfl) (hpl : (backTo pos (starEach es X.env)).any (·.1) = false := by rfl) : PD X Z N W (.Call (.Name x p) (e :: es) [] pos) (dB g fs) := by
  obtain ⟨r, h1, h2⟩ := hc
  exact pe_imp (pe_callB h1 hg hm hv ha hn hdb he hpl) fun σ H Q h => tdb h2 h
theorem pd_callTy {x : Str} {T : String} {e : Expr} {es : List Expr} {fs : List DE} {g : List D → Option D} {p pos : Pos} (hc : CallD X Z (.type T) g) (hg : Gl X x) (hm : X.mg x = none) (hv : bootBuiltins x = some (.type T)) (hn : x ≠ "__name__") (hdb : (x == ("__debug__" : Str)) = false)
    (ha : PDA X Z N W (e :: es) (dArgs fs)) (he : starEach (e :: es) X.env = (false, eval e X.env) :: starEach es X.env := by rfl) (hpl : (backTo pos (starEach es X.env)).any (·.1) = false := by rfl) : PD X Z N W (.Call (.Name x p) (e :: es) [] pos) (dB g fs) := by
  obtain ⟨r, h1, h2⟩ := hc
  exact pe_imp (pe_callTy h1 hg hm hv ha hn hdb he hpl) fun σ H Q h => tdb h2 h
theorem pdo_callTy {x : Str} {T : String} {e : Expr} {es : List Expr} {fs : List DE} {g : List D → Option D} {p pos : Pos} (hc : CallDO X Z (.type T) g) (hg : Gl X x) (hm : X.mg x = none) (hv : bootBuiltins x = some (.type T)) (hn : x ≠ "__name__") (hdb : (x == ("__debug__" : Str)) = false)
    (ha : PDA X Z N W (e :: es) (dArgs fs)) (he : starEach (e :: es) X.env = (false, eval e X.env) :: starEach es X.env := by rfl) (hpl : (backTo pos (starEach es X.env)).any (·.1) = false := by rfl) : PDO X Z N W (.Call (.Name x p) (e :: es) [] pos) (dB g fs) := by
  obtain ⟨r, h1, h2⟩ := hc
  exact pe_imp (pe_callTy h1 hg hm hv ha hn hdb he hpl) fun σ H Q h => tdbo h2 h
theorem pdo_callB {x : Str} {id : String} {e : Expr} {es : List Expr} {fs : List DE} {g : List D → Option D} {p pos : Pos} (hc : CallDO X Z (.builtin id) g) (hg : Gl X x) (hm : X.mg x = none) (hv : bootBuiltins x = some (.builtin id)) (hn : x ≠ "__name__") (hdb : (x == ("__debug__" : Str)) = false)
    (ha : PDA X Z N W (e :: es) (dArgs fs)) (he : starEach (e :: es) X.env = (false, eval e X.env) :: starEach es X.env := by rfl) (hpl : (backTo pos (starEach es X.env)).any (·.1) = false := by rfl) : PDO X Z N W (.Call (.Name x p) (e :: es) [] pos) (dB g fs) := by
  obtain ⟨r, h1, h2⟩ := hc
  exact pe_imp (pe_callB h1 hg hm hv ha hn hdb he hpl) fun σ H Q h => tdbo h2 h

/-! ### and, or, if .. else, chains -/
theorem pd_one {op : BoolOp} {a : Expr} {fa : DE} {pos : Pos} (ha : PD X Z N W a fa) : PD X Z N W (.BoolOp op [a] pos) fa := pe_one ha
theorem td_bl {σ : L2.St} {env : Env} {G H : Hp} {ca : Option Addr} {v : V} {rv : RV} {b : Bool} (w : WtR Y G ca σ env v rv) (e : rv.d = .bl b) : v = .bl b := by
  cases rv with
  | pl d =>
    have e : d = .bl b := e
    subst e
    cases w
    rfl
  | ow i xs => cases e
theorem pd_and {a b : Expr} {rest : List Expr} {fa fb : DE} {pos : Pos} (ha : PD X Z N W a fa) (hb : PD X Z N W (.BoolOp .And (b :: rest) pos) fb) : PD X Z N W (.BoolOp .And (a :: b :: rest) pos) (dAnd fa fb) := by
  refine pe_imp (pe_and ha hb) fun σ H Q h => ?_
  obtain ⟨G, ca, env, c, rs, h⟩ := h
  refine ⟨G, ca, env, c, rs, ?_⟩
  simp only [dAnd] at h
  cases e : fa env c with
  | st => rw [e] at h; exact h
  | er x c1 => rw [e] at h; exact h
  | ok x c1 =>
    rw [e] at h
    simp only [R.bind] at h
    intro G1 ca1 H1 vx s1 r1 w1
    cases e3 : x.d with
    | bl k =>
      refine ⟨k, td_bl (H := H1) w1 e3, ?_⟩
      rw [e3] at h
      cases k with
      | false =>
        refine iteF ?_
        exact h _ _ _ _ s1 r1 (.bl false)
      | true =>
        refine iteT ?_
        refine ⟨G1, ca1, env, c1, r1, ?_⟩
        dsimp only at h
        cases e2 : fb env c1 with
        | st => rw [e2] at h; exact h
        | er z c2 => rw [e2] at h; exact Bad.back h s1
        | ok y c2 => rw [e2] at h; exact fun G2 ca2 H2 v s2 r2 w2 => h G2 ca2 H2 v (s1.trans s2) r2 w2
    | _ => rw [e3] at h; exact h.elim
theorem pd_or {a b : Expr} {rest : List Expr} {fa fb : DE} {pos : Pos} (ha : PD X Z N W a fa) (hb : PD X Z N W (.BoolOp .Or (b :: rest) pos) fb) : PD X Z N W (.BoolOp .Or (a :: b :: rest) pos) (dOr fa fb) := by
  refine pe_imp (pe_or ha hb) fun σ H Q h => ?_
  obtain ⟨G, ca, env, c, rs, h⟩ := h
  refine ⟨G, ca, env, c, rs, ?_⟩
  simp only [dOr] at h
  cases e : fa env c with
  | st => rw [e] at h; exact h
  | er x c1 => rw [e] at h; exact h
  | ok x c1 =>
    rw [e] at h
    simp only [R.bind] at h
    intro G1 ca1 H1 vx s1 r1 w1
    cases e3 : x.d with
    | bl k =>
      refine ⟨k, td_bl (H := H1) w1 e3, ?_⟩
      rw [e3] at h
      cases k with
      | true =>
        refine iteT ?_
        exact h _ _ _ _ s1 r1 (.bl true)
      | false =>
        refine iteF ?_
        refine ⟨G1, ca1, env, c1, r1, ?_⟩
        dsimp only at h
        cases e2 : fb env c1 with
        | st => rw [e2] at h; exact h
        | er z c2 => rw [e2] at h; exact Bad.back h s1
        | ok y c2 => rw [e2] at h; exact fun G2 ca2 H2 v s2 r2 w2 => h G2 ca2 H2 v (s1.trans s2) r2 w2
    | _ => rw [e3] at h; exact h.elim
theorem pd_if {t a b : Expr} {ft : DT} {fa fb : DE} {pos : Pos} (ht : PDT X Z N W t ft) (ha : PD X Z N W a fa) (hb : PD X Z N W b fb) : PD X Z N W (.IfExp t a b pos) (dIf ft fa fb) := by
  refine pe_imp (pe_ifExp ht ha hb) fun σ H Q h => ?_
  obtain ⟨G, ca, env, c, rs, h⟩ := h
  refine ⟨G, ca, env, c, rs, ?_⟩
  simp only [dIf] at h
  cases e : ft env c with
  | st => rw [e] at h; exact h
  | er x c1 => rw [e] at h; exact h
  | ok k c1 =>
    rw [e] at h
    simp only [R.bind] at h
    intro G1 ca1 H1 s1 r1
    cases k with
    | true =>
      rw [if_pos rfl] at h
      refine iteT ⟨G1, ca1, env, c1, r1, ?_⟩
      cases e2 : fa env c1 with
      | st => rw [e2] at h; exact h
      | er z c2 => rw [e2] at h; exact Bad.back h s1
      | ok y c2 => rw [e2] at h; exact fun G2 ca2 H2 v s2 r2 w2 => h G2 ca2 H2 v (s1.trans s2) r2 w2
    | false =>
      rw [if_neg Bool.false_ne_true] at h
      refine iteF ⟨G1, ca1, env, c1, r1, ?_⟩
      cases e2 : fb env c1 with
      | st => rw [e2] at h; exact h
      | er z c2 => rw [e2] at h; exact Bad.back h s1
      | ok y c2 => rw [e2] at h; exact fun G2 ca2 H2 v s2 r2 w2 => h G2 ca2 H2 v (s1.trans s2) r2 w2
/-! ### tests -/
theorem sizeL_eq : sizeL = sizeLine := rfl
theorem pdt_e {a : Expr} {fa : DE} (ha : PD X Z N W a fa) (he : ∀ whole, isTrue a X.env whole = (do let v ← whole; standAt a.pos; holding [v] (truthy v)) := by intro _; rfl) : PDT X Z N W a (tE fa) := by
  refine pt_imp (pt_truth ha he) fun σ H Q h => ?_
  obtain ⟨G, ca, env, c, rs, h⟩ := h
  refine ⟨G, ca, env, c, rs, ?_⟩
  simp only [tE] at h
  cases e : fa env c with
  | st => rw [e] at h; exact h
  | er x c1 => rw [e] at h; exact h
  | ok x c1 =>
    rw [e] at h
    simp only [R.bind] at h
    intro G1 ca1 H1 vx s1 r1 w1
    have w := w1.read r1
    cases e3 : x.d with
    | bl k =>
      rw [e3] at h w
      cases w.atom (fun _ e => by cases e)
      exact ⟨k, rfl, h _ _ _ s1 r1⟩
    | non =>
      rw [e3] at h w
      cases w.atom (fun _ e => by cases e)
      exact ⟨false, rfl, h _ _ _ s1 r1⟩
    | int i =>
      rw [e3] at h w
      cases w.atom (fun _ e => by cases e)
      exact ⟨_, rfl, h _ _ _ s1 r1⟩
    | str z =>
      rw [e3] at h w
      cases w.atom (fun _ e => by cases e)
      simp only [D.truth] at h
      by_cases hz : z.length ≤ sizeL
      · rw [if_pos hz] at h
        exact ⟨_, ⟨hz, rfl⟩, h _ _ _ s1 r1⟩
      · rw [if_neg hz] at h
        exact h.elim
    | tup xs =>
      rw [e3] at h w
      obtain ⟨a, vs, rfl, hs, ws, _⟩ := w.tup r1.r0
      have e4 : vs.isEmpty = xs.isEmpty := by
        have := ws.length
        cases vs <;> cases xs <;> first | rfl | cases this
      exact ⟨_, .inr (.inl ⟨vs, hs, by rw [e4]⟩), h _ _ _ s1 r1⟩
    | lst xs =>
      rw [e3] at h w
      obtain ⟨a, vs, rfl, hs, ws, _⟩ := w.lst r1.r0
      have e4 : vs.isEmpty = xs.isEmpty := by
        have := ws.length
        cases vs <;> cases xs <;> first | rfl | cases this
      exact ⟨_, .inl ⟨vs, sql hs, by rw [e4]⟩, h _ _ _ s1 r1⟩
    | _ => rw [e3] at h; exact h.elim
theorem pdt_not {a : Expr} {t : DT} {pos : Pos} (ha : PDT X Z N W a t) : PDT X Z N W (.UnaryOp .Not a pos) (tNot t) := by
  refine pt_imp (pt_not ha) fun σ H Q h => ?_
  obtain ⟨G, ca, env, c, rs, h⟩ := h
  refine ⟨G, ca, env, c, rs, ?_⟩
  simp only [DL.tNot] at h
  cases e : t env c with
  | st => rw [e] at h; exact h
  | er x c1 => rw [e] at h; exact h
  | ok x c1 => rw [e] at h; exact h
abbrev PDW (X : Cx) (Z : Zp) (N : En) (W : WX) (e : Expr) (f : DT) : Prop := PW X e (tDT (yOf X Z) N W f)
theorem pdw_and1 {a : Expr} {t : DT} {pos : Pos} (ha : PDT X Z N W a t) : PDW X Z N W (.BoolOp .And [a] pos) t := pw_and1 ha
theorem pdw_or1 {a : Expr} {t : DT} {pos : Pos} (ha : PDT X Z N W a t) : PDW X Z N W (.BoolOp .Or [a] pos) t := pw_or1 ha
theorem tdt_and {N : En} {W : WX} {σ : L2.St} {H : Hp} {Q : Bool → Hp → Prop} {t u : DT} (h : tDT Y N W (tAnd t u) σ H Q) : L2.tAnd (tDT Y N W t) (tDT Y N W u) σ H Q := by
  obtain ⟨G, ca, env, c, rs, h⟩ := h
  refine ⟨G, ca, env, c, rs, ?_⟩
  simp only [tAnd] at h
  cases e : t env c with
  | st => rw [e] at h; exact h
  | er x c1 => rw [e] at h; exact h
  | ok k c1 =>
    rw [e] at h
    simp only [R.bind] at h
    intro G1 ca1 H1 s1 r1
    cases k with
    | false => exact iteF (h _ _ _ s1 r1)
    | true =>
      rw [if_pos rfl] at h
      refine iteT ⟨G1, ca1, env, c1, r1, ?_⟩
      cases e2 : u env c1 with
      | st => rw [e2] at h; exact h
      | er z c2 => rw [e2] at h; exact Bad.back h s1
      | ok y c2 => rw [e2] at h; exact fun G2 ca2 H2 s2 r2 => h G2 ca2 H2 (s1.trans s2) r2
theorem tdt_or {N : En} {W : WX} {σ : L2.St} {H : Hp} {Q : Bool → Hp → Prop} {t u : DT} (h : tDT Y N W (tOr t u) σ H Q) : L2.tOr (tDT Y N W t) (tDT Y N W u) σ H Q := by
  obtain ⟨G, ca, env, c, rs, h⟩ := h
  refine ⟨G, ca, env, c, rs, ?_⟩
  simp only [tOr] at h
  cases e : t env c with
  | st => rw [e] at h; exact h
  | er x c1 => rw [e] at h; exact h
  | ok k c1 =>
    rw [e] at h
    simp only [R.bind] at h
    intro G1 ca1 H1 s1 r1
    cases k with
    | true => exact iteT (h _ _ _ s1 r1)
    | false =>
      rw [if_neg Bool.false_ne_true] at h
      refine iteF ⟨G1, ca1, env, c1, r1, ?_⟩
      cases e2 : u env c1 with
      | st => rw [e2] at h; exact h
      | er z c2 => rw [e2] at h; exact Bad.back h s1
      | ok y c2 => rw [e2] at h; exact fun G2 ca2 H2 s2 r2 => h G2 ca2 H2 (s1.trans s2) r2
theorem pdw_and {a b : Expr} {rest : List Expr} {t u : DT} {pos : Pos} (ha : PDT X Z N W a t) (hb : PDW X Z N W (.BoolOp .And (b :: rest) pos) u) : PDW X Z N W (.BoolOp .And (a :: b :: rest) pos) (tAnd t u) :=
  pw_imp (pw_and ha hb) fun _ _ _ h => tdt_and h
theorem pdw_or {a b : Expr} {rest : List Expr} {t u : DT} {pos : Pos} (ha : PDT X Z N W a t) (hb : PDW X Z N W (.BoolOp .Or (b :: rest) pos) u) : PDW X Z N W (.BoolOp .Or (a :: b :: rest) pos) (tOr t u) :=
  pw_imp (pw_or ha hb) fun _ _ _ h => tdt_or h
theorem pdw_pt {e : Expr} {t : DT} (h : PDW X Z N W e t) : PDT X Z N W e t := PW.pt h

/-! ### a chain of two comparisons -/
theorem pd_chain {op op' : CmpOp} {a b c : Expr} {g g' : D → D → Option D} {fa fb fc : DE} {pos : Pos} (ho : OpD X Z (compareOp op) g) (ho' : OpD X Z (compareOp op') g') (ha : PD X Z N W a fa) (hb : PD X Z N W b fb) (hc : PD X Z N W c fc)
    (hm : lastMarks [op, op'] [b, c] = false := by with_unfolding_all rfl) : PD X Z N W (.Compare a [op, op'] [b, c] pos) (dChain g g' fa fb fc) := by
  obtain ⟨r, h1, h2⟩ := ho
  obtain ⟨r', h1', h2'⟩ := ho'
  refine pe_imp (pe_chain h1 h1' ha hb hc hm) fun σ H Q h => ?_
  obtain ⟨G, ca, env, c, rs, h⟩ := h
  refine ⟨G, ca, env, c, rs, ?_⟩
  simp only [dChain] at h
  cases e : fa env c with
  | st => rw [e] at h; exact h
  | er x c1 => rw [e] at h; exact h
  | ok x c1 =>
    rw [e] at h
    simp only [R.bind] at h
    intro G1 ca1 H1 vx s1 r1 w1
    refine ⟨G1, ca1, env, c1, r1, ?_⟩
    cases e2 : fb env c1 with
    | st => rw [e2] at h; exact h
    | er z c2 => rw [e2] at h; exact Bad.back h s1
    | ok y c2 =>
      rw [e2] at h
      dsimp only at h
      intro G2 ca2 H2 vy s2 r2 w2
      have s12 := s1.trans s2
      cases e3 : g x.d y.d with
      | none => rw [e3] at h; exact h.elim
      | some d =>
        rw [e3] at h
        refine h2 G2 ca2 H2 c2 vx vy x.d y.d d _ r2.r0 ((w1.step s2).read r2) (w2.read r2) e3 fun G3 H3 v s3 r3 w3 => ?_
        have rs3 := r2.step s3 r3
        have s123 := s12.trans s3
        cases d with
        | bl k =>
          cases w3
          refine ⟨k, rfl, ?_⟩
          cases k with
          | false => exact iteF (h G3 ca2 H3 _ s123 rs3 (.bl false))
          | true =>
            refine iteT ⟨G3, ca2, env, c2, rs3, ?_⟩
            dsimp only at h
            cases e4 : fc env c2 with
            | st => rw [e4] at h; exact h
            | er z c2 => rw [e4] at h; exact Bad.back h s123
            | ok z c4 =>
              rw [e4] at h
              dsimp only at h
              intro G4 ca4 H4 vz s4 r4 w4
              cases e5 : g' y.d z.d with
              | none => rw [e5] at h; exact h.elim
              | some d =>
                rw [e5] at h
                exact h2' G4 ca4 H4 c4 vy vz y.d z.d d _ r4.r0 (((w2.step s3).step s4).read r4) (w4.read r4) e5 fun G5 H5 v s5 r5 w5 => h G5 ca4 H5 v ((s123.trans s4).trans s5) (r4.step s5 r5) w5
        | _ => exact h.elim

/-! ### a subscript, a slice -/
def IxD (X : Cx) (Z : Zp) (g : D → D → Option D) : Prop := ∃ r : R2, IxR X r ∧
  ∀ (G : Hp) (ca : Option Addr) (H : Hp) (c : C) (x y : V) (dx dy d : D) (Q : VK), RS0 (yOf X Z) G ca H c → WtS (yOf X Z) G H ca x dx → WtS (yOf X Z) G H ca y dy → g dx dy = some d → Done (yOf X Z) G ca H c d Q → r x y H Q
theorem pd_ix {a b : Expr} {fa fb : DE} {g : D → D → Option D} {pos : Pos} (ho : IxD X Z g) (ha : PD X Z N W a fa) (hb : PD X Z N W b fb) (hs : PlainIx b := by exact fun _ _ => rfl) : PD X Z N W (.Subscript a b pos) (dO2 g fa fb) := by
  obtain ⟨r, h1, h2⟩ := ho
  exact pe_imp (pe_ix h1 ha hb hs) fun σ H Q h => td2 h2 h
def tDP (Y : Yp) (N : En) (W : WX) (f : DL.Env → C → R (Option Int)) : TO := fun σ H Q => ∃ G ca env c, RS Y N G ca σ H env c ∧ (match f env c with
  | .ok o c' => ∀ G' ca' H', Stp G ca H G' ca' H' → RS Y N G' ca' σ H' env c' → Q o H'
  | .er x c' => Bad Y N W σ env x c' G ca H
  | .st => False)
theorem po_imp {e : Option Expr} {t t' : TO} (h : PO X e t) (i : ∀ σ H Q, t' σ H Q → t σ H Q) : PO X e t' := ⟨fun pins s σ H Q I q => h.run pins s σ H Q I (i _ _ _ q)⟩
abbrev PDP (X : Cx) (Z : Zp) (N : En) (W : WX) (e : Option Expr) (f : Option DE) : Prop := PO X e (tDP (yOf X Z) N W (dPart f))
theorem pdp_none : PDP X Z N W none none := po_imp po_none fun σ H Q ⟨G, ca, env, c, rs, h⟩ => h _ _ _ .refl rs
theorem pdp_some {e : Expr} {f : DE} (h : PD X Z N W e f) : PDP X Z N W (some e) (some f) := by
  refine po_imp (po_some h) fun σ H Q h => ?_
  obtain ⟨G, ca, env, c, rs, h⟩ := h
  refine ⟨G, ca, env, c, rs, ?_⟩
  simp only [dPart] at h
  cases e : f env c with
  | st => rw [e] at h; exact h
  | er x c1 => rw [e] at h; exact h
  | ok x c1 =>
    rw [e] at h
    simp only [R.bind] at h
    intro G1 ca1 H1 vx s1 r1 w1
    have w := w1.read r1
    cases e3 : x.d with
    | int i =>
      rw [e3] at h w
      cases w.atom (fun _ e => by cases e)
      exact ⟨i, rfl, h _ _ _ s1 r1⟩
    | _ => rw [e3] at h; exact h.elim
def SlD (X : Cx) (Z : Zp) (g : D → Option Int → Option Int → Option D) : Prop := ∃ r, L2.SlR X r ∧
  ∀ (G : Hp) (ca : Option Addr) (H : Hp) (c : C) (x : V) (dx d : D) (lo hi : Option Int) (Q : VK), RS0 (yOf X Z) G ca H c → WtS (yOf X Z) G H ca x dx → g dx lo hi = some d → Done (yOf X Z) G ca H c d Q → r x lo hi H Q
def SlDO (X : Cx) (Z : Zp) (g : D → Option Int → Option Int → Option D) : Prop := ∃ r, L2.SlR X r ∧
  ∀ (G : Hp) (ca : Option Addr) (H : Hp) (c : C) (x : V) (dx d : D) (lo hi : Option Int) (Q : VK), RS0 (yOf X Z) G ca H c → WtS (yOf X Z) G H ca x dx → g dx lo hi = some d → ∃ es, d = .lst es ∧ (DoneO (yOf X Z) G ca H c es Q → r x lo hi H Q)
theorem sldo {g : D → Option Int → Option Int → Option D} (h : SlDO X Z g) : SlD X Z g := by
  obtain ⟨r, h1, h2⟩ := h
  refine ⟨r, h1, fun G ca H c x dx d lo hi Q rs w e k => ?_⟩
  obtain ⟨es, rfl, h3⟩ := h2 _ _ _ _ _ _ _ _ _ Q rs w e
  exact h3 (k.o rs)
theorem tdsl {N : En} {W : WX} {f : DE} {lo hi : Option DE} {k : RV → Option Int → Option Int → C → R RV} {σ : L2.St} {r : V → Option Int → Option Int → Hp → VK → Prop} {Q : VK} {Post : Hp → Option Addr → Hp → DL.Env → C → RV → C → Prop}
    {G : Hp} {ca : Option Addr} {H : Hp} {env : DL.Env} {c : C} (rs : RS Y N G ca σ H env c)
    (h : match ((f env c).bind fun x c => (dPart lo env c).bind fun a c => (dPart hi env c).bind fun b c => k x a b c) with
      | .ok rv c' => Post G ca H env c rv c'
      | .er x c' => Bad Y N W σ env x c' G ca H
      | .st => False)
    (hq : ∀ x a b c1 G1 ca1 H1 v, Stp G ca H G1 ca1 H1 → RS Y N G1 ca1 σ H1 env c1 → WtR Y G1 ca1 σ env v x → (match k x a b c1 with
      | .ok rv c' => Post G ca H env c rv c'
      | .er x c' => Bad Y N W σ env x c' G ca H
      | .st => False) → r v a b H1 Q) : L2.tSl r (tD Y N W f) (tDP Y N W (dPart lo)) (tDP Y N W (dPart hi)) σ H Q := by
  refine ⟨G, ca, env, c, rs, ?_⟩
  cases e : f env c with
  | st => rw [e] at h; exact h
  | er x c1 => rw [e] at h; exact h
  | ok x c1 =>
    rw [e] at h
    simp only [R.bind] at h
    intro G1 ca1 H1 vx s1 r1 w1
    refine ⟨G1, ca1, env, c1, r1, ?_⟩
    cases e2 : dPart lo env c1 with
    | st => rw [e2] at h; exact h
    | er z c2 => rw [e2] at h; exact Bad.back h s1
    | ok a c2 =>
      rw [e2] at h
      dsimp only at h
      intro G2 ca2 H2 s2 r2
      refine ⟨G2, ca2, env, c2, r2, ?_⟩
      have s12 := s1.trans s2
      cases e3 : dPart hi env c2 with
      | st => rw [e3] at h; exact h
      | er z c2 => rw [e3] at h; exact Bad.back h s12
      | ok b c3 =>
        rw [e3] at h
        dsimp only at h
        intro G3 ca3 H3 s3 r3
        exact hq x a b c3 G3 ca3 H3 vx (s12.trans s3) r3 ((w1.step s2).step s3) h
theorem pd_sl {e : Expr} {lo hi : Option Expr} {f : DE} {flo fhi : Option DE} {g : D → Option Int → Option Int → Option D} {p2 pos : Pos} (ho : SlD X Z g) (he : PD X Z N W e f) (hl : PDP X Z N W lo flo) (hh : PDP X Z N W hi fhi) : PD X Z N W (.Subscript e (.Slice lo hi none p2) pos) (dSl g f flo fhi) := by
  obtain ⟨r, h1, h2⟩ := ho
  refine pe_imp (pe_slice h1 he hl hh) fun σ H Q h => ?_
  obtain ⟨G, ca, env, c, rs, h⟩ := h
  refine tdsl (Post := fun G ca H env c rv c' => ∀ G' ca' H' v, Stp G ca H G' ca' H' → RS _ N G' ca' σ H' env c' → WtR _ G' ca' σ env v rv → Q v H') rs h fun x a b c1 G1 ca1 H1 v s1 r1 w1 h => ?_
  cases e3 : g x.d a b with
  | none => rw [e3] at h; exact h.elim
  | some d =>
    rw [e3] at h
    exact h2 G1 ca1 H1 c1 v x.d d a b Q r1.r0 (w1.read r1) e3 fun G3 H3 v s3 r3 w3 => h G3 ca1 H3 v (s1.trans s3) (r1.step s3 r3) w3
theorem pdo_sl {e : Expr} {lo hi : Option Expr} {f : DE} {flo fhi : Option DE} {g : D → Option Int → Option Int → Option D} {p2 pos : Pos} (ho : SlDO X Z g) (he : PD X Z N W e f) (hl : PDP X Z N W lo flo) (hh : PDP X Z N W hi fhi) : PDO X Z N W (.Subscript e (.Slice lo hi none p2) pos) (dSl g f flo fhi) := by
  obtain ⟨r, h1, h2⟩ := ho
  refine pe_imp (pe_slice h1 he hl hh) fun σ H Q h => ?_
  obtain ⟨G, ca, env, c, rs, h⟩ := h
  refine tdsl (Post := fun G ca H env c rv c' => ∃ ds, rv = .pl (.lst ds) ∧ ∀ G' ca' H' a vs, Stp G ca H G' ca' H' → RS _ N G' ca' σ H' env c' → NoO H a → H' a = some (.lst vs) → G' a = none → ca' ≠ some a → Wts _ G' ca' vs ds → ds.length ≤ sizeL → Q (.ref a) H') rs h fun x a b c1 G1 ca1 H1 v s1 r1 w1 h => ?_
  cases e3 : g x.d a b with
  | none => rw [e3] at h; exact h.elim
  | some d =>
    rw [e3] at h
    obtain ⟨es, e5, hr2⟩ := h2 G1 ca1 H1 c1 v x.d d a b Q r1.r0 (w1.read r1) e3
    obtain ⟨ds, e4, h⟩ := h
    cases e4
    cases e5
    exact hr2 fun H3 a us s3 r3 hn ha w3 hl => h G1 ca1 H3 a us (s1.trans s3) (r1.step s3 r3) (s1.dm _ (.of hn)) ha (r1.r0.free hn) (r1.r0.ncup hn) w3 hl
end
end DL

set_option Elab.async false
set_option linter.all false
set_option maxRecDepth 100000
set_option maxHeartbeats 4000000
set_option autoImplicit false
namespace DL
open PySem PySem.Spec PyProof.Rows L2
section
variable {X : Cx} {Z : Zp} {N : En} {W : WX} {Y : Yp}
/-! ### what is walked -/
def Aft (st : Bool) (G1 : Hp) (ca1 : Option Addr) (H1 G : Hp) (ca : Option Addr) (H : Hp) : Prop := if st = true then (Same G1 G ∧ ∀ a, ca1 = some a → ca = some a) else Stp G1 ca1 H1 G ca H
theorem Aft.le {st : Bool} {G1 H1 G H : Hp} {ca1 ca : Option Addr} (a : Aft st G1 ca1 H1 G ca H) : Same G1 G ∧ ∀ a, ca1 = some a → ca = some a := by
  cases st with
  | true => exact a
  | false =>
    have s : Stp G1 ca1 H1 G ca H := a
    exact ⟨s.le, s.cl⟩
/-- J gives the items -/
def ItD (Y : Yp) (st : Bool) (J : It) (items : List D) (G1 : Hp) (ca1 : Option Addr) (H1 : Hp) : Prop := items.length ≤ sizeL ∧ ∀ (i : Nat) (G : Hp) (ca : Option Addr) (H : Hp) (c : C), Aft st G1 ca1 H1 G ca H → RS0 Y G ca H c →
  (∀ d, items[i]? = some d → J.go i H ∧ ∀ x H', J.yld i H x H' → ∃ G', Stp G ca H G' ca H' ∧ RS0 Y G' ca H' c ∧ Wt Y G' ca x d) ∧ (items.length ≤ i → J.stop i H)
def tDI (Y : Yp) (N : En) (W : WX) (st : Bool) (f : DI) : TI := fun σ H R => ∃ G ca env c, RS Y N G ca σ H env c ∧ (f env c).post (fun items c' => ∀ G' ca' H' J, Stp G ca H G' ca' H' → RS Y N G' ca' σ H' env c' → ItD Y st J items G' ca' H' → R J H') (fun x c' => Bad Y N W σ env x c' G ca H)
abbrev PDI (X : Cx) (Z : Zp) (N : En) (W : WX) (st : Bool) (tg it : Expr) (f : DI) : Prop := PI X tg it (tDI (yOf X Z) N W st f)
theorem aft_lst {st : Bool} {G1 H1 : Hp} {ca1 : Option Addr} {σ : L2.St} {env : DL.Env} {c1 : C} {v : V} {rv : RV} {xs : List D} (rs : RS Y N G1 ca1 σ H1 env c1) (w : WtR Y G1 ca1 σ env v rv) (e : rv.d = .lst xs) (hp : rv.good st = true) :
    ∃ a vs, v = .ref a ∧ vs.length = xs.length ∧ xs.length ≤ sizeL ∧ ∀ G ca H c, Aft st G1 ca1 H1 G ca H → RS0 Y G ca H c → H a = some (.lst vs) ∧ Wts Y G ca vs xs := by
  cases rv with
  | pl d =>
    have e : d = .lst xs := e
    subst e
    cases w with
    | lst h w l => exact ⟨_, _, rfl, w.length, l, fun G ca H c A r => ⟨r.le _ _ (A.le.1 _ _ h), w.mono A.le.1 A.le.2⟩⟩
  | ow i ys =>
    cases e
    cases st with
    | true => cases hp
    | false =>
      obtain ⟨w1, w2⟩ := w
      obtain ⟨a, vs, h1, h2, h3, h4, h5, h6, h7⟩ := rs.own i xs w1
      rw [h1] at w2
      cases w2
      exact ⟨a, vs, rfl, h3.length, h7, fun G ca H c (A : Stp G1 ca1 H1 G ca H) r => ⟨A.fr a _ h2 notbl h5, h3.mono A.le A.cl⟩⟩
theorem aft_tup {st : Bool} {G1 H1 : Hp} {ca1 : Option Addr} {σ : L2.St} {env : DL.Env} {v : V} {rv : RV} {xs : List D} (w : WtR Y G1 ca1 σ env v rv) (e : rv.d = .tup xs) :
    ∃ a vs, v = .ref a ∧ vs.length = xs.length ∧ xs.length ≤ sizeL ∧ ∀ G ca H c, Aft st G1 ca1 H1 G ca H → RS0 Y G ca H c → SqT Y.K H a vs ∧ Wts Y G ca vs xs := by
  cases rv with
  | pl d =>
    have e : d = .tup xs := e
    subst e
    cases w with
    | tup h w l => exact ⟨_, _, rfl, w.length, l, fun G ca H c A r => ⟨sqT_mono r.le (sqT_mono A.le.1 h), w.mono A.le.1 A.le.2⟩⟩
  | ow i ys => cases e
theorem aft_refl {st : Bool} {G H : Hp} {ca : Option Addr} : Aft st G ca H G ca H := by
  cases st with
  | true => exact ⟨fun _ _ h => h, fun _ h => h⟩
  | false => exact Stp.refl
def iSeqQ (K : PySem.W.Frag) (tl : TE) : TI := fun σ H R => tl σ H fun x H1 => ∃ a, x = .ref a ∧ ((∃ xs, SqL K H1 a xs ∧ R (Itl K a) H1) ∨ ∃ xs, SqT K H1 a xs ∧ R (Itt K a) H1)
theorem pi_seq {tg l : Expr} {tl : TE} (hl : PE X l tl) : PI X tg l (iSeqQ X.K tl) := by
  refine ⟨fun pins s σ H R I h => ?_⟩
  refine thn (hl.run pins s σ H _ I h) fun v s1 ⟨x, H1, I1, r1, q1⟩ => ?_
  obtain ⟨a, e, q⟩ := q1
  subst e
  cases r1
  rcases q with ⟨xs, hq, q⟩ | ⟨xs, hq, q⟩
  · obtain ⟨its, rv, p, hz⟩ := I1.list hq
    refine wpAny_pyIter_list p.isList ?_
    refine ⟨s1.heap.objs.size, [s1.heap.objs.size], _, _, H1, rfl, I1.kept (t' := s1.toks) fun b o e => Heap.get?_push_of_some _ e, turn_list a _, ⟨_, Heap.get?_push_size _ rfl, rfl, rfl⟩, fun b hb => ?_, q⟩
    have e : b = s1.heap.objs.size := by simpa using hb
    subst e
    exact I1.fpOk (Nat.le_refl _) (I1.hok.fresh (Nat.le_refl _))
  · obtain ⟨its, rv, p, hz⟩ := I1.tuple hq
    refine wpAny_pyIter_tuple (show s1.heap.IsTuple a its.toArray from p) ?_
    refine ⟨s1.heap.objs.size, [s1.heap.objs.size], _, _, H1, rfl, I1.kept (t' := s1.toks) fun b o e => Heap.get?_push_of_some _ e, turn_tuple a _, ⟨_, Heap.get?_push_size _ rfl, rfl, rfl⟩, fun b hb => ?_, q⟩
    have e : b = s1.heap.objs.size := by simpa using hb
    subst e
    exact I1.fpOk (Nat.le_refl _) (I1.hok.fresh (Nat.le_refl _))
theorem pdi_seq {st : Bool} {tg l : Expr} {f : DE} (hl : PD X Z N W l f) : PDI X Z N W st tg l (iSeq st f) := by
  refine pi_imp (pi_seq hl) fun σ H R h => ?_
  obtain ⟨G, ca, env, c, rs, h⟩ := h
  refine ⟨G, ca, env, c, rs, ?_⟩
  simp only [iSeq] at h
  cases e : f env c with
  | st => rw [e] at h; exact h
  | er x c1 => rw [e] at h; exact h
  | ok x c1 =>
    rw [e] at h
    simp only [DL.R.bind] at h
    intro G1 ca1 H1 vx s1 r1 w1
    by_cases hg : x.good st = true
    · rw [if_pos hg] at h
      cases e3 : x.d with
      | tup xs =>
        rw [e3] at h
        obtain ⟨a, vs, rfl, hlen, hsz, k⟩ := aft_tup (st := st) (H1 := H1) w1 e3
        refine ⟨a, rfl, .inr ⟨vs, (k G1 ca1 H1 c1 aft_refl r1.r0).1, h G1 ca1 H1 _ s1 r1 ⟨by first | exact hsz | (rw [zip_len]; omega), fun i G ca H c A r => ?_⟩⟩⟩
        obtain ⟨k1, k2⟩ := k G ca H c A r
        refine ⟨fun d hd => ?_, fun hi => ⟨vs, k1, by rw [hlen]; exact hi⟩⟩
        obtain ⟨v, e1, w⟩ := k2.get hd
        refine ⟨⟨vs, v, k1, e1⟩, fun x H' hy => ?_⟩
        obtain ⟨rfl, hy⟩ := hy
        have e2 := hy vs k1
        rw [e1] at e2
        cases e2
        exact ⟨G, .refl, r, w⟩
      | lst xs =>
        rw [e3] at h
        obtain ⟨a, vs, rfl, hlen, hsz, k⟩ := aft_lst r1 w1 e3 hg
        refine ⟨a, rfl, .inl ⟨vs, sql (k G1 ca1 H1 c1 aft_refl r1.r0).1, h G1 ca1 H1 _ s1 r1 ⟨by first | exact hsz | (rw [zip_len]; omega), fun i G ca H c A r => ?_⟩⟩⟩
        obtain ⟨k1, k2⟩ := k G ca H c A r
        refine ⟨fun d hd => ?_, fun hi => ⟨vs, sql k1, by rw [hlen]; exact hi⟩⟩
        obtain ⟨v, e1, w⟩ := k2.get hd
        refine ⟨⟨vs, v, sql k1, e1⟩, fun x H' hy => ?_⟩
        obtain ⟨rfl, hy⟩ := hy
        have e2 := hy vs (sql k1)
        rw [e1] at e2
        cases e2
        exact ⟨G, .refl, r, w⟩
      | _ => rw [e3] at h; exact h.elim
    · rw [if_neg hg] at h
      exact h.elim
theorem rng_get : ∀ (n : Nat) (lo : Int) (i : Nat) (d : D), (rng lo n)[i]? = some d → i < n ∧ d = .int (lo + i)
  | 0, _, _, _, h => by simp [rng] at h
  | n + 1, lo, 0, d, h => by
    simp [rng] at h
    subst h
    exact ⟨Nat.succ_pos _, by simp⟩
  | n + 1, lo, i + 1, d, h => by
    simp only [rng, List.getElem?_cons_succ] at h
    obtain ⟨h1, h2⟩ := rng_get n (lo + 1) i d h
    refine ⟨Nat.succ_lt_succ h1, ?_⟩
    rw [h2]
    congr 1
    omega
theorem rng_len : ∀ (n : Nat) (lo : Int), (rng lo n).length = n
  | 0, _ => rfl
  | n + 1, lo => by simp only [rng, List.length_cons]; rw [rng_len n]
theorem it_rng {st : Bool} {G1 H1 : Hp} {ca1 : Option Addr} (lo : Int) (n : Nat) (hn : n ≤ sizeL) : ItD Y st (Itr lo n) (rng lo n) G1 ca1 H1 := ⟨by rw [rng_len]; exact hn, fun i G ca H c A r => by
  refine ⟨fun d hd => ?_, fun hi => by rw [rng_len] at hi; exact hi⟩
  obtain ⟨h1, rfl⟩ := rng_get _ _ _ _ hd
  refine ⟨h1, fun x H' hy => ?_⟩
  obtain ⟨rfl, rfl⟩ := hy
  exact ⟨G, .refl, r, .int _⟩⟩
theorem okR_of {i : Int} (h : okR i = true) : -(2 ^ 62) ≤ i ∧ i < 2 ^ 62 := by
  unfold okR rngLine at h
  rw [Bool.and_eq_true] at h
  exact ⟨of_decide_eq_true h.1, of_decide_eq_true h.2⟩
theorem Paired.two {α β : Type} {F : α → β → Prop} {xs : List α} {a b : β} (h : Paired F xs [a, b]) : ∃ x y, xs = [x, y] ∧ F x a ∧ F y b := by
  cases h with
  | cons h1 h2 =>
    cases h2 with
    | cons h2 h3 =>
      cases h3
      exact ⟨_, _, rfl, h1, h2⟩
theorem Paired.one {α β : Type} {F : α → β → Prop} {xs : List α} {a : β} (h : Paired F xs [a]) : ∃ x, xs = [x] ∧ F x a := by
  cases h with
  | cons h1 h2 =>
    cases h2
    exact ⟨_, rfl, h1⟩
/-- one argument -/
theorem tda1 {σ : L2.St} {G H : Hp} {ca : Option Addr} {env : DL.Env} {c : C} {f : DE} {α : Type} {k : RV → C → R α} {Q' : List V → Hp → Prop} {Post : α → C → Prop} (rs : RS Y N G ca σ H env c)
    (h : ((f env c).bind k).post Post fun x c' => Bad Y N W σ env x c' G ca H)
    (hq : ∀ x c1 G1 ca1 H1 v, Stp G ca H G1 ca1 H1 → RS Y N G1 ca1 σ H1 env c1 → WtR Y G1 ca1 σ env v x → (k x c1).post Post (fun x c' => Bad Y N W σ env x c' G ca H) → Q' [v] H1) : tDA Y N W (dArgs [f]) σ H Q' := by
  refine ⟨G, ca, env, c, rs, ?_⟩
  simp only [dArgs]
  cases e : f env c with
  | st => rw [e] at h; exact h
  | er x c1 => rw [e] at h; exact h
  | ok x c1 =>
    rw [e] at h
    intro G1 ca1 H1 vs s1 r1 w1
    obtain ⟨v, rfl, w⟩ := Paired.one w1
    exact hq x c1 G1 ca1 H1 v s1 r1 w h
theorem tda2 {σ : L2.St} {G H : Hp} {ca : Option Addr} {env : DL.Env} {c : C} {f g : DE} {α : Type} {k : RV → RV → C → R α} {Q' : List V → Hp → Prop} {Post : α → C → Prop} (rs : RS Y N G ca σ H env c)
    (h : ((f env c).bind fun x c => (g env c).bind fun y c => k x y c).post Post fun x c' => Bad Y N W σ env x c' G ca H)
    (hq : ∀ x y c1 G1 ca1 H1 v u, Stp G ca H G1 ca1 H1 → RS Y N G1 ca1 σ H1 env c1 → WtR Y G1 ca1 σ env v x → WtR Y G1 ca1 σ env u y → (k x y c1).post Post (fun x c' => Bad Y N W σ env x c' G ca H) → Q' [v, u] H1) : tDA Y N W (dArgs [f, g]) σ H Q' := by
  refine ⟨G, ca, env, c, rs, ?_⟩
  simp only [dArgs]
  cases e : f env c with
  | st => rw [e] at h; exact h
  | er x c1 => rw [e] at h; exact h
  | ok x c1 =>
    rw [e] at h
    simp only [DL.R.bind] at h ⊢
    cases e2 : g env c1 with
    | st => rw [e2] at h; exact h
    | er x c1 => rw [e2] at h; exact h
    | ok y c2 =>
      rw [e2] at h
      intro G1 ca1 H1 vs s1 r1 w1
      obtain ⟨v, u, rfl, w, w2⟩ := Paired.two w1
      exact hq x y c2 G1 ca1 H1 v u s1 r1 w w2 h
theorem atom_int {σ : L2.St} {env : DL.Env} {G : Hp} {ca : Option Addr} {v : V} {rv : RV} {i : Int} (w : WtR Y G ca σ env v rv) (e : rv.d = .int i) : v = .int i := by
  cases rv with
  | pl d =>
    have e : d = .int i := e
    subst e
    cases w
    rfl
  | ow i xs => cases e
theorem pdi_rng1 {st : Bool} {tg a : Expr} {f : DE} {p pos : Pos} (hg : Gl X "range") (hm : X.mg "range" = none) (ha : PDA X Z N W [a] (dArgs [f]))
    (hs : starEach [a] X.env = [(false, eval a X.env)] := by rfl) : PDI X Z N W st tg (.Call (.Name "range" p) [a] [] pos) (iRng1 f) := by
  refine pi_imp (pi_range1 hg hm ha hs) fun σ H R h => ?_
  obtain ⟨G, ca, env, c, rs, h⟩ := h
  refine tda1 (k := kRng1) (Post := fun items c' => ∀ G' ca' H' J, Stp G ca H G' ca' H' → RS (yOf X Z) N G' ca' σ H' env c' → ItD (yOf X Z) st J items G' ca' H' → R J H') rs h fun x c1 G1 ca1 H1 v s1 r1 w1 h => ?_
  simp only [kRng1] at h
  cases e3 : x.d with
  | int j =>
    rw [e3] at h
    dsimp only at h
    by_cases hj : (okR j && decide (j.toNat ≤ sizeL)) = true
    · rw [if_pos hj] at h
      rw [Bool.and_eq_true] at hj
      obtain ⟨h1, h2⟩ := okR_of hj.1
      exact ⟨j, by rw [atom_int w1 e3], h1, h2, h _ _ _ _ s1 r1 (it_rng 0 j.toNat (of_decide_eq_true hj.2))⟩
    · rw [if_neg hj] at h; exact h.elim
  | _ => rw [e3] at h; exact h.elim
theorem pdi_rng2 {st : Bool} {tg a b : Expr} {f g : DE} {p pos : Pos} (hg : Gl X "range") (hm : X.mg "range" = none) (ha : PDA X Z N W [a, b] (dArgs [f, g]))
    (hs : starEach [a, b] X.env = [(false, eval a X.env), (false, eval b X.env)] := by rfl) (hs2 : starEach [b] X.env = [(false, eval b X.env)] := by rfl) : PDI X Z N W st tg (.Call (.Name "range" p) [a, b] [] pos) (iRng2 f g) := by
  refine pi_imp (pi_range2 hg hm ha hs hs2) fun σ H R h => ?_
  obtain ⟨G, ca, env, c, rs, h⟩ := h
  refine tda2 (k := kRng2) (Post := fun items c' => ∀ G' ca' H' J, Stp G ca H G' ca' H' → RS (yOf X Z) N G' ca' σ H' env c' → ItD (yOf X Z) st J items G' ca' H' → R J H') rs h fun x y c1 G1 ca1 H1 v u s1 r1 w1 w2 h => ?_
  simp only [kRng2] at h
  cases e3 : x.d with
  | int i =>
    rw [e3] at h
    cases e4 : y.d with
    | int j =>
      rw [e4] at h
      dsimp only at h
      by_cases hj : (okR i && okR j && decide ((j - i).toNat ≤ sizeL)) = true
      · rw [if_pos hj] at h
        rw [Bool.and_eq_true, Bool.and_eq_true] at hj
        obtain ⟨h1, h2⟩ := okR_of hj.1.1
        obtain ⟨h3, h4⟩ := okR_of hj.1.2
        exact ⟨i, j, by rw [atom_int w1 e3, atom_int w2 e4], ⟨h1, h2, h3, h4⟩, h _ _ _ _ s1 r1 (it_rng i _ (of_decide_eq_true hj.2))⟩
      · rw [if_neg hj] at h; exact h.elim
    | _ => rw [e4] at h; exact h.elim
  | _ => rw [e3] at h; exact h.elim
theorem zip_get : ∀ {xs ys : List D} {i : Nat} {d : D}, (zipD xs ys)[i]? = some d → ∃ x y, xs[i]? = some x ∧ ys[i]? = some y ∧ d = .tup [x, y]
  | x :: xs, y :: ys, 0, d, h => by
    simp [zipD] at h
    exact ⟨x, y, rfl, rfl, h.symm⟩
  | x :: xs, y :: ys, i + 1, d, h => by
    simp only [zipD, List.getElem?_cons_succ] at h
    obtain ⟨a, b, h1, h2, h3⟩ := zip_get h
    exact ⟨a, b, by simpa using h1, by simpa using h2, h3⟩
  | [], _, _, _, h => by simp [zipD] at h
  | _ :: _, [], _, _, h => by simp [zipD] at h
theorem zip_len : ∀ xs ys : List D, (zipD xs ys).length = min xs.length ys.length
  | x :: xs, y :: ys => by simp only [zipD, List.length_cons, zip_len xs ys]; omega
  | [], _ => by simp [zipD]
  | _ :: _, [] => by simp [zipD]
theorem pair_new {G H : Hp} {ca : Option Addr} {c : C} {p : Addr} {x y : V} {d e : D} (r : RS0 Y G ca H c) (w1 : Wt Y G ca x d) (w2 : Wt Y G ca y e) (hp : H p = none) :
    ∃ G', Stp G ca H G' ca (upd H p (.tup [x, y])) ∧ RS0 Y G' ca (upd H p (.tup [x, y])) c ∧ Wt Y G' ca (.ref p) (.tup [d, e]) :=
  ⟨upd G p (.tup [x, y]), .newG r hp, r.newG hp, .tup (.inl (.inl upd_same)) ((Wts.cons w1 (.cons w2 .nil)).mono (same_upd (r.free hp)) fun _ h => h) (by show 2 ≤ sizeL; decide)⟩
theorem pdi_zip {st : Bool} {e e2 : Expr} {f g : DE} {p pos tpos : Pos} {elts : List Expr} {kk : Nat} (hg : Gl X "zip") (hm : X.mg "zip" = none) (ha : PDA X Z N W [e, e2] (dArgs [f, g]))
    (hs : starEach [e, e2] X.env = (false, eval e X.env) :: starEach [e2] X.env := by rfl) (hpl : (backTo pos (starEach [e2] X.env)).any (·.1) = false := by rfl) :
    PDI X Z N W st (.Tuple elts kk tpos) (.Call (.Name "zip" p) [e, e2] [] pos) (iZip st f g) := by
  refine pi_imp (RZ.pi_zipA hg hm ha hs hpl) fun σ H R h => ?_
  obtain ⟨G, ca, env, c, rs, h⟩ := h
  refine tda2 (k := kZip st) (Post := fun items c' => ∀ G' ca' H' J, Stp G ca H G' ca' H' → RS (yOf X Z) N G' ca' σ H' env c' → ItD (yOf X Z) st J items G' ca' H' → R J H') rs h fun x y c1 G1 ca1 H1 v u s1 r1 w1 w2 h => ?_
  simp only [kZip] at h
  by_cases hgd : (x.good st && y.good st) = true
  · rw [if_pos hgd] at h
    simp only [Bool.and_eq_true] at hgd
    cases e3 : x.d with
    | tup xs =>
      rw [e3] at h
      cases e4 : y.d with
      | tup ys =>
        rw [e4] at h
        simp only [zip2] at h
        obtain ⟨a, vs, rfl, hlen, hsz, k⟩ := aft_tup (st := st) (H1 := H1) w1 e3
        obtain ⟨b, us, rfl, hlen2, hsz2, k2⟩ := aft_tup (st := st) (H1 := H1) w2 e4
        refine ⟨a, b, vs, us, rfl, .inr ⟨(k G1 ca1 H1 c1 aft_refl r1.r0).1, (k2 G1 ca1 H1 c1 aft_refl r1.r0).1, h G1 ca1 H1 _ s1 r1 ⟨by first | exact hsz | (rw [zip_len]; omega), fun i G ca H c A r => ?_⟩⟩⟩
        obtain ⟨q1, q2⟩ := k G ca H c A r
        obtain ⟨q3, q4⟩ := k2 G ca H c A r
        refine ⟨fun d hd => ?_, fun hi => ⟨vs, us, q1, q3, by rw [zip_len] at hi; omega⟩⟩
        obtain ⟨dx, dy, e5, e6, rfl⟩ := zip_get hd
        obtain ⟨vx, e7, wx⟩ := q2.get e5
        obtain ⟨vy, e8, wy⟩ := q4.get e6
        refine ⟨⟨vs, us, vx, vy, q1, q3, e7, e8⟩, fun z H' hy => ?_⟩
        obtain ⟨T, x', y', rfl, hT, rfl, g1, g2⟩ := hy
        have g1 := g1 vs q1
        have g2 := g2 us q3
        rw [e7] at g1
        rw [e8] at g2
        cases g1
        cases g2
        exact pair_new r wx wy hT
      | _ => rw [e4] at h; exact h.elim
    | lst xs =>
      rw [e3] at h
      cases e4 : y.d with
      | lst ys =>
        rw [e4] at h
        simp only [zip2] at h
        obtain ⟨a, vs, rfl, hlen, hsz, k⟩ := aft_lst r1 w1 e3 hgd.1
        obtain ⟨b, us, rfl, hlen2, hsz2, k2⟩ := aft_lst r1 w2 e4 hgd.2
        refine ⟨a, b, vs, us, rfl, .inl ⟨sql (k G1 ca1 H1 c1 aft_refl r1.r0).1, sql (k2 G1 ca1 H1 c1 aft_refl r1.r0).1, h G1 ca1 H1 _ s1 r1 ⟨by first | exact hsz | (rw [zip_len]; omega), fun i G ca H c A r => ?_⟩⟩⟩
        obtain ⟨q1, q2⟩ := k G ca H c A r
        obtain ⟨q3, q4⟩ := k2 G ca H c A r
        refine ⟨fun d hd => ?_, fun hi => ⟨vs, us, sql q1, sql q3, by rw [zip_len] at hi; omega⟩⟩
        obtain ⟨dx, dy, e5, e6, rfl⟩ := zip_get hd
        obtain ⟨vx, e7, wx⟩ := q2.get e5
        obtain ⟨vy, e8, wy⟩ := q4.get e6
        refine ⟨⟨vs, us, vx, vy, sql q1, sql q3, e7, e8⟩, fun z H' hy => ?_⟩
        obtain ⟨T, x', y', rfl, hT, rfl, g1, g2⟩ := hy
        have g1 := g1 vs (sql q1)
        have g2 := g2 us (sql q3)
        rw [e7] at g1
        rw [e8] at g2
        cases g1
        cases g2
        exact pair_new r wx wy hT
      | _ => rw [e4] at h; exact h.elim
    | _ => rw [e3] at h; exact h.elim
  · rw [if_neg hgd] at h; exact h.elim
theorem enum_get : ∀ {xs : List D} {k : Int} {i : Nat} {d : D}, (enumD k xs)[i]? = some d → ∃ x, xs[i]? = some x ∧ d = .tup [.int (k + i), x]
  | x :: xs, k, 0, d, h => by
    simp [enumD] at h
    exact ⟨x, rfl, by simp [h]⟩
  | x :: xs, k, i + 1, d, h => by
    simp only [enumD, List.getElem?_cons_succ] at h
    obtain ⟨a, h1, h3⟩ := enum_get h
    refine ⟨a, by simpa using h1, ?_⟩
    rw [h3]
    congr 3
    omega
  | [], _, _, _, h => by simp [enumD] at h
theorem enum_len : ∀ (xs : List D) (k : Int), (enumD k xs).length = xs.length
  | x :: xs, k => by simp only [enumD, List.length_cons, enum_len xs]
  | [], _ => rfl
theorem pdi_enum {st : Bool} {e : Expr} {f : DE} {p pos tpos : Pos} {elts : List Expr} {kk : Nat} (hg : Gl X "enumerate") (hm : X.mg "enumerate" = none) (ha : PDA X Z N W [e] (dArgs [f])) (hs : starEach [e] X.env = [(false, eval e X.env)] := by rfl) :
    PDI X Z N W st (.Tuple elts kk tpos) (.Call (.Name "enumerate" p) [e] [] pos) (iEnum st f) := by
  refine pi_imp (pi_enum hg hm ha hs) fun σ H R h => ?_
  obtain ⟨G, ca, env, c, rs, h⟩ := h
  refine tda1 (k := kEnum st) (Post := fun items c' => ∀ G' ca' H' J, Stp G ca H G' ca' H' → RS (yOf X Z) N G' ca' σ H' env c' → ItD (yOf X Z) st J items G' ca' H' → R J H') rs h fun x c1 G1 ca1 H1 v s1 r1 w1 h => ?_
  simp only [kEnum] at h
  by_cases hgd : x.good st = true
  · rw [if_pos hgd] at h
    cases e3 : x.d with
    | lst xs =>
      rw [e3] at h
      obtain ⟨a, vs, rfl, hlen, hsz, k⟩ := aft_lst r1 w1 e3 hgd
      refine ⟨a, vs, rfl, sql (k G1 ca1 H1 c1 aft_refl r1.r0).1, h G1 ca1 H1 _ s1 r1 ⟨by rw [enum_len]; exact hsz, fun i G ca H c A r => ?_⟩⟩
      obtain ⟨q1, q2⟩ := k G ca H c A r
      refine ⟨fun d hd => ?_, fun hi => ⟨vs, sql q1, by rw [enum_len] at hi; omega⟩⟩
      obtain ⟨dx, e5, rfl⟩ := enum_get hd
      obtain ⟨vx, e7, wx⟩ := q2.get e5
      refine ⟨⟨vs, vx, sql q1, e7⟩, fun z H' hy => ?_⟩
      obtain ⟨T, x', rfl, hT, rfl, g1⟩ := hy
      have g1 := g1 vs (sql q1)
      rw [e7] at g1
      cases g1
      have := pair_new (d := .int (0 + i)) r (by rw [Int.zero_add]; exact .int (i : Nat)) wx hT
      exact this
    | _ => rw [e3] at h; exact h.elim
  · rw [if_neg hgd] at h; exact h.elim
end
end DL

set_option Elab.async false
set_option linter.all false
set_option maxRecDepth 100000
set_option maxHeartbeats 4000000
set_option autoImplicit false
namespace DL
open PySem PySem.Spec PyProof.Rows L2
section
variable {X : Cx} {Z : Zp} {N : En} {W : WX} {Y : Yp}
/-! ### targets -/
def OnlyAt (is : List Nat) (σ σ' : L2.St) : Prop := σ'.length = σ.length ∧ ∀ j : Nat, j ∉ is → σ'[j]? = σ[j]?
theorem wipe_get (σ : L2.St) : ∀ (vs : List Nat) (j : Nat), (wipe σ vs)[j]? = if j ∈ vs then (if j < σ.length then some none else none) else σ[j]?
  | [], j => by simp [wipe]
  | v :: vs, j => by
    unfold wipe
    rw [List.getElem?_set, wipe_get σ vs j, wipe_length]
    by_cases h : v = j
    · subst h
      simp
    · have h2 : ¬ j = v := fun e => h e.symm
      simp [h, h2]
theorem OnlyAt.wipe {is vs : List Nat} {σ σ' : L2.St} (h : OnlyAt is σ σ') (hs : ∀ i ∈ is, i ∈ vs) : L2.wipe σ' vs = L2.wipe σ vs := by
  apply List.ext_getElem?
  intro j
  rw [wipe_get, wipe_get, h.1]
  by_cases hj : j ∈ vs
  · rw [if_pos hj, if_pos hj]
  · rw [if_neg hj, if_neg hj, h.2 j fun z => hj (hs j z)]
theorem wipe_wipe (σ : L2.St) (vs : List Nat) : L2.wipe (L2.wipe σ vs) vs = L2.wipe σ vs := by
  apply List.ext_getElem?
  intro j
  rw [wipe_get, wipe_get, wipe_length]
  by_cases hj : j ∈ vs
  · rw [if_pos hj, if_pos hj]
  · rw [if_neg hj, if_neg hj]
theorem OnlyAt.set {i : Nat} {σ : L2.St} {o : Option V} : OnlyAt [i] σ (σ.set i o) := ⟨List.length_set, fun j h => List.getElem?_set_ne fun e => h (by simp [e])⟩
theorem OnlyAt.trans {is js : List Nat} {σ σ' σ'' : L2.St} (a : OnlyAt is σ σ') (b : OnlyAt js σ' σ'') : OnlyAt (is ++ js) σ σ'' :=
  ⟨b.1.trans a.1, fun j h => by
    rw [List.mem_append, not_or] at h
    exact (b.2 j h.2).trans (a.2 j h.1)⟩
theorem wipeE_len (env : DL.Env) : ∀ vs : List Nat, (wipeE env vs).length = env.length
  | [] => rfl
  | v :: vs => by unfold wipeE; rw [List.length_set, wipeE_len env vs]
theorem wipeE_get (env : DL.Env) : ∀ (vs : List Nat) (j : Nat), (wipeE env vs)[j]? = if j ∈ vs then (if j < env.length then some .no else none) else env[j]?
  | [], j => by simp [wipeE]
  | v :: vs, j => by
    unfold wipeE
    rw [List.getElem?_set, wipeE_get env vs j, wipeE_len]
    by_cases h : v = j
    · subst h
      simp
    · have h2 : ¬ j = v := fun e => h e.symm
      simp [h, h2]
section
variable {G H : Hp} {ca : Option Addr} {σ : L2.St} {env : DL.Env} {c : C}
theorem RS.set (r : RS Y N G ca σ H env c) {i : Nat} {v : V} {d : D} (w : Wt Y G ca v d) : RS Y N G ca (σ.set i (some v)) H (env.set i (.val d)) c where
  r0 := r.r0
  st := r.st
  len := by rw [List.length_set, List.length_set]; exact r.len
  val := fun j e h => by
    by_cases hj : i = j
    · subst hj
      rw [List.getElem?_set] at h
      by_cases hl : i < env.length
      · rw [if_pos rfl, if_pos hl] at h
        cases h
        exact ⟨v, List.getElem?_set_self (by rw [← r.len]; exact hl), w⟩
      · rw [if_pos rfl, if_neg hl] at h
        cases h
    · rw [List.getElem?_set_ne hj] at h
      obtain ⟨u, h1, h2⟩ := r.val j e h
      exact ⟨u, by rw [List.getElem?_set_ne hj]; exact h1, h2⟩
  own := fun j xs h => by
    by_cases hj : i = j
    · subst hj
      rw [List.getElem?_set] at h
      by_cases hl : i < env.length
      · rw [if_pos rfl, if_pos hl] at h
        cases h
      · rw [if_pos rfl, if_neg hl] at h
        cases h
    · rw [List.getElem?_set_ne hj] at h
      obtain ⟨a, vs, h1, h2⟩ := r.own j xs h
      exact ⟨a, vs, by rw [List.getElem?_set_ne hj]; exact h1, h2⟩
  sep := fun j k xs ys a h1 h2 h3 h4 => by
    by_cases hj : i = j
    · subst hj
      rw [List.getElem?_set] at h1
      by_cases hl : i < env.length
      · rw [if_pos rfl, if_pos hl] at h1; cases h1
      · rw [if_pos rfl, if_neg hl] at h1; cases h1
    · by_cases hk : i = k
      · subst hk
        rw [List.getElem?_set] at h2
        by_cases hl : i < env.length
        · rw [if_pos rfl, if_pos hl] at h2; cases h2
        · rw [if_pos rfl, if_neg hl] at h2; cases h2
      · rw [List.getElem?_set_ne hj] at h1 h3
        rw [List.getElem?_set_ne hk] at h2 h4
        exact r.sep j k xs ys a h1 h2 h3 h4
theorem RS.wipe (r : RS Y N G ca σ H env c) (vs : List Nat) : RS Y N G ca (L2.wipe σ vs) H (wipeE env vs) c where
  r0 := r.r0
  st := r.st
  len := by rw [wipeE_len, wipe_length]; exact r.len
  val := fun j e h => by
    rw [wipeE_get] at h
    by_cases hj : j ∈ vs
    · rw [if_pos hj] at h
      split at h <;> cases h
    · rw [if_neg hj] at h
      rw [wipe_get, if_neg hj]
      exact r.val j e h
  own := fun j xs h => by
    rw [wipeE_get] at h
    by_cases hj : j ∈ vs
    · rw [if_pos hj] at h
      split at h <;> cases h
    · rw [if_neg hj] at h
      rw [wipe_get, if_neg hj]
      exact r.own j xs h
  sep := fun j k xs ys a h1 h2 h3 h4 => by
    rw [wipeE_get] at h1 h2
    rw [wipe_get] at h3 h4
    by_cases hj : j ∈ vs
    · rw [if_pos hj] at h1
      split at h1 <;> cases h1
    · by_cases hk : k ∈ vs
      · rw [if_pos hk] at h2
        split at h2 <;> cases h2
      · rw [if_neg hj] at h1 h3
        rw [if_neg hk] at h2 h4
        exact r.sep j k xs ys a h1 h2 h3 h4
end
def gD (Y : Yp) (N : En) (is : List Nat) (tg : TG) : L2.TG := fun v σ H Q => ∃ G ca env c d env', RS Y N G ca σ H env c ∧ Wt Y G ca v d ∧ tg d env = some env' ∧ ∀ σ', RS Y N G ca σ' H env' c → OnlyAt is σ σ' → Q σ' H
def gDs (Y : Yp) (N : En) (is : List Nat) (tgs : List TG) : L2.TGs := fun vs σ H Q => ∃ G ca env c ds env', RS Y N G ca σ H env c ∧ Wts Y G ca vs ds ∧ tgAll tgs ds env = some env' ∧ ∀ σ', RS Y N G ca σ' H env' c → OnlyAt is σ σ' → Q σ' H
abbrev PGD (X : Cx) (Z : Zp) (N : En) (is : List Nat) (tg : Expr) (f : TG) : Prop := PG X tg (gD (yOf X Z) N is f)
abbrev PGsD (X : Cx) (Z : Zp) (N : En) (is : List Nat) (tgs : List Expr) (f : List TG) : Prop := PGs X tgs (gDs (yOf X Z) N is f)
theorem pgs_imp {e : List Expr} {t t' : TGs} (h : PGs X e t) (i : ∀ v σ H Q, t' v σ H Q → t v σ H Q) : PGs X e t' := ⟨fun pins s σ H v u Q I r q => h.run pins s σ H v u Q I r (i _ _ _ _ q)⟩
theorem pgd_name {i : Nat} {x : Str} {pos : Pos} (hN : X.N.Nodup) (hi : X.N[i]? = some x) (hx : Loc X.env.scope x) (hf : X.fn x = true ∨ X.env.scope.names.lookup x = some .local := by first | exact .inl rfl | exact .inr rfl | assumption) : PGD X Z N [i] (.Name x pos) (tgN i) :=
  pg_imp (pg_name hN hi hx hf) fun v σ H Q ⟨G, ca, env, c, d, env', r, w, e, k⟩ => by
    cases e
    exact k _ (r.set w) .set
theorem pgsd_nil : PGsD X Z N [] [] [] :=
  pgs_imp pgs_nil fun v σ H Q ⟨G, ca, env, c, ds, env', r, w, e, k⟩ => by
    cases ds with
    | nil =>
      cases w
      cases e
      exact ⟨rfl, k σ r ⟨rfl, fun _ _ => rfl⟩⟩
    | cons d ds => cases e
theorem pgsd_cons {e : Expr} {es : List Expr} {is js : List Nat} {f : TG} {fs : List TG} (h1 : PGD X Z N is e f) (h2 : PGsD X Z N js es fs) (hs : (assignEach (e :: es) X.env).map (·.2) = assign e X.env :: (assignEach es X.env).map (·.2) := by rfl) : PGsD X Z N (is ++ js) (e :: es) (f :: fs) :=
  pgs_imp (pgs_cons h1 h2 hs) fun v σ H Q ⟨G, ca, env, c, ds, env', r, w, e, k⟩ => by
    cases w with
    | nil => cases e
    | @cons v vs d ds w ws =>
      simp only [tgAll] at e
      cases e1 : f d env with
      | none => rw [e1] at e; cases e
      | some env1 =>
        rw [e1] at e
        exact ⟨v, vs, rfl, G, ca, env, c, d, env1, r, w, e1, fun σ1 r1 o1 => ⟨G, ca, env1, c, ds, env', r1, ws, e, fun σ2 r2 o2 => k σ2 r2 (o1.trans o2)⟩⟩
theorem tgAll_len : ∀ {fs : List TG} {ds : List D} {env env' : DL.Env}, tgAll fs ds env = some env' → ds.length = fs.length
  | [], [], _, _, _ => rfl
  | [], _ :: _, _, _, h => by cases h
  | _ :: _, [], _, _, h => by cases h
  | f :: fs, d :: ds, env, env', h => by
    simp only [tgAll] at h
    cases e : f d env with
    | none => rw [e] at h; cases h
    | some env1 => rw [e] at h; exact congrArg (· + 1) (tgAll_len h)
theorem pgd_tup {es : List Expr} {k : Nat} {is : List Nat} {fs : List TG} {pos : Pos} (hc : X.calm = true) (h : PGsD X Z N is es fs) (hl : fs.length = es.length)
    (hn : (assignEach es X.env).length = es.length := by rfl) (hst : (assignEach es X.env).findIdx? (·.1) = none := by rfl) : PGD X Z N is (.Tuple es k pos) (tgT fs) :=
  pg_imp (pg_tup hc h hn hst) fun v σ H Q ⟨G, ca, env, c, d, env', r, w, e, k⟩ => by
    cases d with
    | tup ds =>
      cases w with
      | tup hs w l => exact ⟨_, _, rfl, sqT_mono r.r0.le hs, by rw [w.length, tgAll_len e, hl], G, ca, env, c, ds, env', r, w, e, k⟩
    | _ => cases e
/-! ### comprehensions -/
theorem Stp.mod {G1 H1 G H : Hp} {ca1 ca : Option Addr} {D : Addr} {o : HO} (s : Stp G1 ca1 H1 G ca H) (hn : NoO H1 D) : Stp G1 ca1 H1 G ca (upd H D o) where
  le := s.le
  nw := s.nw
  dm := fun b h => by
    by_cases e : b = D
    · subst e; exact hn
    · exact s.dm b fun u hu => h u (by rw [upd_ne e]; exact hu)
  fr := fun b u h n k => by rw [upd_ne fun (e : b = D) => hn.no (by rw [← e]; exact h) n]; exact s.fr b u h n k
  cl := s.cl
  cn := s.cn
theorem RS0.mod {G H : Hp} {ca : Option Addr} {c : C} {D : Addr} {xs ys : List V} (r : RS0 Y G ca H c) (hd : H D = some (.lst xs)) (hg : G D = none) (hc : ca ≠ some D) : RS0 Y G ca (upd H D (.lst ys)) c where
  le := fun b u h => by rw [upd_ne (ne_of_none h hg)]; exact r.le b u h
  tab := fun p hp => by
    obtain ⟨ps, h1, h2, h3⟩ := r.tab p hp
    have ne : ∀ b u, H b = some u → (∀ zs, u ≠ .lst zs) → b ≠ D := fun b u e n z => by subst z; rw [hd] at e; cases e; exact n _ rfl
    refine ⟨ps, by rw [upd_ne (ne _ _ h1 fun zs z => by cases z)]; exact h1, h2, fun pos cv hcv => ?_⟩
    obtain ⟨c', e1, e2⟩ := h3 pos cv hcv
    exact ⟨c', e1, by rw [upd_ne (ne _ _ e2 fun zs z => by unfold LamX.CodeO at z; cases z)]; exact e2⟩
  cup := fun a h => by
    obtain ⟨h1, h2⟩ := r.cup a h
    have : a ≠ D := fun e => hc (by rw [← e]; exact h)
    exact ⟨by rw [upd_ne this]; exact h1, h2⟩
  nt := r.nt
abbrev W0 : WX := fun _ _ _ _ => False
theorem bad0 {σ : L2.St} {env : DL.Env} {x : Ex} {c : C} {G H : Hp} {ca : Option Addr} {α : Type} {m : R α} {P : α → C → Prop} (h : m.calm.post P (fun x c' => Bad Y N W σ env x c' G ca H)) : m.post P (fun _ _ => False) := by
  cases m <;> exact h
theorem post_bind {α β : Type} {m : DL.R α} {k : α → C → DL.R β} {P : β → C → Prop} {B : Ex → C → Prop} : (m.bind k).post P B ↔ m.post (fun a c => (k a c).post P B) B := by
  cases m <;> exact Iff.rfl
theorem post_imp {α : Type} {m : DL.R α} {P P' : α → C → Prop} {B B' : Ex → C → Prop} (h : m.post P B) (i : ∀ a c, P a c → P' a c) (j : ∀ x c, B x c → B' x c) : m.post P' B' := by
  cases m with
  | ok a c => exact i _ _ h
  | er x c => exact j _ _ h
  | st => exact h
/-- a block's turn: the list at A grows -/
theorem tlc {J : It} {items : List D} {tg : TG} {t : DT} {e : DE} {vs : List Nat} {is : List Nat} {σ : L2.St} {env : DL.Env} {G1 H1 : Hp} {ca1 : Option Addr} {c1 : C} {Q : Hp → Prop} {A : Addr} {FQ : List D → C → Prop}
    (r1 : RS Y N G1 ca1 σ H1 env c1) (hit : ItD Y false J items G1 ca1 H1) (hA : H1 A = none) (hs : ∀ i ∈ is, i ∈ vs)
    (hQ : ∀ (ds : List D) (c' : C) (G' : Hp) (ca' : Option Addr) (H' : Hp) (us : List V), FQ ds c' → Stp G1 ca1 H1 G' ca' H' → RS0 Y G' ca' H' c' → H' A = some (.lst us) → G' A = none → ca' ≠ some A → Wts Y G' ca' us ds → ds.length ≤ sizeL → Q H')
    (h : (dLoop tg t e (wipeE env vs) items c1).post FQ (fun _ _ => False)) :
    ∃ Wi : Nat → Nat → Hp → Prop, (∃ m, Wi 0 m (upd H1 A (.lst []))) ∧ ∀ i m H, Wi i m H →
      (J.stop i H ∧ Q H) ∨ (J.go i H ∧ ∃ Nx : Hp → Prop, (∀ H', Nx H' → ∃ m', m' < m ∧ Wi (i + 1) m' H') ∧ ∀ x H', J.yld i H x H' → gD Y N is tg x (L2.wipe σ vs) H' fun σ2 H2 => L2.wipe σ2 vs = L2.wipe σ vs ∧ tDT Y N W0 t σ2 H2 fun b H3 =>
        if b = true then tD Y N W0 e σ2 H3 fun y H4 => ∃ acc, H4 A = some (.lst acc) ∧ acc.length < sizeLine ∧ Nx (upd H4 A (.lst (acc ++ [y]))) else Nx H3) := by
  refine ⟨fun i m H => m = items.length - i ∧ i ≤ items.length ∧ ∃ G ca c acc dacc, Stp G1 ca1 H1 G ca H ∧ RS0 Y G ca H c ∧ H A = some (.lst acc) ∧ Wts Y G ca acc dacc ∧ G A = none ∧ ca ≠ some A ∧ dacc.length ≤ i ∧
    (dLoop tg t e (wipeE env vs) (items.drop i) c).post (fun ds c' => FQ (dacc ++ ds) c') (fun _ _ => False),
    ⟨items.length, by simp, Nat.zero_le _, G1, ca1, c1, [], [], .new hA, r1.r0.new hA, upd_same, .nil, r1.r0.free hA, r1.r0.ncup hA, Nat.le_refl _, by simpa using h⟩, ?_⟩
  rintro i m H ⟨rfl, hi, G, ca, c, acc, dacc, st, r0, hAH, wa, gA, nA, hl, hp⟩
  have rw_ := (r1.wipe vs).step st r0
  obtain ⟨h1, h2⟩ := hit.2 i G ca H c st r0
  by_cases hlt : i < items.length
  · have e1 : items.drop i = items[i] :: items.drop (i + 1) := List.drop_eq_getElem_cons hlt
    obtain ⟨hgo, hy⟩ := h1 items[i] (List.getElem?_eq_getElem hlt)
    rw [e1] at hp
    simp only [dLoop] at hp
    refine .inr ⟨hgo, _, fun H' hn => ⟨items.length - (i + 1), by omega, hn⟩, fun x H' hyl => ?_⟩
    obtain ⟨G', sy, ry, wx⟩ := hy x H' hyl
    cases e2 : tg items[i] (wipeE env vs) with
    | none => rw [e2] at hp; exact hp.elim
    | some env2 =>
      rw [e2] at hp
      dsimp only at hp
      refine ⟨G', ca, wipeE env vs, c, items[i], env2, rw_.step sy ry, wx, e2, fun σ2 r2 o2 => ⟨(o2.wipe hs).trans (wipe_wipe σ vs), G', ca, env2, c, r2, ?_⟩⟩
      cases e3 : t env2 c with
      | st => rw [e3] at hp; exact hp
      | er x c1 => rw [e3] at hp; exact hp.elim
      | ok k c2 =>
        rw [e3] at hp
        simp only [DL.R.bind] at hp
        intro G2 ca2 H2 s2 r2'
        have s12 := sy.trans s2
        have keep : ∀ {G3 : Hp} {ca3 : Option Addr} {H3 : Hp}, Stp G ca H G3 ca3 H3 → H3 A = some (.lst acc) ∧ G3 A = none ∧ ca3 ≠ some A := fun {G3 ca3 H3} s => by
          refine ⟨s.fr A _ hAH notbl nA, ?_, fun z => ?_⟩
          · cases q : G3 A with
            | none => rfl
            | some o =>
              rcases s.nw A o q with z | z
              · rw [gA] at z; cases z
              · exact (z.no hAH notbl).elim
          · rcases s.cn A z with z | z
            · exact nA z
            · exact z.no hAH notbl
        cases k with
        | false =>
          rw [if_neg Bool.false_ne_true] at hp
          refine iteF ?_
          obtain ⟨q1, q2, q3⟩ := keep s12
          exact ⟨rfl, hlt, G2, ca2, c2, acc, dacc, st.trans s12, r2'.r0, q1, wa.mono s12.le s12.cl, q2, q3, Nat.le_succ_of_le hl, hp⟩
        | true =>
          rw [if_pos rfl] at hp
          refine iteT ⟨G2, ca2, env2, c2, r2', ?_⟩
          cases e4 : e env2 c2 with
          | st => rw [e4] at hp; exact hp
          | er x c1 => rw [e4] at hp; exact hp.elim
          | ok rv c3 =>
            rw [e4] at hp
            cases rv with
            | ow j ys => exact hp.elim
            | pl dd =>
              dsimp only at hp
              intro G3 ca3 H3 v s3 r3 w3
              have s13 := s12.trans s3
              obtain ⟨q1, q2, q3⟩ := keep s13
              refine ⟨acc, q1, ?_, rfl, hlt, G3, ca3, c3, acc ++ [v], dacc ++ [dd], (st.trans s13).mod (.of hA), r3.r0.mod q1 q2 q3, upd_same, (wa.mono s13.le s13.cl).append (.cons w3 .nil), q2, q3, ?_, ?_⟩
              · rw [wa.length]
                exact Nat.lt_of_le_of_lt hl (Nat.lt_of_lt_of_le hlt hit.1)
              · rw [List.length_append, List.length_singleton]
                omega
              · refine post_imp (post_bind.mp hp) (fun ds c' q => ?_) fun _ _ q => q
                rw [List.append_assoc]
                exact q
  · have e1 : i = items.length := by omega
    refine .inl ⟨h2 (by omega), ?_⟩
    rw [e1, List.drop_length] at hp
    simp only [dLoop] at hp
    have hp : FQ (dacc ++ []) c := hp
    rw [List.append_nil] at hp
    exact hQ dacc c G ca H acc hp st r0 hAH gA nA wa (Nat.le_trans hl (by rw [e1]; exact hit.1))
theorem pdo_lc {elt tg iter : Expr} {ifs : List Expr} {scope : Scope} {own : List (Str × Nat)} {pos : Pos} {it : DI} {g : TG} {t : DT} {e : DE} {is : List Nat} (hc : X.calm = true) (hN : X.N.Nodup) (hi : PDI X Z N W false tg iter it) (ok : BlkOk X.N X.env.scope scope own)
    (hg : ∀ (s : Shared) (H : Hp) (C : Addr) (cl : List (Str × Addr)) (fp : List Addr), PGD (X.blk s H scope (compEnvC scope cl C X.env) fp) Z N is tg g)
    (ht : ∀ (s : Shared) (H : Hp) (C : Addr) (cl : List (Str × Addr)) (fp : List Addr), PTs (X.blk s H scope (compEnvC scope cl C X.env) fp) ifs (tDT (yOf X Z) N W0 t))
    (he : ∀ (s : Shared) (H : Hp) (C : Addr) (cl : List (Str × Addr)) (fp : List Addr), PD (X.blk s H scope (compEnvC scope cl C X.env) fp) Z N W0 elt e)
    (hsb : ∀ i ∈ is, i ∈ own.map (·.2)) (hs : ∀ x, foldedSetIterable iter X.env x = pure x := by intro _; rfl) :
    PDO X Z N W (.ListComp elt [⟨tg, iter, ifs, 0⟩] scope pos) (dComp it g t e (own.map (·.2))) := by
  refine pe_imp (pe_lc (g := gD (yOf X Z) N is g) (te := tD (yOf X Z) N W0 e) hc hN hi ok hg ht he hs) fun σ H Q h => ?_
  obtain ⟨G, ca, env, c, rs, h⟩ := h
  refine ⟨G, ca, env, c, rs, ?_⟩
  simp only [dComp] at h
  cases e1 : it env c with
  | st => rw [e1] at h; exact h
  | er x c1 => rw [e1] at h; exact h
  | ok items c1 =>
    rw [e1] at h
    simp only [DL.R.bind] at h
    intro G1 ca1 H1 J s1 r1 hit A hA
    refine tlc (Q := fun H' => Q (.ref A) H') (FQ := fun ds c' => ∀ G' ca' H' a vs, Stp G ca H G' ca' H' → RS (yOf X Z) N G' ca' σ H' env c' → NoO H a → H' a = some (.lst vs) → G' a = none → ca' ≠ some a → Wts (yOf X Z) G' ca' vs ds → ds.length ≤ sizeL → Q (.ref a) H') r1 hit hA hsb (fun ds c' G' ca' H' us q s2 r2 hA' gA nA w l => ?_) ?_
    · exact q G' ca' H' A us (s1.trans s2) (r1.step s2 r2) (s1.dm A (.of hA)) hA' gA nA w l
    · cases e2 : dLoop g t e (wipeE env (own.map (·.2))) items c1 with
      | st => rw [e2] at h; exact h
      | er x c2 => rw [e2] at h; exact h
      | ok ds c2 =>
        rw [e2] at h
        obtain ⟨ds', e3, h⟩ := h
        cases e3
        exact h
theorem pts_yes {X' : Cx} {Y : Yp} : PTs X' [] (tDT Y N W0 DL.tYes) := ⟨fun pins s σ H Q I ⟨G, ca, env, c, rs, h⟩ => pts_nil.run pins s σ H Q I (h _ _ _ .refl rs)⟩

/-! ### statements -/
/-- what is known never changes -/
def Gr (G0 : Hp) (ca0 : Option Addr) (G : Hp) (ca : Option Addr) : Prop := Same G0 G ∧ ∀ a, ca0 = some a → ca = some a
theorem Gr.refl {G : Hp} {ca : Option Addr} : Gr G ca G ca := ⟨fun _ _ h => h, fun _ h => h⟩
theorem Gr.trans {G G' G'' : Hp} {ca ca' ca'' : Option Addr} (a : Gr G ca G' ca') (b : Gr G' ca' G'' ca'') : Gr G ca G'' ca'' := ⟨a.1.trans b.1, fun x h => b.2 x (a.2 x h)⟩
theorem Stp.gr {G H G' H' : Hp} {ca ca' : Option Addr} (s : Stp G ca H G' ca' H') : Gr G ca G' ca' := ⟨s.le, s.cl⟩
/-- behind a statement -/
def Fin (Y : Yp) (N : En) (W : WX) (D : Ends) (G0 : Hp) (ca0 : Option Addr) : F → Prop
  | .nx env c => ∀ G ca σ H, RS Y N G ca σ H env c → Gr G0 ca0 G ca → D.nx σ H
  | .rt d c => ∀ G ca H v, Stp N.G N.ca N.H G ca H → RS0 Y G ca H c → Wt Y G ca v d → D.rt v H
  | .bk env c => ∀ G ca σ H, RS Y N G ca σ H env c → Gr G0 ca0 G ca → D.bk σ H
  | .ct env c => ∀ G ca σ H, RS Y N G ca σ H env c → Gr G0 ca0 G ca → D.ct σ H
  | .er x env c => ∀ cls dd G ca σ H, IsX Y x cls dd H → RS Y N G ca σ H env c → W cls dd σ H
  | .st => False
theorem Fin.up {D : Ends} {G G' : Hp} {ca ca' : Option Addr} {f : F} (h : Fin Y N W D G ca f) (g : Gr G ca G' ca') : Fin Y N W D G' ca' f := by
  cases f with
  | nx env c => exact fun G2 ca2 σ H r q => h G2 ca2 σ H r (g.trans q)
  | bk env c => exact fun G2 ca2 σ H r q => h G2 ca2 σ H r (g.trans q)
  | ct env c => exact fun G2 ca2 σ H r q => h G2 ca2 σ H r (g.trans q)
  | _ => exact h
def tS (Y : Yp) (N : En) (W : WX) (f : DS) : TS := fun D σ H => ∃ G ca env c, RS Y N G ca σ H env c ∧ Fin Y N W D G ca (f env c)
abbrev PSD (X : Cx) (Z : Zp) (N : En) (W : WX) (s : Stmt) (f : DS) : Prop := PS X s (tS (yOf X Z) N W f)
abbrev PSsD (X : Cx) (Z : Zp) (N : En) (W : WX) (s : List Stmt) (f : DS) : Prop := PSs X s (tS (yOf X Z) N W f)
/-- an expression ahead of what follows -/
theorem tds {D : Ends} {σ : L2.St} {H : Hp} {f : DE} {k : DL.Env → RV → C → F} {Q : VK} (h : tS Y N W (fun env c => F.of (f env c) env (k env)) D σ H)
    (hq : ∀ rv c G ca H v env, RS Y N G ca σ H env c → WtR Y G ca σ env v rv → Fin Y N W D G ca (k env rv c) → Q v H) : tD Y N W f σ H Q := by
  obtain ⟨G, ca, env, c, rs, h⟩ := h
  refine ⟨G, ca, env, c, rs, ?_⟩
  dsimp only at h
  cases e : f env c with
  | st => rw [e] at h; exact h
  | er x c1 =>
    rw [e] at h
    exact fun cls dd G' ca' H' h1 h2 h3 => h cls dd G' ca' σ H' h1 h3
  | ok rv c1 =>
    rw [e] at h
    exact fun G' ca' H' v s r w => hq rv c1 G' ca' H' v env r w (h.up s.gr)
/-- a list of one's own, known to be changed no more -/
theorem RS.frz {G H : Hp} {ca : Option Addr} {σ : L2.St} {env : DL.Env} {c : C} (r : RS Y N G ca σ H env c) {i : Nat} {xs : List D} (e : env[i]? = some (.own xs)) :
    ∃ G' v, RS Y N G' ca σ H (env.set i (.val (.lst xs))) c ∧ σ[i]? = some (some v) ∧ Wt Y G' ca v (.lst xs) ∧ Gr G ca G' ca := by
  obtain ⟨a, vs, h1, h2, h3, h4, h5, h6, h7⟩ := r.own i xs e
  have sm : Same G (upd G a (.lst vs)) := same_upd h4
  have w : Wt Y (upd G a (.lst vs)) ca (.ref a) (.lst xs) := .lst upd_same (h3.mono sm fun _ h => h) h7
  have hl : i < env.length := (List.getElem?_eq_some_iff.mp e).1
  refine ⟨upd G a (.lst vs), .ref a, ⟨r.r0.frz h2 h4 h5, ⟨r.st.le.trans sm, fun b o h => ?_, r.st.dm, r.st.fr, r.st.cl, r.st.cn⟩, by rw [List.length_set]; exact r.len, fun j d h => ?_, fun j ys h => ?_, fun j k ys zs b q1 q2 q3 q4 => ?_⟩, h1, w, sm, fun _ h => h⟩
  · by_cases z : b = a
    · subst z; exact .inr h6
    · rw [upd_ne z] at h; exact r.st.nw b o h
  · by_cases hj : i = j
    · subst hj
      rw [List.getElem?_set_self hl] at h
      cases h
      exact ⟨_, h1, w⟩
    · rw [List.getElem?_set_ne hj] at h
      obtain ⟨v, q1, q2⟩ := r.val j d h
      exact ⟨v, q1, q2.mono sm fun _ h => h⟩
  · by_cases hj : i = j
    · subst hj
      rw [List.getElem?_set_self hl] at h
      cases h
    · rw [List.getElem?_set_ne hj] at h
      obtain ⟨b, us, q1, q2, q3, q4, q5, q6, q7⟩ := r.own j ys h
      refine ⟨b, us, q1, q2, q3.mono sm fun _ h => h, ?_, q5, q6, q7⟩
      rw [upd_ne fun z => hj (r.sep i j xs ys a e h h1 (by rw [← z]; exact q1))]
      exact q4
  · by_cases hj : i = j
    · subst hj
      rw [List.getElem?_set_self hl] at q1
      cases q1
    · by_cases hk : i = k
      · subst hk
        rw [List.getElem?_set_self hl] at q2
        cases q2
      · rw [List.getElem?_set_ne hj] at q1
        rw [List.getElem?_set_ne hk] at q2
        exact r.sep j k ys zs b q1 q2 q3 q4
theorem RS.frzS {G H : Hp} {ca : Option Addr} {σ : L2.St} {env : DL.Env} {c : C} (r : RS Y N G ca σ H env c) (i : Nat) : ∃ G', RS Y N G' ca σ H (DL.frzS env i) c ∧ Gr G ca G' ca := by
  unfold DL.frzS
  cases e : env[i]? with
  | none => exact ⟨G, r, .refl⟩
  | some s =>
    cases s with
    | own xs =>
      obtain ⟨G', v, r', _, _, g⟩ := r.frz e
      exact ⟨G', r', g⟩
    | _ => exact ⟨G, r, .refl⟩
theorem RS.frzE {H : Hp} {ca : Option Addr} {σ : L2.St} {env : DL.Env} {c : C} : ∀ (is : List Nat) {G : Hp}, RS Y N G ca σ H env c → ∃ G', RS Y N G' ca σ H (DL.frzE env is) c ∧ Gr G ca G' ca
  | [], G, r => ⟨G, r, .refl⟩
  | i :: is, G, r => by
    obtain ⟨G', r', g⟩ := RS.frzE is r
    obtain ⟨G'', r'', g'⟩ := r'.frzS i
    exact ⟨G'', r'', g.trans g'⟩
theorem psd_frz {st : Stmt} {f : DS} (is : List Nat) (h : PSD X Z N W st f) : PSD X Z N W st (sFrz is f) := ps_imp h fun D σ H ⟨G, ca, env, c, rs, q⟩ => by
  obtain ⟨G', r', g⟩ := RS.frzE is rs
  exact ⟨G', ca, _, c, r', q.up g⟩
theorem fin_set {D : Ends} {i : Nat} {σ : L2.St} {rv : RV} {c : C} {G H : Hp} {ca : Option Addr} {v : V} {env : DL.Env} (rs : RS Y N G ca σ H env c) (w : WtR Y G ca σ env v rv)
    (h : Fin Y N W D G ca (kSet i env rv c)) : D.nx (σ.set i (some v)) H := by
  cases rv with
  | pl d => exact h G ca _ H (rs.set w) .refl
  | ow j xs =>
    obtain ⟨w1, w2⟩ := w
    obtain ⟨G', u, r', e1, w', g⟩ := rs.frz w1
    rw [w2] at e1
    cases e1
    simp only [kSet, DL.frzS, w1] at h
    exact h G' ca _ H (r'.set w') g
theorem psd_set {i : Nat} {x : Str} {e : Expr} {f : DE} {pos pos' : Pos} (hN : X.N.Nodup) (hi : X.N[i]? = some x) (hx : Loc X.env.scope x) (he : PD X Z N W e f) (hs : swapsWith e (some (.Name x pos')) pos.line X.env = pure false := by rfl)
    (hf : X.fn x = true ∨ X.env.scope.names.lookup x = some .local := by first | exact .inl rfl | exact .inr rfl | assumption) : PSD X Z N W (.Assign [.Name x pos'] e pos) (sSet i f) :=
  ps_imp (ps_set hN hi hx he hs hf) fun D σ H h => tds h fun rv c G ca H v env rs w q => fin_set rs w q
/-- a slot owns a new list -/
theorem RS.setOwn {G H : Hp} {ca : Option Addr} {σ : L2.St} {env : DL.Env} {c : C} (r : RS Y N G ca σ H env c) {i : Nat} {a : Addr} {vs : List V} {ds : List D} (ha : H a = some (.lst vs)) (w : Wts Y G ca vs ds) (gA : G a = none) (nA : ca ≠ some a) (hN : NoO N.H a)
    (hl : ds.length ≤ sizeL) (hne : ∀ (j : Nat) (xs : List D), env[j]? = some (.own xs) → σ[j]? ≠ some (some (.ref a))) : RS Y N G ca (σ.set i (some (.ref a))) H (env.set i (.own ds)) c where
  r0 := r.r0
  st := r.st
  len := by rw [List.length_set, List.length_set]; exact r.len
  val := fun j e h => by
    by_cases hj : i = j
    · subst hj
      rw [List.getElem?_set] at h
      by_cases hl : i < env.length
      · rw [if_pos rfl, if_pos hl] at h
        cases h
      · rw [if_pos rfl, if_neg hl] at h
        cases h
    · rw [List.getElem?_set_ne hj] at h
      obtain ⟨u, h1, h2⟩ := r.val j e h
      exact ⟨u, by rw [List.getElem?_set_ne hj]; exact h1, h2⟩
  own := fun j xs h => by
    by_cases hj : i = j
    · subst hj
      rw [List.getElem?_set] at h
      by_cases hlt : i < env.length
      · rw [if_pos rfl, if_pos hlt] at h
        cases h
        exact ⟨a, vs, List.getElem?_set_self (by rw [← r.len]; exact hlt), ha, w, gA, nA, hN, hl⟩
      · rw [if_pos rfl, if_neg hlt] at h
        cases h
    · rw [List.getElem?_set_ne hj] at h
      obtain ⟨b, us, h1, h2⟩ := r.own j xs h
      exact ⟨b, us, by rw [List.getElem?_set_ne hj]; exact h1, h2⟩
  sep := fun j k xs ys b h1 h2 h3 h4 => by
    by_cases hj : i = j
    · subst hj
      by_cases hk : i = k
      · exact hk
      · exfalso
        rw [List.getElem?_set_ne hk] at h2 h4
        rw [List.getElem?_set] at h1 h3
        by_cases hlt : i < env.length
        · rw [if_pos rfl, if_pos (by rw [← r.len]; exact hlt)] at h3
          cases h3
          exact hne k ys h2 h4
        · rw [if_pos rfl, if_neg hlt] at h1
          cases h1
    · rw [List.getElem?_set_ne hj] at h1 h3
      by_cases hk : i = k
      · subst hk
        exfalso
        rw [List.getElem?_set] at h2 h4
        by_cases hlt : i < env.length
        · rw [if_pos rfl, if_pos (by rw [← r.len]; exact hlt)] at h4
          cases h4
          exact hne j xs h1 h3
        · rw [if_pos rfl, if_neg hlt] at h2
          cases h2
      · rw [List.getElem?_set_ne hk] at h2 h4
        exact r.sep j k xs ys b h1 h2 h3 h4
theorem RS.notOwn {G H : Hp} {ca : Option Addr} {σ : L2.St} {env : DL.Env} {c : C} (r : RS Y N G ca σ H env c) {a : Addr} (ha : NoO H a) (j : Nat) (xs : List D) (h : env[j]? = some (.own xs)) : σ[j]? ≠ some (some (.ref a)) := fun z => by
  obtain ⟨b, us, h1, h2, _⟩ := r.own j xs h
  rw [z] at h1
  cases h1
  exact ha.no h2 notbl
theorem own_asg {D : Ends} {σ : L2.St} {H : Hp} {i : Nat} {f : DE} (h : tS Y N W (sOwn i f) D σ H) : tDO Y N W f σ H (fun x H1 => gName i x σ H1 D.nx) := by
  obtain ⟨G, ca, env, c, rs, h⟩ := h
  refine ⟨G, ca, env, c, rs, ?_⟩
  simp only [sOwn] at h
  cases e : f env c with
  | st => rw [e] at h; exact h
  | er x c1 =>
    rw [e] at h
    exact fun cls dd G' ca' H' h1 h2 h3 => h cls dd G' ca' σ H' h1 h3
  | ok rv c1 =>
    rw [e] at h
    cases rv with
    | ow j xs => exact h.elim
    | pl d =>
      cases d with
      | lst ds =>
        refine ⟨ds, rfl, fun G' ca' H' a vs s r hn ha gA nA w l => ?_⟩
        exact h G' ca' _ H' (r.setOwn ha w gA nA (rs.st.dm a hn) l (rs.notOwn hn)) s.gr
      | _ => exact h.elim
theorem psd_own {i : Nat} {x : Str} {e : Expr} {f : DE} {pos pos' : Pos} (hN : X.N.Nodup) (hi : X.N[i]? = some x) (hx : Loc X.env.scope x) (he : PDO X Z N W e f) (hs : swapsWith e (some (.Name x pos')) pos.line X.env = pure false := by rfl)
    (hf : X.fn x = true ∨ X.env.scope.names.lookup x = some .local := by first | exact .inl rfl | exact .inr rfl | assumption) : PSD X Z N W (.Assign [.Name x pos'] e pos) (sOwn i f) :=
  ps_imp (ps_set hN hi hx he hs hf) fun D σ H h => own_asg h
/-- e, as a new list that need not be owned -/
theorem td_tdo {f : DE} {σ : L2.St} {H : Hp} {Q : VK} (hf : ∀ env c c' rv, f env c = .ok rv c' → ∃ ds, rv = .pl (.lst ds)) (h : tD Y N W f σ H Q) : tDO Y N W f σ H Q := by
  obtain ⟨G, ca, env, c, r, h⟩ := h
  refine ⟨G, ca, env, c, r, ?_⟩
  cases e : f env c with
  | st => rw [e] at h; exact h.elim
  | er x c' => rw [e] at h; exact h
  | ok rv c' =>
    rw [e] at h
    obtain ⟨ds, rfl⟩ := hf _ _ _ _ e
    refine ⟨ds, rfl, fun G' ca' H' a vs s r' hn ha ga na w hl => ?_⟩
    have s2 : Stp G ca H (upd G' a (.lst vs)) ca' H' := ⟨s.le.trans (same_upd ga), fun b o h => by
      by_cases e : b = a
      · subst e; exact .inr hn
      · rw [upd_ne e] at h; exact s.nw b o h, s.dm, s.fr, s.cl, s.cn⟩
    exact h _ _ _ (.ref a) s2 (r.step s2 (r'.r0.frz ha ga na)) (Wt.lst upd_same (w.mono (same_upd ga) fun _ h => h) hl)
theorem dComp_lst {it : DI} {g : TG} {t : DT} {e : DE} {vs : List Nat} (env : DL.Env) (c c' : C) (rv : RV) (h : dComp it g t e vs env c = .ok rv c') : ∃ ds, rv = .pl (.lst ds) := by
  simp only [dComp] at h
  cases e1 : it env c with
  | st => rw [e1] at h; cases h
  | er x c1 => rw [e1] at h; cases h
  | ok items c1 =>
    rw [e1] at h
    simp only [DL.R.bind] at h
    cases e2 : dLoop g t e (wipeE env vs) items c1 with
    | st => rw [e2] at h; cases h
    | er x c2 => rw [e2] at h; cases h
    | ok ds c2 => rw [e2] at h; cases h; exact ⟨ds, rfl⟩
theorem opt1_lst {o : Option D} {c c' : C} {rv : RV} (ho : ∀ d, o = some d → ∃ ds, d = .lst ds) (h : opt1 o c = .ok rv c') : ∃ ds, rv = .pl (.lst ds) := by
  cases o with
  | none => cases h
  | some d =>
    obtain ⟨ds, rfl⟩ := ho d rfl
    cases h
    exact ⟨ds, rfl⟩
theorem dLst_lst {es : List DE} (env : DL.Env) (c c' : C) (rv : RV) (h : dLst es env c = .ok rv c') : ∃ ds, rv = .pl (.lst ds) := by
  simp only [dLst] at h
  cases e1 : dArgs es env c with
  | st => rw [e1] at h; cases h
  | er x c1 => rw [e1] at h; cases h
  | ok xs c1 =>
    rw [e1] at h
    simp only [DL.R.bind] at h
    by_cases e2 : xs.all RV.plain = true
    · rw [if_pos e2] at h; cases h; exact ⟨_, rfl⟩
    · rw [if_neg e2] at h; cases h
theorem dO2_lst {g : D → D → Option D} {a b : DE} (hg : ∀ x y d, g x y = some d → ∃ ds, d = .lst ds) (env : DL.Env) (c c' : C) (rv : RV) (h : dO2 g a b env c = .ok rv c') : ∃ ds, rv = .pl (.lst ds) := by
  simp only [dO2] at h
  cases e1 : a env c with
  | st => rw [e1] at h; cases h
  | er x c1 => rw [e1] at h; cases h
  | ok x c1 =>
    rw [e1] at h
    simp only [DL.R.bind] at h
    cases e2 : b env c1 with
    | st => rw [e2] at h; cases h
    | er x c1 => rw [e2] at h; cases h
    | ok y c2 => rw [e2] at h; exact opt1_lst (fun d q => hg _ _ _ q) h
theorem dB_lst {g : List D → Option D} {es : List DE} (hg : ∀ x d, g x = some d → ∃ ds, d = .lst ds) (env : DL.Env) (c c' : C) (rv : RV) (h : dB g es env c = .ok rv c') : ∃ ds, rv = .pl (.lst ds) := by
  simp only [dB] at h
  cases e1 : dArgs es env c with
  | st => rw [e1] at h; cases h
  | er x c1 => rw [e1] at h; cases h
  | ok xs c1 =>
    rw [e1] at h
    exact opt1_lst (fun d q => hg _ _ q) h
theorem dSl_lst {g : D → Option Int → Option Int → Option D} {e : DE} {lo hi : Option DE} (hg : ∀ x a b d, g x a b = some d → ∃ ds, d = .lst ds) (env : DL.Env) (c c' : C) (rv : RV) (h : dSl g e lo hi env c = .ok rv c') : ∃ ds, rv = .pl (.lst ds) := by
  simp only [dSl] at h
  cases e1 : e env c with
  | st => rw [e1] at h; cases h
  | er x c1 => rw [e1] at h; cases h
  | ok x c1 =>
    rw [e1] at h
    simp only [DL.R.bind] at h
    cases e2 : dPart lo env c1 with
    | st => rw [e2] at h; cases h
    | er x c1 => rw [e2] at h; cases h
    | ok y c2 =>
      rw [e2] at h
      dsimp only at h
      cases e3 : dPart hi env c2 with
      | st => rw [e3] at h; cases h
      | er x c1 => rw [e3] at h; cases h
      | ok y c2 => rw [e3] at h; exact opt1_lst (fun d q => hg _ _ _ _ q) h
theorem tlc_of {J0 : True} {it : DI} {g : TG} {t : DT} {e : DE} {vs is : List Nat} {σ : L2.St} {H : Hp} {Q : VK} (hsb : ∀ i ∈ is, i ∈ vs) (h : tDO Y N W (dComp it g t e vs) σ H Q) : tLc (tDI Y N W false it) (gD Y N is g) (tDT Y N W0 t) (tD Y N W0 e) vs σ H Q := by
  obtain ⟨G, ca, env, c, rs, h⟩ := h
  refine ⟨G, ca, env, c, rs, ?_⟩
  simp only [dComp] at h
  cases e1 : it env c with
  | st => rw [e1] at h; exact h
  | er x c1 => rw [e1] at h; exact h
  | ok items c1 =>
    rw [e1] at h
    simp only [DL.R.bind] at h
    intro G1 ca1 H1 J s1 r1 hit A hA
    refine tlc (Q := fun H' => Q (.ref A) H') (FQ := fun ds c' => ∀ G' ca' H' a vs, Stp G ca H G' ca' H' → RS Y N G' ca' σ H' env c' → NoO H a → H' a = some (.lst vs) → G' a = none → ca' ≠ some a → Wts Y G' ca' vs ds → ds.length ≤ sizeL → Q (.ref a) H') r1 hit hA hsb (fun ds c' G' ca' H' us q s2 r2 hA' gA nA w l => ?_) ?_
    · exact q G' ca' H' A us (s1.trans s2) (r1.step s2 r2) (s1.dm A (.of hA)) hA' gA nA w l
    · cases e2 : dLoop g t e (wipeE env vs) items c1 with
      | st => rw [e2] at h; exact h
      | er x c2 => rw [e2] at h; exact h
      | ok ds c2 =>
        rw [e2] at h
        obtain ⟨ds', e3, h⟩ := h
        cases e3
        exact h
section
variable {i : Nat} {y : Str} {py : Pos} {elt tg iter : Expr} {ifs : List Expr} {scope : Scope} {own : List (Str × Nat)} {pos spos : Pos} {it : DI} {g : TG} {t : DT} {e : DE} {is : List Nat}
theorem psd_ownLc (hc : X.calm = true) (hN : X.N.Nodup) (hy : X.N[i]? = some y) (hyl : X.env.scope.names.lookup y = some .local)
    (hsw : swapsWith (.ListComp elt [⟨tg, iter, ifs, 0⟩] scope pos) (some (.Name y py)) spos.line X.env = pure true) (hi : PDI X Z N W false tg iter it) (ok : BlkOk X.N X.env.scope scope own)
    (hg : ∀ (s : Shared) (H : Hp) (C : Addr) (cl : List (Str × Addr)) (fp : List Addr), PGD (X.blk s H scope (compEnvC scope cl C X.env) fp) Z N is tg g)
    (ht : ∀ (s : Shared) (H : Hp) (C : Addr) (cl : List (Str × Addr)) (fp : List Addr), PTs (X.blk s H scope (compEnvC scope cl C X.env) fp) ifs (tDT (yOf X Z) N W0 t))
    (he : ∀ (s : Shared) (H : Hp) (C : Addr) (cl : List (Str × Addr)) (fp : List Addr), PD (X.blk s H scope (compEnvC scope cl C X.env) fp) Z N W0 elt e)
    (hsb : ∀ i ∈ is, i ∈ own.map (·.2)) (hs : ∀ x, foldedSetIterable iter X.env x = pure x := by intro _; rfl) :
    PSD X Z N W (.Assign [.Name y py] (.ListComp elt [⟨tg, iter, ifs, 0⟩] scope pos) spos) (sOwn i (dComp it g t e (own.map (·.2)))) :=
  ps_imp (ps_setLc (g := gD (yOf X Z) N is g) (te := tD (yOf X Z) N W0 e) hc hN hy hyl hsw hi ok hg ht he hs) fun D σ H h => tlc_of (J0 := trivial) hsb (own_asg h)
theorem psd_setLc (hc : X.calm = true) (hN : X.N.Nodup) (hy : X.N[i]? = some y) (hyl : X.env.scope.names.lookup y = some .local)
    (hsw : swapsWith (.ListComp elt [⟨tg, iter, ifs, 0⟩] scope pos) (some (.Name y py)) spos.line X.env = pure true) (hi : PDI X Z N W false tg iter it) (ok : BlkOk X.N X.env.scope scope own)
    (hg : ∀ (s : Shared) (H : Hp) (C : Addr) (cl : List (Str × Addr)) (fp : List Addr), PGD (X.blk s H scope (compEnvC scope cl C X.env) fp) Z N is tg g)
    (ht : ∀ (s : Shared) (H : Hp) (C : Addr) (cl : List (Str × Addr)) (fp : List Addr), PTs (X.blk s H scope (compEnvC scope cl C X.env) fp) ifs (tDT (yOf X Z) N W0 t))
    (he : ∀ (s : Shared) (H : Hp) (C : Addr) (cl : List (Str × Addr)) (fp : List Addr), PD (X.blk s H scope (compEnvC scope cl C X.env) fp) Z N W0 elt e)
    (hsb : ∀ i ∈ is, i ∈ own.map (·.2)) (hs : ∀ x, foldedSetIterable iter X.env x = pure x := by intro _; rfl) :
    PSD X Z N W (.Assign [.Name y py] (.ListComp elt [⟨tg, iter, ifs, 0⟩] scope pos) spos) (sSet i (dComp it g t e (own.map (·.2)))) :=
  ps_imp (ps_setLc (g := gD (yOf X Z) N is g) (te := tD (yOf X Z) N W0 e) hc hN hy hyl hsw hi ok hg ht he hs) fun D σ H h => tlc_of (J0 := trivial) hsb (td_tdo dComp_lst (tds h fun rv c G ca H v env rs w q => fin_set rs w q))
end
theorem psd_tgt {tg e : Expr} {f : DE} {g : TG} {is : List Nat} {pos : Pos} (he : PD X Z N W e f) (hg : PGD X Z N is tg g) (hs : swapsWithSole [tg] e pos.line X.env = pure false := by rfl) (hw : swappedStores [tg] e X.env = pure none := by rfl)
    (h1 : (assignEach [tg] X.env).map (·.2) = [assign tg X.env] := by rfl) : PSD X Z N W (.Assign [tg] e pos) (sTgt g f) :=
  ps_imp (ps_asg he hg hs hw h1) fun D σ H h => tds h fun rv c G ca H v env rs w q => by
    cases rv with
    | ow j xs => exact q.elim
    | pl d =>
      dsimp only at q
      cases e1 : g d env with
      | none => rw [e1] at q; exact q.elim
      | some env' =>
        rw [e1] at q
        exact ⟨G, ca, env, c, d, env', rs, w, e1, fun σ' r' _ => q G ca σ' H r' .refl⟩
theorem psd_expr {e : Expr} {f : DE} {pos : Pos} (he : PD X Z N W e f) (hs : swapsWith e none pos.line X.env = pure false := by rfl) : PSD X Z N W (.Expr e pos) (sExpr f) :=
  ps_imp (ps_expr he hs) fun D σ H h => tds h fun rv c G ca H v env rs w q => q G ca σ H rs .refl
theorem psd_ret {e : Expr} {f : DE} {pos : Pos} (he : PD X Z N W e f) : PSD X Z N W (.Return (some e) pos) (sRet f) :=
  ps_imp (ps_ret he) fun D σ H h => tds h fun rv c G ca H v env rs w q => by
    cases rv with
    | pl d => exact q G ca H v rs.st rs.r0 w
    | ow j xs =>
      obtain ⟨w1, w2⟩ := w
      obtain ⟨G', u, r', e1, w', _⟩ := rs.frz w1
      rw [w2] at e1
      cases e1
      exact q G' ca H _ r'.st r'.r0 w'
theorem psd_retN {pos : Pos} : PSD X Z N W (.Return none pos) sRetN := ps_imp ps_retN fun D σ H ⟨G, ca, env, c, rs, q⟩ => q G ca H .non rs.st rs.r0 .non
theorem psd_pass {pos : Pos} : PSD X Z N W (.Pass pos) sPass := ps_imp ps_pass fun D σ H ⟨G, ca, env, c, rs, q⟩ => q G ca σ H rs .refl
theorem psd_brk {pos : Pos} : PSD X Z N W (.Break pos) sBrk := ps_imp ps_break fun D σ H ⟨G, ca, env, c, rs, q⟩ => q G ca σ H rs .refl
theorem psd_cnt {pos : Pos} : PSD X Z N W (.Continue pos) sCnt := ps_imp ps_continue fun D σ H ⟨G, ca, env, c, rs, q⟩ => q G ca σ H rs .refl
theorem pssd_nil : PSsD X Z N W [] sNil := pss_imp pss_nil fun D σ H ⟨G, ca, env, c, rs, q⟩ => q G ca σ H rs .refl
theorem pssd_cons {s : Stmt} {ss : List Stmt} {f g : DS} (h1 : PSD X Z N W s f) (h2 : PSsD X Z N W ss g) : PSsD X Z N W (s :: ss) (sSeq f g) :=
  pss_imp (pss_cons h1 h2) fun D σ H ⟨G, ca, env, c, rs, q⟩ => by
    refine ⟨G, ca, env, c, rs, ?_⟩
    simp only [sSeq] at q
    cases e : f env c with
    | nx env1 c1 =>
      rw [e] at q
      exact fun G' ca' σ' H' r' g => ⟨G', ca', env1, c1, r', q.up g⟩
    | _ => rw [e] at q; exact q
theorem pssd_one {s : Stmt} {f : DS} (h1 : PSD X Z N W s f) : PSsD X Z N W [s] f := pss_one h1
theorem psd_if {t : Expr} {a b : List Stmt} {ft : DT} {f g : DS} {pos : Pos} (ht : PDT X Z N W t ft) (ha : PSsD X Z N W a f) (hb : PSsD X Z N W b g) : PSD X Z N W (.If t a b pos) (sIf ft f g) :=
  ps_imp (ps_if ht ha hb) fun D σ H ⟨G, ca, env, c, rs, q⟩ => by
    refine ⟨G, ca, env, c, rs, ?_⟩
    simp only [sIf] at q
    cases e : ft env c with
    | st => rw [e] at q; exact q
    | er x c1 =>
      rw [e] at q
      exact fun cls dd G' ca' H' h1 h2 h3 => q cls dd G' ca' σ H' h1 h3
    | ok k c1 =>
      rw [e] at q
      intro G1 ca1 H1 s1 r1
      cases k with
      | true => exact iteT ⟨G1, ca1, env, c1, r1, q.up s1.gr⟩
      | false => exact iteF ⟨G1, ca1, env, c1, r1, q.up s1.gr⟩


/-! ### loops -/
/-- the ends of a turn -/
abbrev endsT (D : Ends) (Nx : L2.St → Hp → Prop) : Ends := { D with nx := Nx, ct := Nx, bk := D.nx }
theorem psd_for {tg iter : Expr} {body : List Stmt} {it : DI} {g : TG} {f : DS} {is : List Nat} {pos : Pos} (hp : PassesOwn (model X.prog X.w) X.A X.env X.xe) (hc : X.calm = true) (hi : PDI X Z N W true tg iter it) (hg : PGD X Z N is tg g) (hb : PSsD X Z N W body f)
    (hs : ∀ x, foldedSetIterable iter X.env x = pure x := by intro _; rfl) : PSD X Z N W (.For tg iter body [] pos) (sFor it g f) :=
  ps_imp (ps_for hp hc hi hg hb hs) fun D σ H ⟨G, ca, env, c, rs, q⟩ => by
    refine ⟨G, ca, env, c, rs, ?_⟩
    simp only [sFor] at q
    cases e : it env c with
    | st => rw [e] at q; exact q
    | er x c1 =>
      rw [e] at q
      exact fun cls dd G' ca' H' h1 h2 h3 => q cls dd G' ca' σ H' h1 h3
    | ok items c1 =>
      rw [e] at q
      intro G1 ca1 H1 J s1 r1 hit
      have q : Fin (yOf X Z) N W D G1 ca1 (sForL g f items env c1) := Fin.up q s1.gr
      refine ⟨fun i m σ H => m = items.length - i ∧ i ≤ items.length ∧ ∃ G ca env c, RS (yOf X Z) N G ca σ H env c ∧ Gr G1 ca1 G ca ∧ Fin (yOf X Z) N W D G ca (sForL g f (items.drop i) env c), ⟨items.length, by simp, Nat.zero_le _, G1, ca1, env, c1, r1, .refl, by simpa using q⟩, ?_⟩
      rintro i m σ H ⟨rfl, hi, G, ca, env, c, rs, gr, q⟩
      obtain ⟨h1, h2⟩ := hit.2 i G ca H c gr rs.r0
      by_cases hlt : i < items.length
      · obtain ⟨hgo, hy⟩ := h1 items[i] (List.getElem?_eq_getElem hlt)
        rw [List.drop_eq_getElem_cons hlt] at q
        simp only [sForL] at q
        refine .inr ⟨hgo, _, fun σ' H' hn => ⟨items.length - (i + 1), by omega, hn⟩, fun x H' hyl => ?_⟩
        obtain ⟨G', sy, ry, wx⟩ := hy x H' hyl
        cases e2 : g items[i] env with
        | none => rw [e2] at q; exact q.elim
        | some env2 =>
          rw [e2] at q
          dsimp only at q
          refine ⟨G', ca, env, c, items[i], env2, rs.step sy ry, wx, e2, fun σ2 r2 _ => ⟨G', ca, env2, c, r2, ?_⟩⟩
          have gr2 := gr.trans sy.gr
          have q : Fin (yOf X Z) N W D G' ca _ := Fin.up q sy.gr
          cases e3 : f env2 c with
          | nx env3 c3 =>
            rw [e3] at q
            exact fun G3 ca3 σ3 H3 r3 g3 => ⟨rfl, hlt, G3, ca3, env3, c3, r3, gr2.trans g3, Fin.up q g3⟩
          | ct env3 c3 =>
            rw [e3] at q
            exact fun G3 ca3 σ3 H3 r3 g3 => ⟨rfl, hlt, G3, ca3, env3, c3, r3, gr2.trans g3, Fin.up q g3⟩
          | bk env3 c3 => rw [e3] at q; exact q
          | rt d c3 => rw [e3] at q; exact q
          | er x env3 c3 => rw [e3] at q; exact q
          | st => rw [e3] at q; exact q
      · refine .inl ⟨h2 (by omega), ?_⟩
        have e1 : i = items.length := by omega
        rw [e1, List.drop_length] at q
        exact q G ca σ H rs .refl
theorem psd_while {t : Expr} {body : List Stmt} {ft : DT} {f : DS} {pos : Pos} {n : Nat} (hp : PassesOwn (model X.prog X.w) X.A X.env X.xe) (ht : PDT X Z N W t ft) (hb : PSsD X Z N W body f) : PSD X Z N W (.While t body [] pos) (sWhile n ft f) :=
  ps_imp (ps_while hp ht hb) fun D σ H ⟨G, ca, env, c, rs, q⟩ => by
    refine ⟨fun m σ H => ∃ G ca env c, RS (yOf X Z) N G ca σ H env c ∧ Fin (yOf X Z) N W D G ca (sWhL ft f m env c), ⟨n, G, ca, env, c, rs, q⟩, ?_⟩
    rintro m σ H ⟨G, ca, env, c, rs, q⟩
    refine ⟨G, ca, env, c, rs, ?_⟩
    cases m with
    | zero => exact q.elim
    | succ m =>
      simp only [sWhL] at q
      cases e : ft env c with
      | st => rw [e] at q; exact q
      | er x c1 =>
        rw [e] at q
        exact fun cls dd G' ca' H' h1 h2 h3 => q cls dd G' ca' σ H' h1 h3
      | ok k c1 =>
        rw [e] at q
        intro G1 ca1 H1 s1 r1
        have q : Fin (yOf X Z) N W D G1 ca1 _ := Fin.up q s1.gr
        cases k with
        | false => exact iteF (q G1 ca1 σ H1 r1 .refl)
        | true =>
          refine iteT ⟨_, fun σ' H' hn => ⟨m, Nat.lt_succ_self _, hn⟩, G1, ca1, env, c1, r1, ?_⟩
          simp only [F.of, if_true] at q
          cases e3 : f env c1 with
          | nx env3 c3 =>
            rw [e3] at q
            exact fun G3 ca3 σ3 H3 r3 g3 => ⟨G3, ca3, env3, c3, r3, Fin.up q g3⟩
          | ct env3 c3 =>
            rw [e3] at q
            exact fun G3 ca3 σ3 H3 r3 g3 => ⟨G3, ca3, env3, c3, r3, Fin.up q g3⟩
          | bk env3 c3 => rw [e3] at q; exact q
          | rt d c3 => rw [e3] at q; exact q
          | er x env3 c3 => rw [e3] at q; exact q
          | st => rw [e3] at q; exact q
/-! ### an error raised -/
/-- what the top tells of an error's class without an own __init__ -/
structure Xc (K : PySem.W.Frag) (mg : Str → Option Value) (x : Str) (C : Addr) : Prop where
  gm : mg x = some (.ref C)
  kp : PySem.W.keepIn K (.ref C) = true
  ex : PySem.W.excIn K C [.type "ValueError", .type "Exception", .type "BaseException", .type "object"] "ValueError.__new__" = true
  sb : PySem.W.subIn K (.ref C) (.type "BaseException") = some true
  ty : PySem.W.typeIn K (.ref C) = some (.type "type")
theorem psd_raise {x m : Str} {C : Addr} {j k : Nat} {p p2 p3 pos : Pos} (hc : X.calm = true) (tk : L2N.Takes X W) (E : Xc X.K X.mg x C) (hg : Gl X x) (hk : Z.xnm k = x) (hdb : (x == ("__debug__" : Str)) = false) :
    PSD X Z N W (.Raise (some (.Call (.Name x p) [.Constant (.str m) j p2] [] p3)) none pos) (sRaise k) :=
  ps_imp (L2N.ps_raise hc tk (L2N.pmk_own PySem.F.excBase_ValueError E.ex E.gm E.kp (raises_own E.sb E.ty) hg hdb)) fun D σ H ⟨G, ca, env, c, rs, q⟩ =>
    q (.ref C) none G ca σ H ⟨C, by show X.mg (Z.xnm k) = _; rw [hk]; exact E.gm, rfl, rfl⟩ rs
end
end DL

set_option Elab.async false
set_option linter.all false
set_option maxRecDepth 100000
set_option maxHeartbeats 4000000
set_option autoImplicit false
namespace DL
open PySem PySem.Spec PyProof.Rows L2
section
variable {X : Cx} {Z : Zp} {N : En} {W : WX} {Y : Yp}
/-! ### one's own lists changed -/
theorem RS.put {G H : Hp} {ca : Option Addr} {σ : L2.St} {env : DL.Env} {c : C} (r : RS Y N G ca σ H env c) {i : Nat} {a : Addr} {us vs : List V} {xs ds : List D} (e : env[i]? = some (.own xs)) (e2 : σ[i]? = some (some (.ref a))) (ha : H a = some (.lst us)) (w : Wts Y G ca vs ds) (hl : ds.length ≤ sizeL) :
    RS Y N G ca σ (upd H a (.lst vs)) (env.set i (.own ds)) c := by
  obtain ⟨b, us', h1, h2, h3, h4, h5, h6, h7⟩ := r.own i xs e
  rw [e2] at h1
  cases h1
  have hlt : i < env.length := (List.getElem?_eq_some_iff.mp e).1
  refine ⟨r.r0.mod h2 h4 h5, r.st.mod h6, by rw [List.length_set]; exact r.len, fun j d h => ?_, fun j ys h => ?_, fun j k ys zs b q1 q2 q3 q4 => ?_⟩
  · by_cases hj : i = j
    · subst hj
      rw [List.getElem?_set_self hlt] at h
      cases h
    · rw [List.getElem?_set_ne hj] at h
      exact r.val j d h
  · by_cases hj : i = j
    · subst hj
      rw [List.getElem?_set_self hlt] at h
      cases h
      exact ⟨a, vs, e2, upd_same, w, h4, h5, h6, hl⟩
    · rw [List.getElem?_set_ne hj] at h
      obtain ⟨b, us, q1, q2, q3⟩ := r.own j ys h
      refine ⟨b, us, q1, ?_, q3⟩
      rw [upd_ne fun z => hj (r.sep i j xs ys a e h e2 (by rw [← z]; exact q1))]
      exact q2
  · have back : ∀ (j : Nat) (ys : List D), (env.set i (.own ds))[j]? = some (.own ys) → ∃ zs, env[j]? = some (.own zs) := fun j ys h => by
      by_cases hj : i = j
      · subst hj; exact ⟨xs, e⟩
      · rw [List.getElem?_set_ne hj] at h; exact ⟨ys, h⟩
    obtain ⟨_, b1⟩ := back j ys q1
    obtain ⟨_, b2⟩ := back k zs q2
    exact r.sep j k _ _ b b1 b2 q3 q4
theorem psd_app {i : Nat} {x : Str} {e : Expr} {f : DE} {p apos cpos pos : Pos} (hN : X.N[i]? = some x) (hv : Vis X.env.scope x) (hd : (x == ("__debug__" : Str)) = false) (hcd : (x == ("__classdict__" : Str)) = false) (ha : PDA X Z N W [e] (dArgs [f]))
    (hbase : attributeBase (.Name x p) "append" X.env (eval (.Name x p) X.env) = eval (.Name x p) X.env := by rfl)
    (hfew : ((backTo cpos (starEach [e] X.env)).all (fun x => !x.1) && (backToKw cpos (keywordEach [] X.env)).all (fun x => x.1.isSome)
      && decide (([e]).length + ([] : List Keyword).length + (if ([] : List Keyword).isEmpty then 0 else 1) < 30)) = true := by rfl)
    (hline : (apos.endLine == cpos.line) = true := by rfl) (hs : starEach [e] X.env = (false, eval e X.env) :: starEach [] X.env := by rfl) (hplain : (backTo cpos (starEach [] X.env)).any (·.1) = false := by rfl)
    (hsw : swapsWith (.Call (.Attribute (.Name x p) "append" apos) [e] [] cpos) none pos.line X.env = pure false := by rfl) :
    PSD X Z N W (.Expr (.Call (.Attribute (.Name x p) "append" apos) [e] [] cpos) pos) (sApp i f) :=
  ps_imp (ps_expr (pe_bm PySem.F.plainAttrs_list PySem.F.slot_list_append PySem.F.type_list_append mt_append (pe_var hN hv hd hcd) ha hbase hfew hline hs hplain) hsw) fun D σ H ⟨G, ca, env, c, rs, q⟩ => by
    simp only [sApp] at q
    cases e1 : env[i]? with
    | none => rw [e1] at q; exact q.elim
    | some sl =>
      rw [e1] at q
      cases sl with
      | own xs =>
        dsimp only at q
        obtain ⟨a, us, e2, e3, _⟩ := rs.own i xs e1
        refine ⟨.ref a, e2, .inl ⟨rfl, us, sql e3⟩, G, ca, env, c, rs, ?_⟩
        simp only [dArgs]
        cases e4 : f env c with
        | st => rw [e4] at q; exact q
        | er z c1 => rw [e4] at q; exact fun cls dd G' ca' H' h1 h2 h3 => q cls dd G' ca' σ H' h1 h3
        | ok rv c1 =>
          rw [e4] at q
          intro G1 ca1 H1 vs s1 r1 w1
          obtain ⟨v, rfl, w⟩ := Paired.one w1
          have q : Fin (yOf X Z) N W D G1 ca1 (kApp i env xs rv c1) := Fin.up q s1.gr
          cases rv with
          | ow j ys => exact q.elim
          | pl d =>
            simp only [kApp] at q
            obtain ⟨b, us2, f1, f2, f3, f4, f5, f6, f7⟩ := r1.own i xs e1
            rw [e2] at f1
            cases f1
            by_cases hz : xs.length < sizeL
            · rw [if_pos hz] at q
              refine ⟨a, us2, v, rfl, rfl, f2, by rw [f3.length]; exact hz, ?_⟩
              exact q G1 ca1 σ _ (r1.put e1 e2 f2 (f3.append (.cons w .nil)) (by rw [List.length_append, List.length_singleton]; exact hz)) .refl
            · rw [if_neg hz] at q
              exact q.elim
      | _ => exact q.elim
theorem psd_put {i : Nat} {x : Str} {k e : Expr} {fk f : DE} {p tpos pos : Pos} (hN : X.N[i]? = some x) (hv : Vis X.env.scope x) (hd : (x == ("__debug__" : Str)) = false) (hcd : (x == ("__classdict__" : Str)) = false) (hk : PD X Z N W k fk) (he : PD X Z N W e f)
    (hh : ∀ v, assign (.Subscript (.Name x p) k tpos) X.env v = (do
      let ov ← holding [v] (eval (.Name x p) X.env)
      let iv ← holding [v, ov] (eval k X.env)
      standAt tpos
      holding [v, ov, iv] (setItem ov iv v)
      release [v, ov, iv] []) := by intro _; rfl)
    (hs : swapsWithSole [.Subscript (.Name x p) k tpos] e pos.line X.env = pure false := by rfl) (hw : swappedStores [.Subscript (.Name x p) k tpos] e X.env = pure none := by rfl)
    (h1 : (assignEach [.Subscript (.Name x p) k tpos] X.env).map (·.2) = [assign (.Subscript (.Name x p) k tpos) X.env] := by rfl) :
    PSD X Z N W (.Assign [.Subscript (.Name x p) k tpos] e pos) (sPut i fk f) :=
  ps_imp (ps_asg he (pg_sub (pe_var hN hv hd hcd) hk set_list hh) hs hw h1) fun D σ H ⟨G, ca, env, c, rs, q⟩ => by
    refine ⟨G, ca, env, c, rs, ?_⟩
    simp only [sPut] at q
    cases e1 : env[i]? with
    | none => rw [e1] at q; exact q.elim
    | some sl =>
      rw [e1] at q
      cases sl with
      | own xs =>
        dsimp only at q
        cases e4 : f env c with
        | st => rw [e4] at q; exact q
        | er z c1 => rw [e4] at q; exact fun cls dd G' ca' H' h1 h2 h3 => q cls dd G' ca' σ H' h1 h3
        | ok rv c1 =>
          rw [e4] at q
          intro G1 ca1 H1 v s1 r1 w1
          have q : Fin (yOf X Z) N W D G1 ca1 (F.of (fk env c1) env fun j c => kPut i env xs rv j c) := Fin.up q s1.gr
          obtain ⟨a, us, e2, e3, _⟩ := r1.own i xs e1
          refine ⟨.ref a, e2, G1, ca1, env, c1, r1, ?_⟩
          cases e5 : fk env c1 with
          | st => rw [e5] at q; exact q
          | er z c1 => rw [e5] at q; exact fun cls dd G' ca' H' h1 h2 h3 => q cls dd G' ca' σ H' h1 h3
          | ok rj c2 =>
            rw [e5] at q
            intro G2 ca2 H2 vj s2 r2 w2
            have q : Fin (yOf X Z) N W D G2 ca2 (kPut i env xs rv rj c2) := Fin.up q s2.gr
            cases rv with
            | ow j ys => exact q.elim
            | pl d =>
              simp only [kPut] at q
              cases e6 : rj.d with
              | int j =>
                rw [e6] at q
                dsimp only at q
                cases e7 : ixD xs.length j with
                | none => rw [e7] at q; exact q.elim
                | some m =>
                  rw [e7] at q
                  obtain ⟨b, us2, f1, f2, f3, f4, f5, f6, f7⟩ := r2.own i xs e1
                  rw [e2] at f1
                  cases f1
                  refine ⟨a, us2, j, m, rfl, atom_int w2 e6, f2, ?_, ?_⟩
                  · rw [f3.length]; exact e7
                  · exact q G2 ca2 σ _ (r2.put e1 e2 f2 (f3.set (Wt.mono s2.le s2.cl w1) m) (by rw [List.length_set]; exact f7)) .refl
              | _ => rw [e6] at q; exact q.elim
      | _ => exact q.elim

/-! ### a def's promise, its calls -/
def spD (Y : Yp) (n : Nat) (sem : DL.Sem) : Sp := fun vs H Q E => vs.length = n ∧ ∃ G ca c ds, RS0 Y G ca H c ∧ Wts Y G ca vs ds ∧ (match sem ds c with
  | .ok d c' => ∀ G' ca' H' v, Stp G ca H G' ca' H' → RS0 Y G' ca' H' c' → Wt Y G' ca' v d → Q v H'
  | .er x c' => ∀ cls dd G' ca' H', IsX Y x cls dd H' → Stp G ca H G' ca' H' → RS0 Y G' ca' H' c' → E cls dd H'
  | .st => False)
/-- the def of the name x keeps it, at level k -/
structure FnD (P : Program) (w : World) (K : PySem.W.Frag) (mg : Str → Option Value) (base : Heap) (Z : Zp) (k : Nat) (x : Str) (n : Nat) (sem : DL.Sem) : Prop where
  ex : ∃ (f : Addr) (fd : FuncData) (ps : List Str), mg x = some (.ref f) ∧ PySem.W.keepIn K (.ref f) = true ∧ Binds K fd ps [] ∧ ps.length = n ∧ FnOk P w K mg base (L2N.CX P w) k f fd ps (spD ⟨K, mg, Z⟩ n sem)
open Classical in
/-- all lists of one's own, as if they were not to change -/
noncomputable def ownG (G H : Hp) (σ : L2.St) (env : DL.Env) : Hp := fun b => if (∃ (i : Nat) (xs : List D), env[i]? = some (.own xs) ∧ σ[i]? = some (some (.ref b))) then H b else G b
open Classical in
noncomputable def cutG (G : Hp) (σ : L2.St) (env : DL.Env) : Hp := fun b => if (∃ (i : Nat) (xs : List D), env[i]? = some (.own xs) ∧ σ[i]? = some (some (.ref b))) then none else G b
theorem RS.ownG {G H : Hp} {ca : Option Addr} {σ : L2.St} {env : DL.Env} {c : C} (r : RS Y N G ca σ H env c) : RS0 Y (ownG G H σ env) ca H c ∧ Same G (ownG G H σ env) := by
  refine ⟨⟨fun b o h => ?_, r.r0.tab, fun a h => ⟨(r.r0.cup a h).1, ?_⟩, fun b ps h => ?_⟩, fun b o h => ?_⟩
  · unfold DL.ownG at h
    split at h
    · exact h
    · exact r.r0.le b o h
  · have ne : ¬ ∃ (i : Nat) (xs : List D), env[i]? = some (.own xs) ∧ σ[i]? = some (some (.ref a)) := fun ⟨i, xs, e1, e2⟩ => by
      obtain ⟨b, us, q1, q2, q3, q4, q5, _⟩ := r.own i xs e1
      rw [e2] at q1
      cases q1
      exact q5 h
    unfold DL.ownG
    rw [if_neg ne]
    exact (r.r0.cup a h).2
  · unfold DL.ownG at h
    split at h
    · rename_i z
      obtain ⟨i, xs, e1, e2⟩ := z
      obtain ⟨a, us, q1, q2, _⟩ := r.own i xs e1
      rw [e2] at q1
      cases q1
      rw [q2] at h
      cases h
    · exact r.r0.nt b ps h
  · have ne : ¬ ∃ (i : Nat) (xs : List D), env[i]? = some (.own xs) ∧ σ[i]? = some (some (.ref b)) := fun ⟨i, xs, e1, e2⟩ => by
      obtain ⟨a, us, q1, q2, q3, q4, q5, _⟩ := r.own i xs e1
      rw [e2] at q1
      cases q1
      rw [q4] at h
      cases h
    unfold DL.ownG
    rw [if_neg ne]
    exact h
theorem WtRs.all {G H : Hp} {ca : Option Addr} {σ : L2.St} {env : DL.Env} {c : C} (r : RS Y N G ca σ H env c) : ∀ {vs : List V} {rvs : List RV}, WtRs Y G ca σ env vs rvs → Wts Y (DL.ownG G H σ env) ca vs (rvs.map RV.d)
  | _, _, .nil => .nil
  | _, rv :: _, .cons h t => by
    refine .cons ?_ (WtRs.all r t)
    cases rv with
    | pl d => exact Wt.mono r.ownG.2 (fun _ h => h) h
    | ow i xs =>
      obtain ⟨w1, w2⟩ := h
      obtain ⟨a, us, q1, q2, q3, q4, q5, q6, q7⟩ := r.own i xs w1
      rw [w2] at q1
      cases q1
      refine .lst ?_ (q3.mono r.ownG.2 fun _ h => h) q7
      unfold DL.ownG
      rw [if_pos ⟨i, xs, w1, w2⟩]
      exact q2
mutual
theorem Wt.cut {G : Hp} {ca : Option Addr} {σ : L2.St} {env : DL.Env} (hn : ∀ (i : Nat) (xs : List D) (b : Addr), env[i]? = some (.own xs) → σ[i]? = some (some (.ref b)) → ∀ vs, ¬ Rd G b (.tup vs)) : ∀ {v : V} {d : D}, Wt Y G ca v d → d.noL = true → Wt Y (cutG G σ env) ca v d
  | _, _, .non, _ => .non
  | _, _, .bl b, _ => .bl b
  | _, _, .int i, _ => .int i
  | _, _, .str x, _ => .str x
  | _, _, .exc h, _ => .exc h
  | _, _, .tup (a := a) h w l, e => by
    refine .tup ?_ (Wts.cut hn w (by simpa only [D.noL] using e)) l
    rcases h with h | h
    · refine .inl ?_
      have ne : ¬ ∃ (i : Nat) (xs : List D), env[i]? = some (.own xs) ∧ σ[i]? = some (some (.ref a)) := fun ⟨i, xs, e1, e2⟩ => hn i xs a e1 e2 _ h
      have ea : cutG G σ env a = G a := if_neg ne
      rcases h with h | ⟨o, h⟩
      · exact .inl (by rw [ea]; exact h)
      · exact .inr ⟨o, by rw [ea]; exact h⟩
    · exact .inr h
  | _, _, .lst _ _ _, e => by simp only [D.noL] at e; cases e
  | _, _, .cup h, _ => .cup h
  | _, _, .fn h, _ => .fn h
  | _, _, .ty k, _ => .ty k
theorem Wts.cut {G : Hp} {ca : Option Addr} {σ : L2.St} {env : DL.Env} (hn : ∀ (i : Nat) (xs : List D) (b : Addr), env[i]? = some (.own xs) → σ[i]? = some (some (.ref b)) → ∀ vs, ¬ Rd G b (.tup vs)) : ∀ {vs : List V} {ds : List D}, Wts Y G ca vs ds → D.noLs ds = true → Wts Y (cutG G σ env) ca vs ds
  | _, _, .nil, _ => .nil
  | _, _, .cons h t, e => by
    simp only [D.noLs, Bool.and_eq_true] at e
    exact .cons (Wt.cut hn h e.1) (Wts.cut hn t e.2)
end
theorem tda_mono {fs : DA} {σ : L2.St} {H : Hp} {Q Q' : List V → Hp → Prop} (h : tDA Y N W fs σ H Q) (i : ∀ vs H, Q vs H → Q' vs H) : tDA Y N W fs σ H Q' := by
  obtain ⟨G, ca, env, c, rs, h⟩ := h
  refine ⟨G, ca, env, c, rs, ?_⟩
  cases e : fs env c with
  | st => rw [e] at h; exact h
  | er x c1 => rw [e] at h; exact h
  | ok xs c1 =>
    rw [e] at h
    exact fun G' ca' H' vs s r w => i _ _ (h G' ca' H' vs s r w)
theorem td_call {n : Nat} {sem : DL.Sem} {fs : List DE} {σ : L2.St} {H : Hp} {Q : VK} (hn : fs.length = n) (h : tD Y N W (dCall sem fs) σ H Q) : tDA Y N W (dArgs fs) σ H fun vs H1 => spD Y n sem vs H1 Q (fun cls dd H2 => W cls dd σ H2) := by
  obtain ⟨G, ca, env, c, rs, h⟩ := h
  refine tda (Post := fun G ca H env c rv c' => ∀ G' ca' H' v, Stp G ca H G' ca' H' → RS Y N G' ca' σ H' env c' → WtR Y G' ca' σ env v rv → Q v H') rs h fun xs c1 G1 ca1 H1 vs el s1 r1 w1 h => ?_
  refine ⟨by rw [Paired.length w1, el, hn], ?_⟩
  by_cases hp : xs.all RV.plain = true
  · refine ⟨G1, ca1, c1, xs.map RV.d, r1.r0, plain_wts w1 hp, ?_⟩
    cases e : sem (xs.map RV.d) c1 with
    | st => rw [e] at h; exact h
    | er x c2 =>
      rw [e] at h
      exact fun cls dd G' ca' H' h1 s2 r2 => h cls dd G' ca' H' h1 (s1.trans s2) (r1.step s2 r2)
    | ok d c2 =>
      rw [e] at h
      simp only [DL.R.bind, hp, Bool.true_or, if_true] at h
      exact fun G' ca' H' v s2 r2 w => h G' ca' H' v (s1.trans s2) (r1.step s2 r2) w
  · obtain ⟨o1, o2⟩ := r1.ownG
    refine ⟨DL.ownG G1 H1 σ env, ca1, c1, xs.map RV.d, o1, WtRs.all r1 w1, ?_⟩
    -- behind the call: the own lists stand as they stood
    have back : ∀ {G' H' : Hp} {ca' : Option Addr} {c' : C}, Stp (DL.ownG G1 H1 σ env) ca1 H1 G' ca' H' → RS0 Y G' ca' H' c' → Stp G1 ca1 H1 (cutG G' σ env) ca' H' ∧ RS0 Y (cutG G' σ env) ca' H' c' := fun {G' H' ca' c'} s2 r2 => by
      refine ⟨⟨fun b o h => ?_, fun b o h => ?_, s2.dm, s2.fr, s2.cl, s2.cn⟩, ⟨fun b o h => ?_, r2.tab, fun a h => ⟨(r2.cup a h).1, ?_⟩, fun b ps h => ?_⟩⟩
      · have ne : ¬ ∃ (i : Nat) (xs : List D), env[i]? = some (.own xs) ∧ σ[i]? = some (some (.ref b)) := fun ⟨i, xs, e1, e2⟩ => by
          obtain ⟨a, us, q1, q2, q3, q4, _⟩ := r1.own i xs e1
          rw [e2] at q1
          cases q1
          rw [q4] at h
          cases h
        unfold cutG
        rw [if_neg ne]
        exact s2.le b o (o2 b o h)
      · unfold cutG at h
        split at h
        · cases h
        · rename_i hno
          rcases s2.nw b o h with z | z
          · unfold DL.ownG at z
            rw [if_neg hno] at z
            exact .inl z
          · exact .inr z
      · unfold cutG at h
        split at h
        · cases h
        · exact r2.le b o h
      · unfold cutG
        split
        · rfl
        · exact (r2.cup a h).2
      · unfold cutG at h
        split at h
        · cases h
        · exact r2.nt b ps h
    cases e : sem (xs.map RV.d) c1 with
    | st => rw [e] at h; exact h
    | er x c2 =>
      rw [e] at h
      intro cls dd G' ca' H' h1 s2 r2
      obtain ⟨s3, r3⟩ := back s2 r2
      exact h cls dd _ ca' H' h1 (s1.trans s3) (r1.step s3 r3)
    | ok d c2 =>
      rw [e] at h
      simp only [DL.R.bind] at h
      by_cases hd : d.noL = true
      · simp only [hd, Bool.or_true, if_true] at h
        intro G' ca' H' v s2 r2 w
        obtain ⟨s3, r3⟩ := back s2 r2
        refine h _ ca' H' v (s1.trans s3) (r1.step s3 r3) (Wt.cut (fun i ys b e1 e2 us z => ?_) w hd)
        obtain ⟨a, us', q1, q2, q3, q4, q5, _⟩ := r1.own i ys e1
        rw [e2] at q1
        cases q1
        have := s2.fr b _ q2 notbl q5
        rcases rd_mono r2.le z with z | ⟨o, z⟩
        · rw [this] at z; cases z
        · rw [this] at z; cases z
      · rw [if_neg (by simp [hp, hd])] at h
        exact h.elim
theorem pd_call {k n : Nat} {x : Str} {sem : DL.Sem} {e : Expr} {es : List Expr} {fs : List DE} {p pos : Pos} (F : FnD X.prog X.w X.K X.mg X.base Z k x n sem) (hr : Room k X.A) (hg : Gl X x) (tk : L2N.Takes X W) (ha : PDA X Z N W (e :: es) (dArgs fs)) (hn : fs.length = n) (hdb : (x == ("__debug__" : Str)) = false)
    (he : starEach (e :: es) X.env = (false, eval e X.env) :: starEach es X.env := by rfl) (hpl : (backTo pos (starEach es X.env)).any (·.1) = false := by rfl) : PD X Z N W (.Call (.Name x p) (e :: es) [] pos) (dCall sem fs) := by
  obtain ⟨f, fd, ps, hm, hk, hb, hlen, ok⟩ := F.ex
  refine pe_imp (pe_callSD (E := fun σ cls dd H2 => W cls dd σ H2) (dvs := []) ok hr hg hm hk hb .nil (fun σ => L2N.passAt tk σ) ha hdb he hpl) fun σ H Q h => ?_
  have q := td_call (n := n) hn h
  unfold tCallSD
  refine tda_mono q fun vs H1 z => ?_
  rw [List.append_nil]
  exact z
end
end DL

set_option Elab.async false
set_option linter.all false
set_option maxRecDepth 100000
set_option maxHeartbeats 4000000
set_option autoImplicit false
namespace DL
open PySem PySem.Spec PyProof.Rows L2
section
variable {X : Cx} {Z : Zp} {N : En} {W : WX} {Y : Yp}
section
variable {G H : Hp} {ca : Option Addr} {c : C} {v u : V}
theorem WtS.int {i : Int} (w : WtS Y G H ca v (.int i)) : v = .int i := by cases w.atom (fun _ e => by cases e); rfl
theorem WtS.str {x : Str} (w : WtS Y G H ca v (.str x)) : v = .str x := by cases w.atom (fun _ e => by cases e); rfl
theorem WtS.bool {b : Bool} (w : WtS Y G H ca v (.bl b)) : v = .bl b := by cases w.atom (fun _ e => by cases e); rfl
theorem WtS.ty {k : Nat} (w : WtS Y G H ca v (.ty k)) : v = .ty (tyName k) := by cases w.atom (fun _ e => by cases e); rfl
theorem WtS.non (w : WtS Y G H ca v .non) : v = .non := by cases w.atom (fun _ e => by cases e); rfl
end
/-! ### operators -/
theorem od_int {f : Value → Value → PySem.Sem Value} {Cc : Int → Int → Prop} {k : Int → Int → V} {g : D → D → Option D} (h : OpR X f (rI Cc k)) (hg : ∀ x y d, g x y = some d → ∃ i j, x = .int i ∧ y = .int j ∧ Cc i j ∧ ∀ G ca, Wt (yOf X Z) G ca (k i j) d) : OpD X Z f g :=
  ⟨_, h, fun G ca H c x y dx dy d Q rs w1 w2 e q => by
    obtain ⟨i, j, rfl, rfl, hc, w⟩ := hg _ _ _ e
    exact ⟨i, j, w1.int, w2.int, hc, q.here rs (w G ca)⟩⟩
theorem od_int0 {f : Value → Value → PySem.Sem Value} {k : Int → Int → V} {g : D → D → Option D} (h : OpR X f (rI0 k)) (hg : ∀ x y d, g x y = some d → ∃ i j, x = .int i ∧ y = .int j ∧ ∀ G ca, Wt (yOf X Z) G ca (k i j) d) : OpD X Z f g :=
  ⟨_, h, fun G ca H c x y dx dy d Q rs w1 w2 e q => by
    obtain ⟨i, j, rfl, rfl, w⟩ := hg _ _ _ e
    exact ⟨i, j, w1.int, w2.int, q.here rs (w G ca)⟩⟩
theorem two_ints {F : Int → Int → Option D} {x y d : D} (h : (match x, y with
    | .int i, .int j => F i j
    | _, _ => none) = some d) : ∃ i j, x = .int i ∧ y = .int j ∧ F i j = some d := by
  cases x <;> first | cases h | skip
  cases y <;> first | cases h | skip
  exact ⟨_, _, rfl, rfl, h⟩
theorem od_sub : OpD X Z (binaryOp .Sub) D.sub := od_int0 op_sub fun x y d h => by
  obtain ⟨i, j, rfl, rfl, e⟩ := two_ints (F := fun i j => some (.int (i - j))) h
  cases e
  exact ⟨i, j, rfl, rfl, fun _ _ => .int _⟩
theorem od_lt : OpD X Z (compareOp .Lt) D.lt := od_int0 op_lt fun x y d h => by
  obtain ⟨i, j, rfl, rfl, e⟩ := two_ints (F := fun i j => some (.bl (decide (i < j)))) h
  cases e
  exact ⟨i, j, rfl, rfl, fun _ _ => .bl _⟩
theorem od_le : OpD X Z (compareOp .LtE) D.le := od_int0 op_le fun x y d h => by
  obtain ⟨i, j, rfl, rfl, e⟩ := two_ints (F := fun i j => some (.bl (decide (i ≤ j)))) h
  cases e
  exact ⟨i, j, rfl, rfl, fun _ _ => .bl _⟩
theorem od_gt : OpD X Z (compareOp .Gt) D.gt := od_int0 op_gt fun x y d h => by
  obtain ⟨i, j, rfl, rfl, e⟩ := two_ints (F := fun i j => some (.bl (decide (j < i)))) h
  cases e
  exact ⟨i, j, rfl, rfl, fun _ _ => .bl _⟩
theorem od_ge : OpD X Z (compareOp .GtE) D.ge := od_int0 op_ge fun x y d h => by
  obtain ⟨i, j, rfl, rfl, e⟩ := two_ints (F := fun i j => some (.bl (decide (j ≤ i)))) h
  cases e
  exact ⟨i, j, rfl, rfl, fun _ _ => .bl _⟩
theorem od_mod : OpD X Z (binaryOp .Mod) D.mod := od_int op_mod fun x y d h => by
  obtain ⟨i, j, rfl, rfl, e⟩ := two_ints (F := fun i j => if 0 < j then some (.int (i % j)) else none) h
  by_cases hj : 0 < j
  · simp only [if_pos hj] at e
    cases e
    exact ⟨i, j, rfl, rfl, hj, fun _ _ => .int _⟩
  · simp only [if_neg hj] at e
    cases e
theorem od_pow : OpD X Z (binaryOp .Pow) D.pow := od_int op_pow fun x y d h => by
  obtain ⟨i, j, rfl, rfl, e⟩ := two_ints (F := fun i j => if 0 ≤ j ∧ j ≤ 1000000 ∧ i.natAbs < 2 ^ 64 then some (.int (i ^ j.toNat)) else none) h
  by_cases hj : 0 ≤ j ∧ j ≤ 1000000 ∧ i.natAbs < 2 ^ 64
  · simp only [if_pos hj] at e
    cases e
    exact ⟨i, j, rfl, rfl, hj, fun _ _ => .int _⟩
  · simp only [if_neg hj] at e
    cases e
theorem wide_log {n : Nat} (h : n < wideLine) : n.log2 < 9000 := by
  unfold wideLine at h
  by_cases h0 : n = 0
  · subst h0
    decide
  · exact Nat.lt_of_lt_of_le ((Nat.log2_lt h0).mpr h) (by decide)
theorem od_fdiv : OpD X Z (binaryOp .FloorDiv) D.fdiv := od_int op_fdivW fun x y d h => by
  obtain ⟨i, j, rfl, rfl, e⟩ := two_ints (F := fun i j => if 0 < j ∧ j.natAbs < wideLine then some (.int (i / j)) else none) h
  by_cases hj : 0 < j ∧ j.natAbs < wideLine
  · simp only [if_pos hj] at e
    cases e
    exact ⟨i, j, rfl, rfl, ⟨hj.1, wide_log hj.2⟩, fun _ _ => .int _⟩
  · simp only [if_neg hj] at e
    cases e
theorem od_mul : OpD X Z (binaryOp .Mult) D.mul := by
  refine opd_imp (opd_or (od_int (Z := Z) (g := fun x y => match x, y with
    | .int i, .int j => if ((decide (-(2 ^ 64) < i) && decide (i < 2 ^ 64)) || (decide (-(2 ^ 64) < j) && decide (j < 2 ^ 64))) = true then some (.int (i * j)) else none
    | _, _ => none) op_mul fun x y d h => ?_) (od_int (Z := Z) (g := fun x y => match x, y with
    | .int i, .int j => if (decide (i.natAbs < wideLine) && decide (j.natAbs < wideLine)) = true then some (.int (i * j)) else none
    | _, _ => none) op_mulW fun x y d h => ?_)) fun x y d h => ?_
  · obtain ⟨i, j, rfl, rfl, e⟩ := two_ints (F := fun i j => if ((decide (-(2 ^ 64) < i) && decide (i < 2 ^ 64)) || (decide (-(2 ^ 64) < j) && decide (j < 2 ^ 64))) = true then some (.int (i * j)) else none) h
    by_cases hj : ((decide (-(2 ^ 64) < i) && decide (i < 2 ^ 64)) || (decide (-(2 ^ 64) < j) && decide (j < 2 ^ 64))) = true
    · simp only [if_pos hj] at e
      cases e
      refine ⟨i, j, rfl, rfl, ?_, fun _ _ => .int _⟩
      rw [Bool.or_eq_true, Bool.and_eq_true, Bool.and_eq_true] at hj
      exact hj.imp (fun h => ⟨of_decide_eq_true h.1, of_decide_eq_true h.2⟩) fun h => ⟨of_decide_eq_true h.1, of_decide_eq_true h.2⟩
    · simp only [if_neg hj] at e
      cases e
  · obtain ⟨i, j, rfl, rfl, e⟩ := two_ints (F := fun i j => if (decide (i.natAbs < wideLine) && decide (j.natAbs < wideLine)) = true then some (.int (i * j)) else none) h
    by_cases hj : (decide (i.natAbs < wideLine) && decide (j.natAbs < wideLine)) = true
    · simp only [if_pos hj] at e
      cases e
      refine ⟨i, j, rfl, rfl, ?_, fun _ _ => .int _⟩
      rw [Bool.and_eq_true] at hj
      have h1 := wide_log (of_decide_eq_true hj.1)
      have h2 := wide_log (of_decide_eq_true hj.2)
      show _ + _ < 1000000
      omega
    · simp only [if_neg hj] at e
      cases e
  · obtain ⟨i, j, rfl, rfl, e⟩ := two_ints (F := fun i j => if mulOk i j = true then some (.int (i * j)) else none) h
    by_cases hj : mulOk i j = true
    · simp only [if_pos hj] at e
      cases e
      unfold mulOk at hj
      rw [Bool.or_eq_true] at hj
      rcases hj with hj | hj
      · dsimp only
        rw [if_pos hj]
        rfl
      · dsimp only
        rw [if_pos hj]
        by_cases h1 : ((decide (-(2 ^ 64) < i) && decide (i < 2 ^ 64)) || (decide (-(2 ^ 64) < j) && decide (j < 2 ^ 64))) = true
        · rw [if_pos h1]; rfl
        · rw [if_neg h1]; rfl
    · simp only [if_neg hj] at e
      cases e
theorem lenS (x y : Str) : x.length + y.length = x.length + y.length := rfl
def addI : D → D → Option D
  | .int i, .int j => some (.int (i + j))
  | _, _ => none
def addS : D → D → Option D
  | .str x, .str y => if x.length + y.length ≤ sizeL then some (.str (x ++ y)) else none
  | _, _ => none
def addT : D → D → Option D
  | .tup xs, .tup ys => if xs.length + ys.length ≤ sizeL then some (.tup (xs ++ ys)) else none
  | _, _ => none
theorem od_addI : OpD X Z (binaryOp .Add) addI := od_int0 op_add fun x y d h => by
  obtain ⟨i, j, rfl, rfl, e⟩ := two_ints (F := fun i j => some (.int (i + j))) h
  cases e
  exact ⟨i, j, rfl, rfl, fun _ _ => .int _⟩
theorem od_addS : OpD X Z (binaryOp .Add) addS := ⟨_, op_add_str, fun G ca H c x y dx dy d Q rs w1 w2 e q => by
  cases dx <;> first | cases e | skip
  cases dy <;> first | cases e | skip
  rename_i xs ys
  simp only [addS] at e
  by_cases hl : xs.length + ys.length ≤ sizeL
  · rw [if_pos hl] at e
    cases e
    exact ⟨xs, ys, w1.str, w2.str, hl, q.here rs (.str _)⟩
  · rw [if_neg hl] at e
    cases e⟩
theorem od_addT : OpD X Z (binaryOp .Add) addT := ⟨_, op_catA, fun G ca H c x y dx dy d Q rs w1 w2 e q => by
  cases dx <;> first | cases e | skip
  cases dy <;> first | cases e | skip
  rename_i xs ys
  simp only [addT] at e
  by_cases hl : xs.length + ys.length ≤ sizeL
  · rw [if_pos hl] at e
    cases e
    have t1 := w1.atom (fun _ e => by cases e)
    have t2 := w2.atom (fun _ e => by cases e)
    obtain ⟨a, vs, rfl, h1, z1, _⟩ := w1.tup rs
    obtain ⟨b, us, rfl, h2, z2, _⟩ := w2.tup rs
    refine ⟨a, b, vs, us, rfl, rfl, h1, h2, by rw [z1.length, z2.length]; exact hl, fun e => ?_, fun e1 e2 => ?_, fun e1 e2 p hp => ?_⟩
    · subst e
      cases z1
      exact q.here rs t2
    · subst e2
      cases z2
      rw [List.append_nil] at q
      exact q.here rs t1
    · exact q.tup rs (z1.append z2) (by rw [List.length_append]; exact hl) hp
  · rw [if_neg hl] at e
    cases e⟩
theorem od_add : OpD X Z (binaryOp .Add) D.add := opd_imp (opd_or od_addI (opd_or od_addS od_addT)) fun x y d h => by
  cases x <;> first | cases h | skip
  all_goals (cases y <;> first | cases h | skip)
  · rfl
  · have h' : addS (.str _) (.str _) = some d := h
    show (addS _ _).or _ = _
    rw [h']
    rfl
  · exact h
theorem odo_cat : OpDO X Z (binaryOp .Add) D.cat := ⟨_, op_cat, fun G ca H c x y dx dy d Q rs w1 w2 e => by
  cases dx <;> first | cases e | skip
  cases dy <;> first | cases e | skip
  rename_i xs ys
  simp only [D.cat] at e
  by_cases hl : xs.length + ys.length ≤ sizeL
  · rw [if_pos hl] at e
    cases e
    obtain ⟨a, vs, rfl, h1, z1, _⟩ := w1.lst rs
    obtain ⟨b, us, rfl, h2, z2, _⟩ := w2.lst rs
    exact ⟨_, rfl, fun q => ⟨a, b, vs, us, rfl, rfl, h1, h2, by rw [z1.length, z2.length]; exact hl, fun p hp => q.new rs (z1.append z2) (by rw [List.length_append]; exact hl) hp⟩⟩
  · rw [if_neg hl] at e
    cases e⟩
theorem odo_rep : OpDO X Z (binaryOp .Mult) D.rep := ⟨_, op_rep, fun G ca H c x y dx dy d Q rs w1 w2 e => by
  cases dx <;> first | cases e | skip
  cases dy <;> first | cases e | skip
  rename_i xs k
  simp only [D.rep] at e
  by_cases hl : -(2 ^ 63) ≤ k ∧ k < 2 ^ 63 ∧ xs.length * k.toNat ≤ sizeL
  · rw [if_pos hl] at e
    cases e
    obtain ⟨a, vs, rfl, h1, z1, _⟩ := w1.lst rs
    exact ⟨_, rfl, fun q => ⟨a, k, vs, rfl, w2.int, h1, hl.1, hl.2.1, by rw [z1.length]; exact hl.2.2, fun p hp => q.new rs (z1.flat _) (by rw [flat_len]; exact hl.2.2) hp⟩⟩
  · rw [if_neg hl] at e
    cases e⟩
theorem od_repT : OpD X Z (binaryOp .Mult) D.repT := ⟨_, op_repT, fun G ca H c x y dx dy d Q rs w1 w2 e q => by
  cases dx <;> first | cases e | skip
  cases dy <;> first | cases e | skip
  rename_i xs k
  simp only [D.repT] at e
  by_cases hl : xs ≠ [] ∧ 2 ≤ k ∧ k ≤ 1000 ∧ xs.length ≤ 1000
  · rw [if_pos hl] at e
    cases e
    obtain ⟨a, vs, rfl, h1, z1, _⟩ := w1.tup rs
    have hne : vs ≠ [] := fun z => by subst z; cases z1; exact hl.1 rfl
    refine ⟨a, k, vs, rfl, w2.int, h1, hne, hl.2.1, hl.2.2.1, by rw [z1.length]; exact hl.2.2.2, fun p hp => q.tup rs (z1.flat _) ?_ hp⟩
    rw [flat_len]
    have h1 : k.toNat ≤ 1000 := by omega
    have := Nat.mul_le_mul hl.2.2.2 h1
    show xs.length * k.toNat ≤ 2 ^ 24
    omega
  · rw [if_neg hl] at e
    cases e⟩
/-! ### equality -/
mutual
def D.py : D → PyData
  | .bl b => .bool b
  | .int i => .int i
  | .str x => .str x
  | .tup xs => .tuple (D.pys xs)
  | .lst xs => .list (D.pys xs)
  | _ => .none
def D.pys : List D → List PyData
  | [] => []
  | x :: xs => D.py x :: D.pys xs
end
theorem pys_map : ∀ xs : List D, D.pys xs = xs.map D.py
  | [] => by simp only [D.pys, List.map_nil]
  | x :: xs => by simp only [D.pys, List.map_cons, pys_map xs]
mutual
theorem eqv_py : ∀ (n m : Nat) (x y : D), x.shal n = true → y.shal m = true → PyData.eqv x.py y.py = D.eqv x y
  | n, m, x, y, hx, hy => by
    cases x <;> cases y <;> first
      | (simp only [D.py, PyData.eqv, D.eqv]; done)
      | (simp [D.shal] at hx; done)
      | (simp [D.shal] at hy; done)
      | skip
    · rename_i xs ys
      cases n with
      | zero => simp [D.shal] at hx
      | succ n =>
        cases m with
        | zero => simp [D.shal] at hy
        | succ m =>
          simp only [D.shal] at hx hy
          simp only [D.py, PyData.eqv, D.eqv]
          exact eqvs_py n m xs ys hx hy
    · rename_i xs ys
      cases n with
      | zero => simp [D.shal] at hx
      | succ n =>
        cases m with
        | zero => simp [D.shal] at hy
        | succ m =>
          simp only [D.shal] at hx hy
          simp only [D.py, PyData.eqv, D.eqv]
          exact eqvs_py n m xs ys hx hy
theorem eqvs_py : ∀ (n m : Nat) (xs ys : List D), xs.all (D.shal n) = true → ys.all (D.shal m) = true → PyData.eqvAll (D.pys xs) (D.pys ys) = D.eqvs xs ys
  | n, m, [], [], _, _ => by simp only [D.pys, PyData.eqvAll, D.eqvs]
  | n, m, [], _ :: _, _, _ => by simp only [D.pys, PyData.eqvAll, D.eqvs]
  | n, m, _ :: _, [], _, _ => by simp only [D.pys, PyData.eqvAll, D.eqvs]
  | n, m, x :: xs, y :: ys, hx, hy => by
    simp only [List.all_cons, Bool.and_eq_true] at hx hy
    simp only [D.pys, PyData.eqvAll, D.eqvs, eqv_py n m x y hx.1 hy.1, eqvs_py n m xs ys hx.2 hy.2]
end
mutual
theorem shal_lay : ∀ (n : Nat) (x : D), x.shal n = true → x.py.canLay0 = true ∧ x.py.depth ≤ n
  | n, x, h => by
    cases x with
    | tup xs =>
      cases n with
      | zero => simp [D.shal] at h
      | succ n =>
        simp only [D.shal] at h
        simp only [D.py, PyData.canLay0, PyData.depth]
        obtain ⟨h1, h2⟩ := shals_lay n xs h
        exact ⟨h1, Nat.succ_le_succ h2⟩
    | lst xs =>
      cases n with
      | zero => simp [D.shal] at h
      | succ n =>
        simp only [D.shal] at h
        simp only [D.py, PyData.canLay0, PyData.depth]
        obtain ⟨h1, h2⟩ := shals_lay n xs h
        exact ⟨h1, Nat.succ_le_succ h2⟩
    | str z =>
      have h : strGood z = true := by cases n <;> exact h
      simp only [D.py, PyData.canLay0, PyData.depth]
      exact ⟨h, Nat.zero_le _⟩
    | cup => cases n <;> simp [D.shal] at h
    | fn k => cases n <;> simp [D.shal] at h
    | ty k => cases n <;> simp [D.shal] at h
    | _ =>
      simp only [D.py, PyData.canLay0, PyData.depth]
      exact ⟨trivial, Nat.zero_le _⟩
theorem shals_lay : ∀ (n : Nat) (xs : List D), xs.all (D.shal n) = true → PyData.canLayAll0 (D.pys xs) = true ∧ PyData.depthAll (D.pys xs) ≤ n
  | n, [], h => by simp only [D.pys, PyData.canLayAll0, PyData.depthAll]; exact ⟨trivial, Nat.zero_le _⟩
  | n, x :: xs, h => by
    simp only [List.all_cons, Bool.and_eq_true] at h
    obtain ⟨a, b⟩ := shal_lay n x h.1
    obtain ⟨a2, b2⟩ := shals_lay n xs h.2
    simp only [D.pys, PyData.canLayAll0, PyData.depthAll, a, a2, Bool.and_self]
    exact ⟨trivial, Nat.max_le.mpr ⟨b, b2⟩⟩
end
theorem shal_shaped {x : D} (h : x.shal 60 = true) : SeqAt.shaped x.py = true := by
  obtain ⟨a, b⟩ := shal_lay 60 x h
  unfold SeqAt.shaped
  rw [a, decide_eq_true (Nat.le_trans b (by decide))]
  rfl
mutual
theorem Wt.dp {G : Hp} {ca : Option Addr} : ∀ {v : V} {d : D} {n : Nat}, Wt Y G ca v d → d.shal n = true → Dp Y.K G v d.py
  | _, _, _, .non, _ => by simp only [D.py]; exact .non
  | _, _, _, .bl b, _ => by simp only [D.py]; exact .bl b
  | _, _, _, .int i, _ => by simp only [D.py]; exact .int i
  | _, _, _, .str x, _ => by simp only [D.py]; exact .str x
  | _, _, 0, .exc _, e => by simp [D.shal] at e
  | _, _, n + 1, .exc _, e => by simp [D.shal] at e
  | _, _, 0, .tup h w _, e => by simp [D.shal] at e
  | _, _, n + 1, .tup h w _, e => by
    simp only [D.shal] at e
    simp only [D.py]
    exact .tup h (Wts.dp w e)
  | _, _, 0, .lst h w _, e => by simp [D.shal] at e
  | _, _, n + 1, .lst h w _, e => by
    simp only [D.shal] at e
    simp only [D.py]
    exact .lst (.inl (.inl h)) (Wts.dp w e)
  | _, _, n, .cup _, e => by cases n <;> simp [D.shal] at e
  | _, _, n, .fn _, e => by cases n <;> simp [D.shal] at e
  | _, _, n, .ty _, e => by cases n <;> simp [D.shal] at e
theorem Wts.dp {G : Hp} {ca : Option Addr} : ∀ {vs : List V} {ds : List D} {n : Nat}, Wts Y G ca vs ds → ds.all (D.shal n) = true → DpAll Y.K G vs (D.pys ds)
  | _, _, _, .nil, _ => by simp only [D.pys]; exact .nil
  | _, _, _, .cons h w, e => by
    simp only [List.all_cons, Bool.and_eq_true] at e
    simp only [D.pys]
    exact .cons (Wt.dp h e.1) (Wts.dp w e.2)
end
theorem od_eq (hu : X.A.units + 64 < cLine) : OpD X Z (compareOp .Eq) D.eq := ⟨_, op_eqD hu, fun G ca H c x y dx dy d Q rs w1 w2 e q => by
  unfold D.eq at e
  by_cases hs : (dx.shal 60 && dy.shal 60) = true
  · rw [if_pos hs] at e
    cases e
    rw [Bool.and_eq_true] at hs
    refine ⟨dx.py, dy.py, (w1.all rs).dp hs.1, (w2.all rs).dp hs.2, shal_shaped hs.1, shal_shaped hs.2, ?_⟩
    rw [eqv_py 60 60 dx dy hs.1 hs.2]
    exact q.here rs (.bl _)
  · rw [if_neg hs] at e
    cases e⟩
theorem od_ne (hu : X.A.units + 64 < cLine) : OpD X Z (compareOp .NotEq) D.ne := ⟨_, op_neD hu, fun G ca H c x y dx dy d Q rs w1 w2 e q => by
  unfold D.ne at e
  by_cases hs : (dx.shal 60 && dy.shal 60) = true
  · rw [if_pos hs] at e
    cases e
    rw [Bool.and_eq_true] at hs
    refine ⟨dx.py, dy.py, (w1.all rs).dp hs.1, (w2.all rs).dp hs.2, shal_shaped hs.1, shal_shaped hs.2, ?_⟩
    rw [eqv_py 60 60 dx dy hs.1 hs.2]
    exact q.here rs (.bl _)
  · rw [if_neg hs] at e
    cases e⟩
theorem isNon_v {G H : Hp} {ca : Option Addr} {v : V} {d : D} (w : WtS Y G H ca v d) : decide (v = .non) = d.isNon := by
  rcases w with w | ⟨a, vs, xs, rfl, rfl, _⟩
  · cases w <;> rfl
  · rfl
theorem od_isN : OpD X Z (compareOp .Is) D.isN := ⟨_, op_isN, fun G ca H c x y dx dy d Q rs w1 w2 e q => by
  cases dy <;> first | cases e | skip
  exact ⟨w2.non, by rw [isNon_v w1]; exact q.here rs (.bl _)⟩⟩
theorem od_notN : OpD X Z (compareOp .IsNot) D.notN := ⟨_, op_notN, fun G ca H c x y dx dy d Q rs w1 w2 e q => by
  cases dy <;> first | cases e | skip
  exact ⟨w2.non, by rw [isNon_v w1]; exact q.here rs (.bl _)⟩⟩
theorem od_isB : OpD X Z (compareOp .Is) D.isB := ⟨_, op_is_bl, fun G ca H c x y dx dy d Q rs w1 w2 e q => by
  cases dx <;> first | cases e | skip
  cases dy <;> first | cases e | skip
  rename_i a b
  have : decide (a = b) = (a == b) := by cases a <;> cases b <;> rfl
  exact ⟨a, b, w1.bool, w2.bool, by rw [this]; exact q.here rs (.bl _)⟩⟩
theorem od_notB : OpD X Z (compareOp .IsNot) D.notB := ⟨_, op_isnot_bl, fun G ca H c x y dx dy d Q rs w1 w2 e q => by
  cases dx <;> first | cases e | skip
  cases dy <;> first | cases e | skip
  rename_i a b
  have : decide (a = b) = (a == b) := by cases a <;> cases b <;> rfl
  exact ⟨a, b, w1.bool, w2.bool, by rw [this]; exact q.here rs (.bl _)⟩⟩
/-! ### unary -/
theorem ud_neg : UnD X Z (unaryOp .USub) D.neg := ⟨_, un_neg, fun G ca H c x dx d Q rs w1 e q => by
  cases dx <;> first | cases e | skip
  exact ⟨_, w1.int, q.here rs (.int _)⟩⟩
theorem pd_notV {a : Expr} {fa : DE} {pos : Pos} (ha : PD X Z N W a fa) : PD X Z N W (.UnaryOp .Not a pos) (dO1 D.inv fa) :=
  pe_imp (pe_not ha) fun σ H Q h => td1 (r := fun x H Q => ∃ c, x = .bl c ∧ Q (.bl (!c)) H) (fun G ca H c x dx d Q rs w e q => by
    cases dx <;> first | cases e | skip
    exact ⟨_, w.bool, q.here rs (.bl _)⟩) h
/-! ### membership -/
theorem flat_v {G : Hp} {ca : Option Addr} {v : V} {d : D} (w : Wt Y G ca v d) (h : d.flat = true) : flatV v = true := by cases w <;> first | rfl | cases h
theorem flat_vs {G : Hp} {ca : Option Addr} : ∀ {vs : List V} {ds : List D}, Wts Y G ca vs ds → ds.all D.flat = true → vs.all flatV = true
  | _, _, .nil, _ => rfl
  | _, _, .cons h w, e => by
    simp only [List.all_cons, Bool.and_eq_true] at e ⊢
    exact ⟨flat_v h e.1, flat_vs w e.2⟩
theorem eqv_v {G : Hp} {ca : Option Addr} {v u : V} {d e : D} (w : Wt Y G ca v d) (w2 : Wt Y G ca u e) (h : d.flat = true) (h2 : e.flat = true) : eqV v u = D.eqv d e := by
  cases w <;> first | cases h | skip
  all_goals (cases w2 <;> first | cases h2 | skip)
  all_goals (simp only [eqV, D.eqv])
theorem mem_v {G : Hp} {ca : Option Addr} {v : V} {d : D} (w : Wt Y G ca v d) (h : d.flat = true) : ∀ {vs : List V} {ds : List D}, Wts Y G ca vs ds → ds.all D.flat = true → inV v vs = ds.any fun z => D.eqv z d
  | _, _, .nil, _ => rfl
  | _, _, .cons w2 ws, e => by
    simp only [List.all_cons, Bool.and_eq_true] at e
    have ih := mem_v w h ws e.2
    unfold inV at ih ⊢
    rw [List.any_cons, List.any_cons, ih, eqv_v w2 w e.1 h]
theorem flat_nl {d : D} (h : d.flat = true) (xs : List D) : d ≠ .lst xs := fun e => by subst e; cases h
theorem memB_ok {G H : Hp} {ca : Option Addr} {c : C} {x y : V} {dx dy : D} {b : Bool} {Q : VK} (neg : Bool) (rs : RS0 (yOf X Z) G ca H c) (w1 : WtS (yOf X Z) G H ca x dx) (w2 : WtS (yOf X Z) G H ca y dy) (e : D.memB dx dy = some b) :
    (Q (.bl (if neg then !b else b)) H → rIn X.K neg x y H Q) ∨ (dx.shal 60 = true ∧ dy.shal 60 = true ∧ ∃ ys, dy = .lst ys ∧ b = ys.any fun z => D.eqv z dx) := by
  unfold D.memB at e
  cases ey : dy.items with
  | none => rw [ey] at e; cases e
  | some ys =>
    rw [ey] at e
    dsimp only at e
    by_cases hf : (dx.flat && ys.all D.flat) = true
    · rw [if_pos hf] at e
      rw [Bool.and_eq_true] at hf
      cases e
      left
      have t1 := (w1.atom (flat_nl hf.1)).mono rs.le fun _ h => h
      intro q
      cases dy <;> first | cases ey | skip
      · obtain ⟨a, vs, rfl, h1, z1, _⟩ := w2.tup rs
        have z1 := z1.mono rs.le fun _ h => h
        exact ⟨a, vs, rfl, .inr h1, flat_v t1 hf.1, flat_vs z1 hf.2, by rw [mem_v t1 hf.1 z1 hf.2]; exact q⟩
      · obtain ⟨a, vs, rfl, h1, z1, _⟩ := w2.lst rs
        have z1 := z1.mono rs.le fun _ h => h
        exact ⟨a, vs, rfl, .inl (sql h1), flat_v t1 hf.1, flat_vs z1 hf.2, by rw [mem_v t1 hf.1 z1 hf.2]; exact q⟩
    · rw [if_neg hf] at e
      cases dy <;> first | cases e | skip
      rename_i zs
      cases ey
      dsimp only at e
      by_cases hs : (dx.shal 60 && (D.lst ys).shal 60) = true
      · rw [if_pos hs] at e
        cases e
        rw [Bool.and_eq_true] at hs
        exact .inr ⟨hs.1, hs.2, ys, rfl, rfl⟩
      · rw [if_neg hs] at e
        cases e
theorem any_py {dx : D} (hx : dx.shal 60 = true) : ∀ {ys : List D}, ys.all (D.shal 59) = true → ((D.pys ys).any fun z => PyData.eqv z dx.py) = ys.any fun z => D.eqv z dx
  | [], _ => by simp only [D.pys, List.any_nil]
  | y :: ys, h => by
    simp only [List.all_cons, Bool.and_eq_true] at h
    simp only [D.pys, List.any_cons, eqv_py 59 60 y dx h.1 hx, any_py hx h.2]
theorem od_mem (hu : X.A.units + 65 < cLine) : OpD X Z (compareOp .In) D.mem := ⟨_, op_in_seq.or (op_inD hu), fun G ca H c x y dx dy d Q rs w1 w2 e q => by
  unfold D.mem at e
  rw [Option.map_eq_some_iff] at e
  obtain ⟨b, e, rfl⟩ := e
  rcases memB_ok (Q := Q) false rs w1 w2 e with k | ⟨h1, h2, ys, rfl, rfl⟩
  · exact .inl (k (q.here rs (.bl _)))
  · refine .inr ⟨dx.py, D.pys ys, (w1.all rs).dp h1, by simpa only [D.py] using (w2.all rs).dp h2, shal_shaped h1, by simpa only [D.py] using shal_shaped h2, ?_⟩
    rw [any_py h1 (by simpa only [D.shal] using h2)]
    exact q.here rs (.bl _)⟩
theorem od_nmem (hu : X.A.units + 65 < cLine) : OpD X Z (compareOp .NotIn) D.nmem := ⟨_, op_notIn_seq.or (op_notInD hu), fun G ca H c x y dx dy d Q rs w1 w2 e q => by
  unfold D.nmem at e
  rw [Option.map_eq_some_iff] at e
  obtain ⟨b, e, rfl⟩ := e
  rcases memB_ok (Q := Q) true rs w1 w2 e with k | ⟨h1, h2, ys, rfl, rfl⟩
  · exact .inl (k (q.here rs (.bl _)))
  · refine .inr ⟨dx.py, D.pys ys, (w1.all rs).dp h1, by simpa only [D.py] using (w2.all rs).dp h2, shal_shaped h1, by simpa only [D.py] using shal_shaped h2, ?_⟩
    rw [any_py h1 (by simpa only [D.shal] using h2)]
    exact q.here rs (.bl _)⟩
/-! ### subscripts and slices -/
theorem ixD_N (n : Nat) (i : Int) : ixD n i = ixN n i := rfl
theorem xd_ix : IxD X Z D.ix := ⟨_, ix_seq, fun G ca H c x y dx dy d Q rs w1 w2 e q => by
  cases dx <;> first | cases e | skip
  · cases dy <;> first | cases e | skip
    rename_i xs i
    simp only [D.ix, Option.bind_eq_some_iff] at e
    obtain ⟨j, e1, e2⟩ := e
    obtain ⟨a, vs, rfl, h1, z1, _⟩ := w1.tup rs
    obtain ⟨v, e3, w⟩ := z1.get e2
    refine .inr (.inl ⟨a, vs, i, v, rfl, w2.int, h1, ?_, q.here rs w⟩)
    unfold atI
    rw [z1.length, ← ixD_N, e1]
    exact e3
  · cases dy <;> first | cases e | skip
    rename_i xs i
    simp only [D.ix, Option.bind_eq_some_iff] at e
    obtain ⟨j, e1, e2⟩ := e
    obtain ⟨a, vs, rfl, h1, z1, _⟩ := w1.lst rs
    obtain ⟨v, e3, w⟩ := z1.get e2
    refine .inl ⟨a, vs, i, v, rfl, w2.int, sql h1, ?_, q.here rs w⟩
    unfold atI
    rw [z1.length, ← ixD_N, e1]
    exact e3⟩
theorem cut_sIx (n d : Nat) (o : Option Int) : cutAt n d o = HT.sIx n d o := by cases o <;> rfl
theorem cutD_w {G : Hp} {ca : Option Addr} {vs : List V} {ds : List D} (w : Wts Y G ca vs ds) (lo hi : Option Int) : Wts Y G ca (cutV vs lo hi) (cutD ds lo hi) := by
  unfold cutV cutD
  rw [cut_sIx, cut_sIx, w.length]
  exact (w.drop _).take _
theorem cutD_len (xs : List D) (lo hi : Option Int) : (cutD xs lo hi).length ≤ xs.length := by
  unfold cutD
  rw [List.length_take, List.length_drop]
  omega
theorem cutD_all {xs : List D} {lo hi : Option Int} (h1 : cutAt xs.length 0 lo = 0) (h2 : cutAt xs.length xs.length hi = xs.length) : cutD xs lo hi = xs := by
  unfold cutD
  rw [h1, h2]
  simp
theorem sd_tup : SlD X Z D.slT := ⟨_, sl_tupA, fun G ca H c x dx d lo hi Q rs w1 e q => by
  cases dx <;> first | cases e | skip
  rename_i xs
  have t1 := w1.atom (fun _ e => by cases e)
  obtain ⟨a, vs, rfl, h1, z1, hl⟩ := w1.tup rs
  refine ⟨a, vs, rfl, h1, fun ⟨e1, e2⟩ => ?_, fun _ p hp => q.tup rs (cutD_w z1 lo hi) (Nat.le_trans (cutD_len _ _ _) hl) hp⟩
  rw [z1.length, ← cut_sIx] at e1 e2
  rw [cutD_all e1 e2] at q
  exact q.here rs t1⟩
theorem sdo_lst : SlDO X Z D.slL := ⟨_, sl_list, fun G ca H c x dx d lo hi Q rs w1 e => by
  cases dx <;> first | cases e | skip
  rename_i xs
  obtain ⟨a, vs, rfl, h1, z1, hl⟩ := w1.lst rs
  exact ⟨_, rfl, fun q => ⟨a, vs, rfl, sql h1, fun p hp => q.new rs (cutD_w z1 lo hi) (Nat.le_trans (cutD_len _ _ _) hl) hp⟩⟩⟩
/-! ### built-ins -/
theorem arg1 {G H : Hp} {ca : Option Addr} {xs : List V} {d : D} (w : WtSs Y G H ca xs [d]) : ∃ x, xs = [x] ∧ WtS Y G H ca x d := Paired.one w
theorem arg2 {G H : Hp} {ca : Option Addr} {xs : List V} {d e : D} (w : WtSs Y G H ca xs [d, e]) : ∃ x y, xs = [x, y] ∧ WtS Y G H ca x d ∧ WtS Y G H ca y e := Paired.two w
theorem one_of {F : D → Option D} {ds : List D} {d : D} (h : (match ds with
    | [x] => F x
    | _ => none) = some d) : ∃ x, ds = [x] ∧ F x = some d := by
  match ds, h with
  | [x], h => exact ⟨x, rfl, h⟩
theorem cd_len : CallD X Z (.builtin "len") bLen := ⟨_, call_len_seq.or call_len_str, fun G ca H c xs ds d Q rs w0 e q => by
  unfold bLen at e
  split at e <;> first | cases e | skip
  · obtain ⟨x, rfl, w⟩ := arg1 w0
    obtain ⟨a, vs, rfl, h1, z1, _⟩ := w.tup rs
    exact .inl ⟨a, vs, rfl, .inr h1, by rw [z1.length]; exact q.here rs (.int _)⟩
  · obtain ⟨x, rfl, w⟩ := arg1 w0
    obtain ⟨a, vs, rfl, h1, z1, _⟩ := w.lst rs
    exact .inl ⟨a, vs, rfl, .inl (sql h1), by rw [z1.length]; exact q.here rs (.int _)⟩
  · rename_i z
    obtain ⟨x, rfl, w⟩ := arg1 w0
    by_cases hz : z.length ≤ sizeL
    · rw [if_pos hz] at e
      cases e
      exact .inr ⟨z, by rw [w.str], hz, q.here rs (.int _)⟩
    · rw [if_neg hz] at e
      cases e⟩
theorem cd_abs : CallD X Z (.builtin "abs") bAbs := ⟨_, call_abs, fun G ca H c xs ds d Q rs w0 e q => by
  unfold bAbs at e
  split at e <;> first | cases e | skip
  obtain ⟨x, rfl, w⟩ := arg1 w0
  exact ⟨_, by rw [w.int], q.here rs (.int _)⟩⟩
theorem cd_max2 (hc : X.calm = true) : CallD X Z (.builtin "max") bMax2 := ⟨_, call_max2 hc, fun G ca H c xs ds d Q rs w0 e q => by
  unfold bMax2 at e
  split at e <;> first | cases e | skip
  obtain ⟨x, y, rfl, w, w2⟩ := arg2 w0
  exact ⟨_, _, by rw [w.int, w2.int], q.here rs (.int _)⟩⟩
theorem cd_min2 (hc : X.calm = true) : CallD X Z (.builtin "min") bMin2 := ⟨_, call_min2 hc, fun G ca H c xs ds d Q rs w0 e q => by
  unfold bMin2 at e
  split at e <;> first | cases e | skip
  obtain ⟨x, y, rfl, w, w2⟩ := arg2 w0
  exact ⟨_, _, by rw [w.int, w2.int], q.here rs (.int _)⟩⟩
theorem cd_int : CallD X Z (.type "int") bInt := ⟨_, call_int1, fun G ca H c xs ds d Q rs w0 e q => by
  unfold bInt at e
  split at e <;> first | cases e | skip
  · obtain ⟨x, rfl, w⟩ := arg1 w0
    exact .inl ⟨_, by rw [w.int], q.here rs (.int _)⟩
  · obtain ⟨x, rfl, w⟩ := arg1 w0
    exact .inr ⟨_, by rw [w.bool], q.here rs (.int _)⟩⟩
theorem cd_tuple : CallD X Z (.type "tuple") bTuple := ⟨_, call_tuple_of, fun G ca H c xs ds d Q rs w0 e q => by
  unfold bTuple at e
  split at e <;> first | cases e | skip
  · obtain ⟨x, rfl, w⟩ := arg1 w0
    have t1 := w.atom (fun _ e => by cases e)
    obtain ⟨a, vs, rfl, h1, z1, _⟩ := w.tup rs
    exact ⟨a, vs, rfl, .inr ⟨h1, q.here rs t1⟩⟩
  · obtain ⟨x, rfl, w⟩ := arg1 w0
    obtain ⟨a, vs, rfl, h1, z1, hl⟩ := w.lst rs
    exact ⟨a, vs, rfl, .inl ⟨sql h1, fun p hp => q.tup rs z1 hl hp⟩⟩⟩
theorem cdo_list : CallDO X Z (.type "list") bList := ⟨_, call_list_of, fun G ca H c xs ds d Q rs w0 e => by
  unfold bList at e
  split at e <;> first | cases e | skip
  · obtain ⟨x, rfl, w⟩ := arg1 w0
    obtain ⟨a, vs, rfl, h1, z1, hl⟩ := w.tup rs
    exact ⟨_, rfl, fun q => ⟨a, vs, rfl, .inr h1, fun p hp => q.new rs z1 hl hp⟩⟩
  · obtain ⟨x, rfl, w⟩ := arg1 w0
    obtain ⟨a, vs, rfl, h1, z1, hl⟩ := w.lst rs
    exact ⟨_, rfl, fun q => ⟨a, vs, rfl, .inl (sql h1), fun p hp => q.new rs z1 hl hp⟩⟩⟩
theorem cd_sum (hc : X.calm = true) : CallD X Z (.builtin "sum") bSum := ⟨_, cr_sum hc, fun G ca H c xs ds d Q rs w0 e q => by
  unfold bSum at e
  split at e <;> first | cases e | skip
  obtain ⟨x, rfl, w⟩ := arg1 w0
  obtain ⟨a, vs, rfl, h1, z1, hl⟩ := w.lst rs
  rw [Option.map_eq_some_iff] at e
  obtain ⟨ns, e1, rfl⟩ := e
  exact ⟨a, ns, rfl, by rw [← z1.ints e1]; exact sql h1, q.here rs (.int _)⟩⟩
theorem cd_all (hc : X.calm = true) : CallD X Z (.builtin "all") bAll := ⟨_, cr_all hc, fun G ca H c xs ds d Q rs w0 e q => by
  unfold bAll at e
  split at e <;> first | cases e | skip
  obtain ⟨x, rfl, w⟩ := arg1 w0
  obtain ⟨a, vs, rfl, h1, z1, hl⟩ := w.lst rs
  rw [Option.map_eq_some_iff] at e
  obtain ⟨ns, e1, rfl⟩ := e
  exact ⟨a, ns, rfl, by rw [← z1.bools e1]; exact sql h1, q.here rs (.bl _)⟩⟩
theorem cd_any (hc : X.calm = true) : CallD X Z (.builtin "any") bAny := ⟨_, cr_any hc, fun G ca H c xs ds d Q rs w0 e q => by
  unfold bAny at e
  split at e <;> first | cases e | skip
  obtain ⟨x, rfl, w⟩ := arg1 w0
  obtain ⟨a, vs, rfl, h1, z1, hl⟩ := w.lst rs
  rw [Option.map_eq_some_iff] at e
  obtain ⟨ns, e1, rfl⟩ := e
  exact ⟨a, ns, rfl, by rw [← z1.bools e1]; exact sql h1, q.here rs (.bl _)⟩⟩
theorem tyx {G H : Hp} {ca : Option Addr} {c : C} {v : V} {d : D} (rs : RS0 Y G ca H c) (w : WtS Y G H ca v d) (h : d.kind ≤ 5) : TyX Y.K H v (.type (match d.kind with
    | 0 => "NoneType"
    | k => tyName k)) := by
  rcases w.all rs with _ | _ | _ | _ | ⟨h1, _, _⟩ | ⟨h1, _, _⟩ | _ | _ | _ | _
  · exact .base .non
  · exact .base (.bl _)
  · exact .base (.int _)
  · exact .base (.str _)
  · rcases h1 with (h1 | ⟨o, h1⟩) | ⟨o, its, n, h1, h2, _⟩
    · exact .base (.tup h1)
    · exact .fTuple h1
    · exact .kTuple h1 h2
  · exact .base (.lst h1)
  · exact absurd h (by show ¬ (9 ≤ 5); decide)
  · exact absurd h (by show ¬ (9 ≤ 5); decide)
  · exact absurd h (by show ¬ (9 ≤ 5); decide)
  · exact absurd h (by show ¬ (9 ≤ 5); decide)
theorem kit_all : ∀ k t : Nat, k ≤ 5 → 1 ≤ t → t ≤ 5 → kitB (match k with
    | 0 => "NoneType"
    | k => tyName k) (tyName t) = some (k == t || (k == 1 && t == 2)) := by
  intro k t h1 h2 h3
  have hk : k = 0 ∨ k = 1 ∨ k = 2 ∨ k = 3 ∨ k = 4 ∨ k = 5 := by omega
  have ht : t = 1 ∨ t = 2 ∨ t = 3 ∨ t = 4 ∨ t = 5 := by omega
  rcases hk with rfl | rfl | rfl | rfl | rfl | rfl <;> rcases ht with rfl | rfl | rfl | rfl | rfl <;> decide +kernel
theorem cd_isi : CallD X Z (.builtin "isinstance") bIsi := ⟨_, call_isi, fun G ca H c xs ds d Q rs w0 e q => by
  unfold bIsi at e
  split at e <;> first | cases e | skip
  rename_i x t
  by_cases hk : x.kind ≤ 5 ∧ 1 ≤ t ∧ t ≤ 5
  · rw [if_pos hk] at e
    cases e
    obtain ⟨v, u, rfl, w, w2⟩ := arg2 w0
    refine ⟨v, u, _, .type (tyName t), _, rfl, by rw [w2.ty]; exact .ty _, tyx rs w hk.1, kit_ty (kit_all _ _ hk.1 hk.2.1 hk.2.2), q.here rs (.bl _)⟩
  · rw [if_neg hk] at e
    cases e⟩
theorem pd_ty {T : String} {k : Nat} {pos : Pos} (hg : Gl X T) (hm : X.mg T = none) (hv : bootBuiltins T = some (.type T)) (hn : (T : Str) ≠ "__name__") (hd : ((T : Str) == ("__debug__" : Str)) = false) (hk : tyName k = T) : PD X Z N W (.Name T pos) (dC (.ty k)) :=
  pd_c (pe_bltn (v := .ty T) hg hm hv rfl hn hd) fun _ _ => by rw [← hk]; exact .ty k
end
end DL

set_option Elab.async false
set_option linter.all false
set_option maxRecDepth 100000
set_option maxHeartbeats 4000000
set_option autoImplicit false
namespace DL
open PySem PySem.Spec PyProof.Rows L2
/-! ### a def, by its body -/
section
variable {P : Program} {w : World} {K : PySem.W.Frag} {mg : Str → Option Value} {base : Heap} {Z : Zp}
theorem rs_start {Y : Yp} {G H : Hp} {ca : Option Addr} {c : C} {vs : List V} {ds : List D} {Nm : List Str} (r : RS0 Y G ca H c) (w : Wts Y G ca vs ds) : RS Y ⟨G, ca, H⟩ G ca (L2.start Nm vs) H (ds.map .val ++ List.replicate (Nm.length - ds.length) .no) c where
  r0 := r
  st := .refl
  len := by
    unfold L2.start
    rw [List.length_append, List.length_append, List.length_map, List.length_map, List.length_replicate, List.length_replicate, w.length]
  val := fun i d h => by
    have hlt : i < ds.length := by
      by_cases hlt : i < ds.length
      · exact hlt
      · rw [List.getElem?_append_right (by rw [List.length_map]; omega), List.getElem?_replicate] at h
        split at h <;> cases h
    rw [List.getElem?_append_left (by rw [List.length_map]; exact hlt), List.getElem?_map, Option.map_eq_some_iff] at h
    obtain ⟨d', h1, h2⟩ := h
    cases h2
    obtain ⟨v, h3, h4⟩ := w.get h1
    refine ⟨v, ?_, h4⟩
    unfold L2.start
    rw [List.getElem?_append_left (by rw [List.length_map, w.length]; exact hlt), List.getElem?_map, h3]
    rfl
  own := fun i xs h => by
    exfalso
    by_cases hlt : i < ds.length
    · rw [List.getElem?_append_left (by rw [List.length_map]; exact hlt), List.getElem?_map, Option.map_eq_some_iff] at h
      obtain ⟨d', h1, h2⟩ := h
      cases h2
    · rw [List.getElem?_append_right (by rw [List.length_map]; omega), List.getElem?_replicate] at h
      split at h <;> cases h
  sep := fun i j xs ys a h => by
    exfalso
    by_cases hlt : i < ds.length
    · rw [List.getElem?_append_left (by rw [List.length_map]; exact hlt), List.getElem?_map, Option.map_eq_some_iff] at h
      obtain ⟨d', h1, h2⟩ := h
      cases h2
    · rw [List.getElem?_append_right (by rw [List.length_map]; omega), List.getElem?_replicate] at h
      split at h <;> cases h
/-- what a semantics promises, another keeps -/
def SemLe (n : Nat) (sem sem' : DL.Sem) : Prop := ∀ ds c, ds.length = n → sem ds c = .st ∨ sem ds c = sem' ds c
theorem SemLe.refl (n : Nat) (sem : DL.Sem) : SemLe n sem sem := fun _ _ _ => .inr rfl
theorem okN {x qual : Str} {st : Stmt} {f : Addr} {fd : FuncData} {N ps : List Str} {k : Nat} {sp : Sp} (F : L2.Fun K x qual st f fd) (S : FnScope N ps (defScope st)) (len : ∀ vs H Q E, sp vs H Q E → vs.length = ps.length)
    (hbody : ∀ (cdv : Value) (A : Around) (outer : List PySem.Env) (s : Shared) (H : Hp) (vs : List V) (Q : VK) (E : XK), Room k (A.deeper (envOfC qual (defScope st) s.heap.objs.size f cdv)) → sp vs H Q E →
      ∃ t, PSs (cxOf (L2N.CX P w) P w K mg base N qual (defScope st) f cdv A outer s H E) (defBody st) t ∧ t { nx := fun _ H' => Q .non H', rt := Q } (L2.start N vs) H) : FnOk P w K mg base (L2N.CX P w) (k + 1) f fd ps sp := by
  obtain ⟨oc, od, kV, doc, pm, an, cdv, ct, osl, rfl, lk, hcd⟩ := F.ex
  exact fn_of lk hcd S len fun A outer s H vs Q E hr hsp => hbody cdv A outer s H vs Q E hr hsp
theorem takesN0 {X : Cx} : L2N.Takes X (fun _ _ _ _ => False) := fun _ _ x => by
  obtain ⟨_, _, _, _, _, _, _, _, _, _, _, _, _, _, _, _, z⟩ := x
  exact z.elim
theorem fnD {x : Str} {st : Stmt} {f : Addr} {fd : FuncData} {Nm ps : List Str} {k n : Nat} {sem : DL.Sem} {den : DS} (F : L2.Fun K x x st f fd) (S : FnScope Nm ps (defScope st)) (hm : mg x = some (.ref f)) (hb : Binds K fd ps []) (hn : ps.length = n)
    (hsem : SemLe n sem (runF Nm.length den))
    (body : ∀ (cdv : Value) (A : Around) (outer : List PySem.Env) (s : Shared) (H : Hp) (E : XK) (En : En), Room k (A.deeper (envOfC x (defScope st) s.heap.objs.size f cdv)) →
      PSsD (cxOf (L2N.CX P w) P w K mg base Nm x (defScope st) f cdv A outer s H E) Z En (fun cls d _ H => E cls d H) (defBody st) den) : FnD P w K mg base Z (k + 1) x n sem := by
  refine ⟨f, fd, ps, hm, F.kp, hb, hn, okN F S (fun vs H Q E h => h.1.trans hn.symm) fun cdv A outer s H vs Q E hr h => ?_⟩
  obtain ⟨hl, G, ca, c, ds, r, w, h⟩ := h
  have hd : ds.length = n := by rw [← w.length]; exact hl
  refine ⟨_, body cdv A outer s H E ⟨G, ca, H⟩ hr, G, ca, _, c, rs_start r w, ?_⟩
  rcases hsem ds c hd with e | e
  · rw [e] at h
    exact h.elim
  · rw [e] at h
    unfold runF at h
    cases e2 : den (ds.map .val ++ List.replicate (Nm.length - ds.length) .no) c with
    | nx env c' =>
      rw [e2] at h
      exact fun G' ca' σ H' r' g => h G' ca' H' .non r'.st r'.r0 .non
    | rt d c' =>
      rw [e2] at h
      exact fun G' ca' H' v s r w => h G' ca' H' v s r w
    | er x env c' =>
      rw [e2] at h
      exact fun cls dd G' ca' σ H' h1 r' => h cls dd G' ca' H' h1 r'.st r'.r0
    | _ => rw [e2] at h; exact h.elim
end
end DL

set_option Elab.async false
set_option linter.all false
set_option maxRecDepth 100000
set_option maxHeartbeats 4000000
set_option autoImplicit false
namespace DL
open PySem PySem.Spec PyProof.Rows L2
section
variable {X : Cx} {Z : Zp} {N : En} {W : WX} {Y : Yp}
theorem od_addA : OpD X Z (binaryOp .Add) D.addA := opd_or od_add (opdo odo_cat)
theorem od_mulA : OpD X Z (binaryOp .Mult) D.mulA := opd_or od_mul (opd_or (opdo odo_rep) od_repT)
theorem sd_or {g g' : D → Option Int → Option Int → Option D} (h : SlD X Z g) (h' : SlD X Z g') : SlD X Z (fun x a b => (g x a b).or (g' x a b)) := by
  obtain ⟨r, h1, h2⟩ := h
  obtain ⟨r', h1', h2'⟩ := h'
  refine ⟨_, L2.SlR.or h1 h1', fun G ca H c x dx d lo hi Q rs w e k => ?_⟩
  dsimp only at e
  cases e1 : g dx lo hi with
  | some d' => rw [e1] at e; cases e; exact .inl (h2 _ _ _ _ _ _ _ _ _ _ rs w e1 k)
  | none => rw [e1] at e; exact .inr (h2' _ _ _ _ _ _ _ _ _ _ rs w e k)
theorem sd_any : SlD X Z D.slA := sd_or sd_tup (sldo sdo_lst)
theorem units65 {A : Around} {k : Nat} (hr : Room k A) : A.units + 65 < cLine := by have := hr.un; omega
/-! ### the cup -/
theorem pd_cup {i k : Nat} {x : Str} {p p2 pos : Pos} {j : Nat} (hN : X.N[i]? = some x) (hv : Vis X.env.scope x) (hd : (x == ("__debug__" : Str)) = false) (hcd : (x == ("__classdict__" : Str)) = false) (hk : k < 2) :
    PD X Z N W (.Subscript (.Name x p) (.Constant (.int (k : Nat)) j p2) pos) (dCup i k) := by
  refine pe_imp (pe_ix ix_list (pe_var hN hv hd hcd) pe_int (fun _ _ => rfl)) fun σ H Q h => ?_
  obtain ⟨G, ca, env, c, r, h⟩ := h
  unfold dCup at h
  cases e : env[i]? with
  | none => rw [e] at h; exact h.elim
  | some s =>
    rw [e] at h
    cases s with
    | val d =>
      cases d with
      | cup =>
        obtain ⟨v, h1, h2⟩ := r.val i _ e
        cases h2 with
        | cup hc =>
          obtain ⟨q1, q2⟩ := r.r0.cup _ hc
          refine ⟨_, h1, _, _, ((k : Nat) : Int), .int (cupGet c k), rfl, rfl, sql q1, ?_, h G ca H _ .refl r (.int _)⟩
          have : k = 0 ∨ k = 1 := by omega
          rcases this with rfl | rfl <;> rfl
      | _ => exact h.elim
    | _ => exact h.elim
theorem RS.cupPut {G H : Hp} {a : Addr} {ca : Option Addr} {σ : L2.St} {env : DL.Env} {c c' : C} (r : RS Y N G ca σ H env c) (hc : ca = some a) : RS Y N G ca σ (upd H a (.lst [.int c'.a, .int c'.b])) env c' where
  r0 := by
    obtain ⟨q1, q2⟩ := r.r0.cup a hc
    refine ⟨fun b u h => by rw [upd_ne (ne_of_none h q2)]; exact r.r0.le b u h, fun p hp => ?_, fun b h => ?_, r.r0.nt⟩
    · obtain ⟨ps, h1, h2, h3⟩ := r.r0.tab p hp
      have ne : ∀ b u, H b = some u → (∀ zs, u ≠ .lst zs) → b ≠ a := fun b u e n z => by subst z; rw [q1] at e; cases e; exact n _ rfl
      refine ⟨ps, by rw [upd_ne (ne _ _ h1 fun zs z => by cases z)]; exact h1, h2, fun pos cv hcv => ?_⟩
      obtain ⟨c', e1, e2⟩ := h3 pos cv hcv
      exact ⟨c', e1, by rw [upd_ne (ne _ _ e2 fun zs z => by unfold LamX.CodeO at z; cases z)]; exact e2⟩
    · rw [hc] at h
      cases h
      exact ⟨upd_same, q2⟩
  st := by
    refine ⟨r.st.le, r.st.nw, fun b h => ?_, fun b o h n k => ?_, r.st.cl, r.st.cn⟩
    · by_cases e : b = a
      · subst e; exact ((h.no (upd_same (H := H) (o := .lst [.int c'.a, .int c'.b])) notbl)).elim
      · exact r.st.dm b fun u hu => h u (by rw [upd_ne e]; exact hu)
    · have e : b ≠ a := fun e => by
        subst e
        rcases r.st.cn b hc with z | z
        · exact k z
        · exact z.no h n
      rw [upd_ne e]
      exact r.st.fr b o h n k
  len := r.len
  val := r.val
  own := fun i xs h => by
    obtain ⟨b, us, h1, h2, h3, h4, h5, h6⟩ := r.own i xs h
    refine ⟨b, us, h1, ?_, h3, h4, h5, h6⟩
    rw [upd_ne fun z => h5 (by rw [hc, z])]
    exact h2
  sep := r.sep
theorem psd_cup {i k : Nat} {x : Str} {e : Expr} {f : DE} {p p2 tpos pos : Pos} {j : Nat} (hN : X.N[i]? = some x) (hv : Vis X.env.scope x) (hd : (x == ("__debug__" : Str)) = false) (hcd : (x == ("__classdict__" : Str)) = false) (hk : k < 2) (he : PD X Z N W e f)
    (hs : swapsWithSole [.Subscript (.Name x p) (.Constant (.int (k : Nat)) j p2) tpos] e pos.line X.env = pure false := by rfl) (hw : swappedStores [.Subscript (.Name x p) (.Constant (.int (k : Nat)) j p2) tpos] e X.env = pure none := by rfl) :
    PSD X Z N W (.Assign [.Subscript (.Name x p) (.Constant (.int (k : Nat)) j p2) tpos] e pos) (sCup i k f) :=
  ps_imp (ps_asg he (pg_sub (pe_var hN hv hd hcd) pe_int set_list (fun _ => rfl)) hs hw rfl) fun D σ H ⟨G, ca, env, c, rs, q⟩ => by
    refine ⟨G, ca, env, c, rs, ?_⟩
    simp only [sCup] at q
    cases e1 : env[i]? with
    | none => rw [e1] at q; exact q.elim
    | some sl =>
      rw [e1] at q
      cases sl with
      | val d =>
        cases d with
        | cup =>
          dsimp only at q
          cases e4 : f env c with
          | st => rw [e4] at q; exact q
          | er z c1 => rw [e4] at q; exact fun cls dd G' ca' H' h1 h2 h3 => q cls dd G' ca' σ H' h1 h3
          | ok rv c1 =>
            rw [e4] at q
            intro G1 ca1 H1 v s1 r1 w1
            simp only [F.of] at q
            cases e6 : rv.d with
            | int m =>
              rw [e6] at q
              obtain ⟨u, h1, h2⟩ := r1.val i _ e1
              cases h2 with
              | cup hc =>
                rename_i a
                obtain ⟨q1, q2⟩ := r1.r0.cup _ hc
                refine ⟨_, h1, a, _, ((k : Nat) : Int), k, rfl, rfl, q1, ?_, ?_⟩
                · have : k = 0 ∨ k = 1 := by omega
                  rcases this with rfl | rfl <;> rfl
                · have q : Fin (yOf X Z) N W D G1 ca1 (.nx env (cupPut c1 k m)) := Fin.up q s1.gr
                  have hv : v = .int m := atom_int w1 e6
                  subst hv
                  have e7 : ([V.int c1.a, V.int c1.b].set k (V.int m)) = [V.int (cupPut c1 k m).a, V.int (cupPut c1 k m).b] := by
                    have : k = 0 ∨ k = 1 := by omega
                    rcases this with rfl | rfl <;> rfl
                  rw [e7]
                  exact q G1 ca1 σ _ (r1.cupPut hc) .refl
            | _ => rw [e6] at q; exact q.elim
        | _ => exact q.elim
      | _ => exact q.elim
end
end DL

set_option Elab.async false
set_option linter.all false
set_option maxRecDepth 100000
set_option maxHeartbeats 4000000
set_option autoImplicit false
namespace DL
open PySem PySem.Spec PyProof.Rows L2
section
variable {X : Cx} {Z : Zp} {N : En} {W : WX} {Y : Yp}
/-! ### a chain as a test -/
theorem tdt_bl {f : DE} {σ : L2.St} {H : Hp} {Q : Bool → Hp → Prop} (h : tDT Y N W (tBl f) σ H Q) : tD Y N W f σ H (fun x H' => ∃ k, x = .bl k ∧ Q k H') := by
  obtain ⟨G, ca, env, c, rs, h⟩ := h
  refine ⟨G, ca, env, c, rs, ?_⟩
  simp only [tBl] at h
  cases e : f env c with
  | st => rw [e] at h; exact h
  | er x c1 => rw [e] at h; exact h
  | ok rv c1 =>
    rw [e] at h
    simp only [R.bind] at h
    intro G' ca' H' v s r w
    cases e2 : rv.d with
    | bl k =>
      rw [e2] at h
      exact ⟨k, td_bl (H := H') w e2, h G' ca' H' s r⟩
    | _ => rw [e2] at h; exact h.elim
theorem tdchain {op op' : Value → Value → PySem.Sem Value} {g g' : D → D → Option D} {fa fb fc : DE} {r r' : R2} {σ : L2.St} {H : Hp} {Q : VK}
    (h2 : ∀ (G : Hp) (ca : Option Addr) (H : Hp) (c : C) (x y : V) (dx dy d : D) (Q : VK), RS0 Y G ca H c → WtS Y G H ca x dx → WtS Y G H ca y dy → g dx dy = some d → Done Y G ca H c d Q → r x y H Q)
    (h2' : ∀ (G : Hp) (ca : Option Addr) (H : Hp) (c : C) (x y : V) (dx dy d : D) (Q : VK), RS0 Y G ca H c → WtS Y G H ca x dx → WtS Y G H ca y dy → g' dx dy = some d → Done Y G ca H c d Q → r' x y H Q)
    (h : tD Y N W (dChain g g' fa fb fc) σ H Q) : tChain r r' (tD Y N W fa) (tD Y N W fb) (tD Y N W fc) σ H Q := by
  obtain ⟨G, ca, env, c, rs, h⟩ := h
  refine ⟨G, ca, env, c, rs, ?_⟩
  simp only [dChain] at h
  cases e : fa env c with
  | st => rw [e] at h; exact h
  | er x c1 => rw [e] at h; exact h
  | ok x c1 =>
    rw [e] at h
    simp only [R.bind] at h
    intro G1 ca1 H1 vx s1 r1 w1
    refine ⟨G1, ca1, env, c1, r1, ?_⟩
    cases e2 : fb env c1 with
    | st => rw [e2] at h; exact h
    | er z c2 => rw [e2] at h; exact Bad.back h s1
    | ok y c2 =>
      rw [e2] at h
      dsimp only at h
      intro G2 ca2 H2 vy s2 r2 w2
      have s12 := s1.trans s2
      cases e3 : g x.d y.d with
      | none => rw [e3] at h; exact h.elim
      | some d =>
        rw [e3] at h
        refine h2 G2 ca2 H2 c2 vx vy x.d y.d d _ r2.r0 ((w1.step s2).read r2) (w2.read r2) e3 fun G3 H3 v s3 r3 w3 => ?_
        have rs3 := r2.step s3 r3
        have s123 := s12.trans s3
        cases d with
        | bl k =>
          cases w3
          refine ⟨k, rfl, ?_⟩
          cases k with
          | false => exact iteF (h G3 ca2 H3 _ s123 rs3 (.bl false))
          | true =>
            refine iteT ⟨G3, ca2, env, c2, rs3, ?_⟩
            dsimp only at h
            cases e4 : fc env c2 with
            | st => rw [e4] at h; exact h
            | er z c2 => rw [e4] at h; exact Bad.back h s123
            | ok z c4 =>
              rw [e4] at h
              dsimp only at h
              intro G4 ca4 H4 vz s4 r4 w4
              cases e5 : g' y.d z.d with
              | none => rw [e5] at h; exact h.elim
              | some d =>
                rw [e5] at h
                exact h2' G4 ca4 H4 c4 vy vz y.d z.d d _ r4.r0 (((w2.step s3).step s4).read r4) (w4.read r4) e5 fun G5 H5 v s5 r5 w5 => h G5 ca4 H5 v ((s123.trans s4).trans s5) (r4.step s5 r5) w5
        | _ => exact h.elim
theorem pdt_chain {op op' : CmpOp} {a b c : Expr} {g g' : D → D → Option D} {fa fb fc : DE} {pos : Pos} (ho : OpD X Z (compareOp op) g) (ho' : OpD X Z (compareOp op') g') (ha : PD X Z N W a fa) (hb : PD X Z N W b fb) (hc : PD X Z N W c fc)
    (hm : lastMarks [op, op'] [b, c] = false := by with_unfolding_all rfl) : PDT X Z N W (.Compare a [op, op'] [b, c] pos) (tBl (dChain g g' fa fb fc)) := by
  obtain ⟨r, h1, h2⟩ := ho
  obtain ⟨r', h1', h2'⟩ := ho'
  exact pt_imp (pt_chain h1 h1' ha hb hc hm) fun σ H Q h => tdchain (op := compareOp op) (op' := compareOp op') h2 h2' (tdt_bl h)
theorem pdt_cmp {op : CmpOp} {a b : Expr} {fa fb : DE} {g : D → D → Option D} {pos : Pos} (ho : OpD X Z (compareOp op) g) (ha : PD X Z N W a fa) (hb : PD X Z N W b fb) (hm : behindInMarks op b = false) : PDT X Z N W (.Compare a [op] [b] pos) (tBl (dO2 g fa fb)) := by
  obtain ⟨r, h1, h2⟩ := ho
  exact pt_imp (pt_cmpR h1 ha hb hm) fun σ H Q h => td2 h2 (tdt_bl h)
/-! ### several names at once -/
/-- is a no value of the new ones -/
def notNew : List (Nat × Bool) → List V → Addr → Prop
  | (_, true) :: ks, v :: vs, a => v ≠ .ref a ∧ notNew ks vs a
  | (_, false) :: ks, _ :: vs, a => notNew ks vs a
  | _, _, _ => True
/-- the values at hand: H0 is the heap ahead of them -/
inductive ParW (Y : Yp) (N : En) (H0 G : Hp) (ca : Option Addr) (H : Hp) (σ : L2.St) (env : Env) : List (Nat × Bool) → List V → List RV → Prop
  | nil : ParW Y N H0 G ca H σ env [] [] []
  | val {i : Nat} {v : V} {rv : RV} {ks : List (Nat × Bool)} {vs : List V} {rvs : List RV} : WtR Y G ca σ env v rv → ParW Y N H0 G ca H σ env ks vs rvs → ParW Y N H0 G ca H σ env ((i, false) :: ks) (v :: vs) (rv :: rvs)
  | new {i : Nat} {a : Addr} {us : List V} {ds : List D} {ks : List (Nat × Bool)} {vs : List V} {rvs : List RV} : NoO H0 a → H a = some (.lst us) → Wts Y G ca us ds → G a = none → ca ≠ some a → ds.length ≤ sizeL → notNew ks vs a →
      ParW Y N H0 G ca H σ env ks vs rvs → ParW Y N H0 G ca H σ env ((i, true) :: ks) (.ref a :: vs) (.pl (.lst ds) :: rvs)
theorem ParW.notNew {H0 G H : Hp} {ca : Option Addr} {σ : L2.St} {env : Env} {a : Addr} (ha : ¬ NoO H0 a) : ∀ {ks : List (Nat × Bool)} {vs : List V} {rvs : List RV}, ParW Y N H0 G ca H σ env ks vs rvs → DL.notNew ks vs a
  | _, _, _, .nil => trivial
  | _, _, _, .val _ r => r.notNew ha
  | _, _, _, .new h _ _ _ _ _ _ r => ⟨fun e => by cases e; exact ha h, r.notNew ha⟩
theorem ParW.back {H0 H1 G H : Hp} {ca : Option Addr} {σ : L2.St} {env : Env} (hb : ∀ a, NoO H1 a → NoO H0 a) : ∀ {ks : List (Nat × Bool)} {vs : List V} {rvs : List RV}, ParW Y N H1 G ca H σ env ks vs rvs → ParW Y N H0 G ca H σ env ks vs rvs
  | _, _, _, .nil => .nil
  | _, _, _, .val w r => .val w (r.back hb)
  | _, _, _, .new h h1 h2 h3 h4 h5 h6 r => .new (hb _ h) h1 h2 h3 h4 h5 h6 (r.back hb)
def tDM (Y : Yp) (N : En) (W : WX) (ks : List (Nat × Bool)) (f : DA) : TA := fun σ H Q => ∃ G ca env c, RS Y N G ca σ H env c ∧ (match f env c with
  | .ok rvs c' => ∀ G' ca' H' vs, Stp G ca H G' ca' H' → RS Y N G' ca' σ H' env c' → ParW Y N H G' ca' H' σ env ks vs rvs → Q vs H'
  | .er x c' => Bad Y N W σ env x c' G ca H
  | .st => False)
abbrev PDM (X : Cx) (Z : Zp) (N : En) (W : WX) (ks : List (Nat × Bool)) (es : List Expr) (fs : List DE) : Prop := PA X es (tDM (yOf X Z) N W ks (dArgs fs))
theorem pdm_nil : PDM X Z N W [] [] [] := pa_imp pa_nil fun σ H Q ⟨G, ca, env, c, r, h⟩ => h _ _ _ [] .refl r .nil
theorem pdm_val {i : Nat} {ks : List (Nat × Bool)} {e : Expr} {es : List Expr} {f : DE} {fs : List DE} (ha : PD X Z N W e f) (hr : PDM X Z N W ks es fs) (hs : starEach (e :: es) X.env = (false, eval e X.env) :: starEach es X.env := by rfl) : PDM X Z N W ((i, false) :: ks) (e :: es) (f :: fs) := by
  refine pa_imp (pa_cons ha hr hs) fun σ H Q h => ?_
  obtain ⟨G, ca, env, c, rs, h⟩ := h
  refine ⟨G, ca, env, c, rs, ?_⟩
  simp only [dArgs] at h
  cases e : f env c with
  | st => rw [e] at h; exact h
  | er x c1 => rw [e] at h; exact h
  | ok x c1 =>
    rw [e] at h
    simp only [R.bind] at h
    intro G1 ca1 H1 vx s1 r1 w1
    refine ⟨G1, ca1, env, c1, r1, ?_⟩
    cases e2 : dArgs fs env c1 with
    | st => rw [e2] at h; exact h
    | er z c2 => rw [e2] at h; exact Bad.back h s1
    | ok ys c2 =>
      rw [e2] at h
      intro G2 ca2 H2 vs s2 r2 w2
      exact h G2 ca2 H2 (vx :: vs) (s1.trans s2) r2 (.val (w1.step s2) (w2.back fun a z => s1.dm a z))
theorem pdm_new {i : Nat} {ks : List (Nat × Bool)} {e : Expr} {es : List Expr} {f : DE} {fs : List DE} (ha : PDO X Z N W e f) (hf : ∀ env c c' rv, f env c = .ok rv c' → ∃ ds, rv = .pl (.lst ds)) (hr : PDM X Z N W ks es fs) (hs : starEach (e :: es) X.env = (false, eval e X.env) :: starEach es X.env := by rfl) : PDM X Z N W ((i, true) :: ks) (e :: es) (f :: fs) := by
  refine pa_imp (pa_cons ha hr hs) fun σ H Q h => ?_
  obtain ⟨G, ca, env, c, rs, h⟩ := h
  refine ⟨G, ca, env, c, rs, ?_⟩
  simp only [dArgs] at h
  cases e : f env c with
  | st => rw [e] at h; exact h
  | er x c1 => rw [e] at h; exact h
  | ok x c1 =>
    rw [e] at h
    simp only [R.bind] at h
    obtain ⟨ds, rfl⟩ := hf _ _ _ _ e
    refine ⟨ds, rfl, fun G1 ca1 H1 a us s1 r1 hn hA gA nA w1 l1 => ?_⟩
    refine ⟨G1, ca1, env, c1, r1, ?_⟩
    cases e2 : dArgs fs env c1 with
    | st => rw [e2] at h; exact h
    | er z c2 => rw [e2] at h; exact Bad.back h s1
    | ok ys c2 =>
      rw [e2] at h
      intro G2 ca2 H2 vs s2 r2 w2
      have hA2 : H2 a = some (.lst us) := s2.fr a _ hA notbl nA
      have gA2 : G2 a = none := by
        cases q : G2 a with
        | none => rfl
        | some o =>
          rcases s2.nw a o q with z | z
          · rw [gA] at z; cases z
          · exact (z.no hA notbl).elim
      have nA2 : ca2 ≠ some a := fun q => by
        rcases s2.cn a q with z | z
        · exact nA z
        · exact z.no hA notbl
      exact h G2 ca2 H2 (.ref a :: vs) (s1.trans s2) r2 (.new hn hA2 (Wts.mono s2.le s2.cl w1) gA2 nA2 l1 (w2.notNew fun z => z.no hA notbl) (w2.back fun a z => s1.dm a z))
/-! ### .. stored -/
def stS : List (Nat × Bool) → List V → L2.St → L2.St
  | (i, _) :: ks, v :: vs, σ => stS ks vs (σ.set i (some v))
  | _, _, σ => σ
def Apart (ks : List (Nat × Bool)) (vs : List V) (σ : L2.St) (env : Env) : Prop := ∀ (j : Nat) (xs : List D) (a : Addr), env[j]? = some (.own xs) → σ[j]? = some (some (.ref a)) → notNew ks vs a
theorem wtr_pl {G : Hp} {ca : Option Addr} {σ : L2.St} {env : Env} {v : V} {d : D} (w : WtR Y G ca σ env v (.pl d)) : Wt Y G ca v d := w
theorem RS.par {H0 G H : Hp} {ca : Option Addr} {c : C} {σ0 : L2.St} {env0 : Env} (hN : ∀ a, NoO H0 a → NoO N.H a) {ks : List (Nat × Bool)} {vs : List V} {rvs : List RV} (p : ParW Y N H0 G ca H σ0 env0 ks vs rvs) :
    ∀ {σ : L2.St} {env env' : Env}, RS Y N G ca σ H env c → Apart ks vs σ env → parSet ks rvs env = some env' → RS Y N G ca (stS ks vs σ) H env' c := by
  induction p with
  | nil =>
    intro σ env env' r ap e
    cases e
    exact r
  | @val i v rv ks vs rvs w p ih =>
    intro σ env env' r ap e
    cases rv with
    | ow j xs => cases e
    | pl d =>
      refine ih (r.set (i := i) (wtr_pl w)) (fun j xs a h1 h2 => ?_) e
      by_cases hj : i = j
      · subst hj
        rw [List.getElem?_set] at h1
        by_cases hl : i < env.length
        · rw [if_pos rfl, if_pos hl] at h1; cases h1
        · rw [if_pos rfl, if_neg hl] at h1; cases h1
      · rw [List.getElem?_set_ne hj] at h1 h2
        exact ap j xs a h1 h2
  | @new i a us ds ks vs rvs h h1 h2 h3 h4 h5 h6 p ih =>
    intro σ env env' r ap e
    refine ih (r.setOwn (i := i) h1 h2 h3 h4 (hN _ h) h5 fun j xs q1 q2 => (ap j xs _ q1 q2).1 rfl) (fun j xs b q1 q2 => ?_) e
    by_cases hj : i = j
    · subst hj
      rw [List.getElem?_set] at q1 q2
      by_cases hl : i < env.length
      · rw [if_pos rfl, if_pos (by rw [← r.len]; exact hl)] at q2
        cases q2
        exact h6
      · rw [if_pos rfl, if_neg hl] at q1; cases q1
    · rw [List.getElem?_set_ne hj] at q1 q2
      exact (ap j xs b q1 q2).2
theorem tpar {D : Ends} {σ : L2.St} {H : Hp} {ks : List (Nat × Bool)} {es : List DE} {Q : List V → Hp → Prop} (h : tS Y N W (sPar ks es) D σ H) (hq : ∀ vs H', D.nx (stS ks vs σ) H' → vs.length = ks.length → Q vs H') : tDM Y N W ks (dArgs es) σ H Q := by
  obtain ⟨G, ca, env, c, rs, h⟩ := h
  refine ⟨G, ca, env, c, rs, ?_⟩
  simp only [sPar] at h
  cases e : dArgs es env c with
  | st => rw [e] at h; exact h
  | er x c1 =>
    rw [e] at h
    exact fun cls dd G' ca' H' h1 h2 h3 => h cls dd G' ca' σ H' h1 h3
  | ok rvs c1 =>
    rw [e] at h
    simp only [F.of] at h
    intro G' ca' H' vs s r w
    cases e2 : parSet ks rvs env with
    | none => rw [e2] at h; exact h.elim
    | some env' =>
      rw [e2] at h
      have hl : ∀ {ks : List (Nat × Bool)} {vs : List V} {rvs : List RV}, ParW Y N H G' ca' H' σ env ks vs rvs → vs.length = ks.length := by
        intro ks vs rvs w
        induction w with
        | nil => rfl
        | val _ _ ih => simp [ih]
        | new _ _ _ _ _ _ _ _ ih => simp [ih]
      refine hq vs H' (h G' ca' _ H' (RS.par (fun a z => rs.st.dm a z) w r (fun j xs a q1 q2 => w.notNew ?_) e2) s.gr) (hl w)
      obtain ⟨b, us, p1, p2, _⟩ := rs.own j xs q1
      rw [q2] at p1
      cases p1
      exact fun z => z.no p2 notbl
theorem psd_par2 {i j : Nat} {b1 b2 : Bool} {x y : Str} {a b : Expr} {fs : List DE} {px py pt pos : Pos} {kt k2 pt2} (hc : X.calm = true) (hN : X.N.Nodup) (hi : X.N[i]? = some x) (hj : X.N[j]? = some y) (hij : i ≠ j)
    (hx : X.env.scope.names.lookup x = some .local) (hy : X.env.scope.names.lookup y = some .local) (ha : PDM X Z N W [(i, b1), (j, b2)] [a, b] fs)
    (hw : swappedStores [.Tuple [.Name x px, .Name y py] kt pt] (.Tuple [a, b] k2 pt2) X.env = pure (some [x, y]))
    (hs : swapsWithSole [.Tuple [.Name x px, .Name y py] kt pt] (.Tuple [a, b] k2 pt2) pos.line X.env = pure false := by rfl) : PSD X Z N W (.Assign [.Tuple [.Name x px, .Name y py] kt pt] (.Tuple [a, b] k2 pt2) pos) (sPar [(i, b1), (j, b2)] fs) :=
  ps_imp (ps_par hc hN hi hj hij hx hy ha hw hs) fun D σ H h => tpar h fun vs H' q hl => by
    match vs, hl with
    | [v, w], _ => exact ⟨v, w, rfl, q⟩
theorem psd_par3 {i j l : Nat} {b1 b2 b3 : Bool} {x y z : Str} {a b c : Expr} {fs : List DE} {px py pz pt pos : Pos} {kt k2 pt2} (hc : X.calm = true) (hN : X.N.Nodup) (hi : X.N[i]? = some x) (hj : X.N[j]? = some y) (hl : X.N[l]? = some z) (hij : i ≠ j) (hil : i ≠ l) (hjl : j ≠ l)
    (hx : X.env.scope.names.lookup x = some .local) (hy : X.env.scope.names.lookup y = some .local) (hz : X.env.scope.names.lookup z = some .local) (ha : PDM X Z N W [(i, b1), (j, b2), (l, b3)] [a, b, c] fs)
    (hw : swappedStores [.Tuple [.Name x px, .Name y py, .Name z pz] kt pt] (.Tuple [a, b, c] k2 pt2) X.env = pure (some [x, y, z]))
    (hs : swapsWithSole [.Tuple [.Name x px, .Name y py, .Name z pz] kt pt] (.Tuple [a, b, c] k2 pt2) pos.line X.env = pure false := by rfl) : PSD X Z N W (.Assign [.Tuple [.Name x px, .Name y py, .Name z pz] kt pt] (.Tuple [a, b, c] k2 pt2) pos) (sPar [(i, b1), (j, b2), (l, b3)] fs) :=
  ps_imp (ps_par3 hc hN hi hj hl hij hil hjl hx hy hz ha hw hs) fun D σ H h => tpar h fun vs H' q hl => by
    match vs, hl with
    | [u, v, w], _ => exact ⟨u, v, w, rfl, q⟩
/-- names as targets, one after another -/
def gM (ks : List (Nat × Bool)) : TGs := fun vs σ H Q => vs.length = ks.length ∧ Q (stS ks vs σ) H
abbrev PGM (X : Cx) (ks : List (Nat × Bool)) (es : List Expr) : Prop := PGs X es (gM ks)
theorem pgm_nil : PGM X [] [] := pgs_imp pgs_nil fun vs σ H Q h => by
  match vs, h with
  | [], h => exact ⟨rfl, h.2⟩
theorem pgm_cons {i : Nat} {b : Bool} {x : Str} {pos : Pos} {ks : List (Nat × Bool)} {es : List Expr} (hN : X.N.Nodup) (hi : X.N[i]? = some x) (hx : Loc X.env.scope x) (hf : X.fn x = true ∨ X.env.scope.names.lookup x = some .local) (hr : PGM X ks es)
    (hs : (assignEach (.Name x pos :: es) X.env).map (·.2) = assign (.Name x pos) X.env :: (assignEach es X.env).map (·.2) := by rfl) : PGM X ((i, b) :: ks) (.Name x pos :: es) :=
  pgs_imp (pgs_cons (pg_name hN hi hx hf) hr hs) fun vs σ H Q h => by
    match vs, h with
    | v :: vs, h => exact ⟨v, vs, rfl, by simpa using h.1, h.2⟩
theorem psd_parT {ks : List (Nat × Bool)} {es tgs : List Expr} {fs : List DE} {k k2 : _} {pt pt2 pos : Pos} (hc : X.calm = true) (ha : PDM X Z N W ks es fs) (hg : PGM X ks tgs) (hlen : tgs.length = ks.length) (hl : ks.length ≤ 1000 := by decide)
    (hn : (assignEach tgs X.env).length = tgs.length := by rfl) (hst : (assignEach tgs X.env).findIdx? (·.1) = none := by rfl)
    (hs : swapsWithSole [.Tuple tgs k pt] (.Tuple es k2 pt2) pos.line X.env = pure false := by rfl) (hw : swappedStores [.Tuple tgs k pt] (.Tuple es k2 pt2) X.env = pure none := by rfl)
    (h1 : (assignEach [.Tuple tgs k pt] X.env).map (·.2) = [assign (.Tuple tgs k pt) X.env] := by rfl) : PSD X Z N W (.Assign [.Tuple tgs k pt] (.Tuple es k2 pt2) pos) (sPar ks fs) :=
  ps_imp (ps_asg (pe_tup ha) (pg_tup hc hg hn hst) hs hw h1) fun D σ H h => by
    obtain ⟨G, ca, env, c, rs, h⟩ := h
    refine ⟨G, ca, env, c, rs, ?_⟩
    simp only [sPar] at h
    cases e : dArgs fs env c with
    | st => rw [e] at h; exact h
    | er x c1 =>
      rw [e] at h
      exact fun cls dd G' ca' H' h1 h2 h3 => h cls dd G' ca' σ H' h1 h3
    | ok rvs c1 =>
      rw [e] at h
      simp only [F.of] at h
      intro G' ca' H' vs s r w
      cases e2 : parSet ks rvs env with
      | none => rw [e2] at h; exact h.elim
      | some env' =>
        rw [e2] at h
        have hl' : ∀ {ks : List (Nat × Bool)} {vs : List V} {rvs : List RV}, ParW (yOf X Z) N H G' ca' H' σ env ks vs rvs → vs.length = ks.length := by
          intro ks vs rvs w
          induction w with
          | nil => rfl
          | val _ _ ih => simp [ih]
          | new _ _ _ _ _ _ _ _ ih => simp [ih]
        have hv := hl' w
        refine ⟨Nat.le_of_lt (small1000 (by rw [hv]; exact hl)), fun p hp => ⟨p, vs, rfl, .inl (.inl upd_same), by rw [hv, hlen], hv, ?_⟩⟩
        have r' := RS.par (fun a z => rs.st.dm a z) w r (fun j xs a q1 q2 => w.notNew (by
          obtain ⟨b, us, p1, p2, _⟩ := rs.own j xs q1
          rw [q2] at p1
          cases p1
          exact fun z => z.no p2 notbl)) e2
        exact h G' ca' _ _ (r'.step (.new hp) (r'.r0.new hp)) s.gr
/-! ### a function of a module -/
theorem pd_callI {x : Str} {id : String} {e : Expr} {es : List Expr} {fs : List DE} {g : List D → Option D} {p pos : Pos} (hc : CallD X Z (.builtin id) g) (hg : Gl X x) (hm : X.mg x = some (.builtin id)) (ha : PDA X Z N W (e :: es) (dArgs fs)) (hdb : (x == ("__debug__" : Str)) = false)
    (he : starEach (e :: es) X.env = (false, eval e X.env) :: starEach es X.env := by rfl) (hpl : (backTo pos (starEach es X.env)).any (·.1) = false := by rfl) : PD X Z N W (.Call (.Name x p) (e :: es) [] pos) (dB g fs) := by
  obtain ⟨r, h1, h2⟩ := hc
  exact pe_imp (pe_callBfun h1 hg hm ha hdb he hpl) fun σ H Q h => tdb h2 h
theorem cd_gcd : CallD X Z (.builtin "math.gcd") m_gcd := ⟨_, cr_gcd, fun G ca H c xs ds d Q rs w e k => by
  unfold m_gcd at e
  split at e
  · cases e
    match xs, w with
    | [_, _], .cons w1 (.cons w2 .nil) =>
      have e1 := (w1.atom fun _ z => by cases z)
      have e2 := (w2.atom fun _ z => by cases z)
      cases e1
      cases e2
      exact ⟨_, _, rfl, k.here rs (.int _)⟩
  · cases e⟩
end
end DL

set_option Elab.async false
set_option linter.all false
set_option maxRecDepth 100000
set_option maxHeartbeats 4000000
set_option autoImplicit false
set_option exponentiation.threshold 20000
namespace DL
open PySem PySem.Spec PyProof.Rows L2 PySem.W PySem.Calls
theorem entry_comb : entryFor table "math.comb" = some Builtin.«math.comb» := entryFor_of_tree (by kernel_rfl)
theorem kind_comb : builtinKind "math.comb" = none := by kernel_rfl
theorem plain_comb : plainId "math.comb" = true := by decide +kernel
theorem args_comb (a b : Value) : argsOk "math.comb" ⟨[a, b], []⟩ := by unfold argsOk; kernel_rfl
theorem run_comb0 (a : Int) (t : Tok) (b : Int) (u : Tok) (h1 : ¬ a < 0) (h2 : ¬ b < 0) (h3 : b > a) :
    Gives (Builtin.«math.comb» ⟨[.int a t, .int b u], []⟩) (.int 0) :=
  .of_wp fun M A E s Q h => by obtain ⟨hp, g, d, tk, os⟩ := s; wp_walk; exact ⟨_, rfl, h⟩
theorem run_comb (a : Int) (t : Tok) (b : Int) (u : Tok) (h1 : ¬ a < 0) (h2 : ¬ b < 0) (h3 : ¬ b > a) (h4 : ¬ min b (a - b) > Builtin.Math.maxSsize) (h5 : ¬ min b (a - b) > Builtin.Math.manyFactors) (h6 : ¬ min b (a - b) > 9000)
    (hsz : (Builtin.Math.fallingProduct a (min b (a - b)).toNat / Builtin.Math.fallingProduct (min b (a - b)) (min b (a - b)).toNat).natAbs.log2 < bitsLine) :
    Gives (Builtin.«math.comb» ⟨[.int a t, .int b u], []⟩) (.int (Builtin.Math.fallingProduct a (min b (a - b)).toNat / Builtin.Math.fallingProduct (min b (a - b)) (min b (a - b)).toNat)) :=
  .of_wp fun M A E s Q h => by obtain ⟨hp, g, d, tk, os⟩ := s; wp_walk; exact ⟨_, rfl, h⟩
theorem fallD_le {n : Int} (h0 : 0 ≤ n) (h1 : n ≤ 1000) : ∀ k : Nat, k ≤ 1000 → (fallD n k).natAbs ≤ 1024 ^ k
  | 0, _ => Nat.le_refl 1
  | k + 1, hk => by
    have ih := fallD_le h0 h1 k (by omega)
    unfold fallD at ih ⊢
    rw [List.range_succ, List.foldl_append, List.foldl_cons, List.foldl_nil, Int.natAbs_mul, Nat.pow_succ]
    exact Nat.mul_le_mul ih (by omega)
theorem comb_small {n k : Int} (h0 : 0 ≤ n) (h1 : n ≤ 1000) (hk : 0 ≤ k) (hk2 : k ≤ n) : (fallD n (min k (n - k)).toNat / fallD (min k (n - k)) (min k (n - k)).toNat).natAbs.log2 < bitsLine := by
  have hm : (min k (n - k)).toNat ≤ 1000 := by omega
  have h := fallD_le h0 h1 (min k (n - k)).toNat hm
  have h2 : (fallD n (min k (n - k)).toNat / fallD (min k (n - k)) (min k (n - k)).toNat).natAbs ≤ 1024 ^ (min k (n - k)).toNat := Nat.le_trans (Int.natAbs_ediv_le_natAbs _ _) h
  have h3 : (1024 : Nat) ^ (min k (n - k)).toNat ≤ 1024 ^ 1000 := Nat.pow_le_pow_right (by decide) hm
  have h4 : (1024 : Nat) ^ 1000 = 2 ^ 10000 := by
    rw [show (1024 : Nat) = 2 ^ 10 from rfl, ← Nat.pow_mul]
  by_cases e : (fallD n (min k (n - k)).toNat / fallD (min k (n - k)) (min k (n - k)).toNat).natAbs = 0
  · rw [e]; decide
  · rw [Nat.log2_lt e]
    refine Nat.lt_of_le_of_lt h2 (Nat.lt_of_le_of_lt h3 ?_)
    rw [h4]
    exact Nat.pow_lt_pow_right (by decide) (by decide)
section
variable {X : Cx} {Z : Zp} {N : En} {W : WX} {Y : Yp}
def rComb : List V → Hp → VK → Prop := fun vs H Q => ∃ n k : Int, vs = [.int n, .int k] ∧ 0 ≤ n ∧ 0 ≤ k ∧ n ≤ 1000 ∧ Q (.int (if k > n then 0 else fallD n (min k (n - k)).toNat / fallD (min k (n - k)) (min k (n - k)).toNat)) H
theorem cr_comb : CallR X (.builtin "math.comb") rComb := by
  intro pins s σ H vs us Q I r h
  obtain ⟨n, k, rfl, h0, hk, h1, q⟩ := h
  obtain ⟨t, u, rfl⟩ := Vals.int2 r
  by_cases e : k > n
  · rw [if_pos e] at q
    exact call_function_meets kind_comb plain_comb entry_comb (args_comb _ _) (run_comb0 n t k u (by omega) (by omega) e).meets ⟨.int _, H, I.tok _, ⟨_, rfl⟩, q⟩
  · rw [if_neg e] at q
    exact call_function_meets kind_comb plain_comb entry_comb (args_comb _ _) (run_comb n t k u (by omega) (by omega) e (by unfold Builtin.Math.maxSsize; omega) (by unfold Builtin.Math.manyFactors; omega) (by omega) (comb_small h0 h1 hk (by omega))).meets ⟨.int _, H, I.tok _, ⟨_, rfl⟩, q⟩
theorem cd_comb : CallD X Z (.builtin "math.comb") m_comb := ⟨_, cr_comb, fun G ca H c xs ds d Q rs w e k => by
  unfold m_comb at e
  split at e
  · split at e
    · rename_i hh
      cases e
      match xs, w with
      | [_, _], .cons w1 (.cons w2 .nil) =>
        have e1 := (w1.atom fun _ z => by cases z)
        have e2 := (w2.atom fun _ z => by cases z)
        cases e1
        cases e2
        exact ⟨_, _, rfl, hh.1, hh.2.1, hh.2.2, k.here rs (.int _)⟩
    · cases e
  · cases e⟩
end
/-! ### a def called too deep: no promise -/
section
variable {P : Program} {w : World} {K : PySem.W.Frag} {mg : Str → Option Value} {base : Heap} {Z : Zp}
theorem fnD_none {x : Str} {st : Stmt} {f : Addr} {fd : FuncData} {Nm ps : List Str} {k n : Nat} (F : L2.Fun K x x st f fd) (S : FnScope Nm ps (defScope st)) (hm : mg x = some (.ref f)) (hb : Binds K fd ps []) (hn : ps.length = n) : FnD P w K mg base Z k x n (fun _ _ => .st) := by
  refine ⟨f, fd, ps, hm, F.kp, hb, hn, ⟨fun vs H Q E h => h.1.trans hn.symm, fun A outer s H args us vs Q E hr _ _ _ h => ?_⟩⟩
  obtain ⟨hl, G, ca, c, ds, r, w, h⟩ := h
  exact h.elim
end
end DL
namespace DL
open PySem PySem.Spec PyProof.Rows L2
section
variable {X : Cx} {Z : Zp} {N : En} {W : WX}
theorem pd_gk {x : Str} {v : V} {d : D} {pos : Pos} (hg : Gl X x) (hm : ∃ u, X.mg x = some u ∧ RelV v u) (w : ∀ G ca, Wt (yOf X Z) G ca v d) (hd : (x == ("__debug__" : Str)) = false) : PD X Z N W (.Name x pos) (dC d) := by
  obtain ⟨u, h1, h2⟩ := hm
  exact pd_glob hg h1 h2 w hd
end
end DL

set_option Elab.async false
set_option linter.all false
set_option maxRecDepth 100000
set_option maxHeartbeats 4000000
set_option autoImplicit false
/-! ## a lambda handed to a def that calls it under try, exceptions noted with their context -/
namespace DL
open PySem PySem.Spec PyProof.Rows L2 LamX
/-- the lambda's body's context -/
abbrev lcx (X : Cx) (A : Around) (outer : List PySem.Env) (s : Shared) (H : Hp) (E : XK) (scope : Scope) (f c' : Addr) : Cx :=
  (lamCx X A outer s H E scope f c').tr [] fun u t => wpAny (model X.prog X.w) (A.deeper (lamEnv X scope s.heap.objs.size f c')) (leaving (lamEnv X scope s.heap.objs.size f c') u)
    (fun _ t' => L2N.CX X.prog X.w outer H s E u t') (fun u' t' => L2N.CX X.prog X.w outer H s E u' t') t
/-- the context of the def that gets the lambda -/
abbrev gcx (X : Cx) (Ng : List Str) (x : Str) (sg : Scope) (g : Addr) (cdg : Value) (s : Shared) (H : Hp) : Cx := cxOf C8.CX0 X.prog X.w X.K X.mg X.base Ng x sg g cdg X.A X.stack s H C8.E0
section
variable {X : Cx} {pins : List (Addr × Obj)} {σ : L2.St} {H : Hp} {s : Shared}
theorem act_lam {Ng : List Str} {qg a : Str} {sg scope : Scope} {g f c' : Addr} {cdg pm ctv : Value} {params : Arguments} {body : Expr} {k i : Nat} {pn : List (Addr × Obj)} {xe : Value → Shared → Prop} {W : WX} {tb : XK → TE} {p1 p2 : Pos}
    (inv : Inv X pins σ H s) (ls : LamS X.env.scope scope) (fobj : s.heap.get? f = some (PySem.W.kla_obj "<lambda>" (X.env.qual ++ "<lambda>") params body scope (cloFrom X.env.cells scope.names []) pm c' ctv)) (fno : H f = none) (fst : f ∉ frs X.stack)
    (bnd : bindArgs (PySem.W.kla_fn "<lambda>" (X.env.qual ++ "<lambda>") params body scope (cloFrom X.env.cells scope.names []) pm (.ref c') ctv) ⟨[], []⟩ = pure [])
    (tk : L2N.Takes ((gcx X Ng qg sg g cdg s H).tr pn xe) W) (rm : Room (k + 1) (X.A.deeper (envOfC qg sg s.heap.objs.size g cdg)))
    (bd : ∀ (A : Around) (outer : List PySem.Env) (s : Shared) (H : Hp) (E : XK), Room k (A.deeper (lamEnv X scope s.heap.objs.size f c')) → PE (lcx X A outer s H E scope f c') body (tb E))
    (hNa : Ng[i]? = some a) (vis : Vis sg a) (nd1 : (a == ("__debug__" : Str)) = false) (nd2 : (a == ("__classdict__" : Str)) = false) :
    PE ((gcx X Ng qg sg g cdg s H).tr pn xe) (.Call (.Name a p1) [] [] p2)
      (fun τ HZ Q => τ[i]? = some (some (.ref f)) ∧ HZ c' = some (CodeO c' (X.env.qual ++ "<lambda>")) ∧ tb (fun cls d H' => W cls d τ H') σ HZ Q) := by
  refine ⟨fun pz sz τ HZ Q iz hh => ?_⟩
  obtain ⟨atf, code, tail⟩ := hh
  refine wpAny_Call_Name_kw (thn ((pe_var (pos := p1) (i := i) hNa vis nd1 nd2).run pz sz τ HZ (fun v H1 => v = .ref f ∧ H1 = HZ) iz ⟨.ref f, atf, rfl, rfl⟩) fun u t1 ⟨v, H1, J1, rel, ev, eh⟩ => ?_)
  subst ev
  rw [eh] at J1
  obtain rfl : u = Value.ref f := rel
  have still : t1.heap.get? f = some (PySem.W.kla_obj "<lambda>" (X.env.qual ++ "<lambda>") params body scope (cloFrom X.env.cells scope.names []) pm c' ctv) := J1.base.keep f _ fobj fno fst (fun z => nomatch (show f ∈ ([] : List Addr) from z))
  refine PySem.W.callWith_F0 ⟨_, _, _, _, still⟩ ?_
  have unc : Un (frs X.stack) [] H HZ s.heap t1.heap := J1.base
  obtain ⟨⟨oc, vs, tt, g1, g2, g3⟩, _, _⟩ := J1.hok c' _ code
  have inner : codeAny (model X.prog X.w) (X.A.deeper (envOfC qg sg s.heap.objs.size g cdg)) (.call (.ref f) ⟨[], []⟩) (CR (L2N.CX X.prog X.w) (envOfC qg sg s.heap.objs.size g cdg :: X.stack) X.prog X.w HZ t1 Q (fun cls d H' => W cls d τ H')) t1 := by
    refine PySem.W.kla_callFunE rm.depth still rfl ls.co ls.gen rfl ⟨c', oc, vs, tt, rfl, g1, g2, g3⟩ ?_
    rw [bnd]
    refine wpAny_pure (wpAny_newFunctionEnv (fun y hy => (ls.own y hy).2) (fun y hy => absurd hy (by simp)) (fun h₁ ns sb => ⟨J1.nolimit.fresh _ sb, ?_⟩) ls.kind)
    show codeAny _ _ (.expr body (lamEnv X scope t1.heap.objs.size f c')) _ _
    have kept : ∀ b o, t1.heap.get? b = some o → h₁.get? b = some o := fun b o e => sb.extBut b o (Nat.ne_of_lt (Heap.lt_size e)) (Heap.get?_push_of_some _ e)
    have lamI := lam_start2 (A := X.A.deeper (envOfC qg sg s.heap.objs.size g cdg)) (outer := envOfC qg sg s.heap.objs.size g cdg :: X.stack) (E := fun cls d H' => W cls d τ H') (tk := t1.toks + ([] : List (Str × Value)).length) (c' := c') (f := f) inv ls J1.env0 rm.hd unc ns kept
    refine PySem.W.kla_codeExpr (wpAny_mono ((bd _ _ t1 HZ _ (rm.deeper _)).run [] _ _ HZ Q (lamI.toTry _) tail) (fun v s' hq => ?_) fun e s' hq => hq)
    obtain ⟨w', H', J', rv, q⟩ := hq
    exact ⟨w', H', J'.os, J'.bare, J'.base, J'.hok, rv, q⟩
  refine wpAny_call (codeAny_mono inner fun r s' hq => ?_)
  cases r with
  | error e => exact L2N.passAt tk τ pz HZ t1 e s' J1 hq
  | ok fl =>
    cases fl with
    | ret u => exact J1.after hq
    | next => exact False.elim hq
    | brk => exact False.elim hq
    | cont => exact False.elim hq
/-- what the getting def's body keeps: TT, of the lambda's reading tl -/
def Gets (X : Cx) (Ng : List Str) (x : Str) (sg : Scope) (g : Addr) (cdg : Value) (bg : List Stmt) (a : Str) (q : Str) (TT : (XK → Hp → VK → Prop) → Hp → VK → Prop) : Prop :=
  ∀ (f c' : Addr) (s : Shared) (H : Hp) (Q : VK) (tl : XK → Hp → VK → Prop),
    (∀ (W : WX) (pn : List (Addr × Obj)) (xe : Value → Shared → Prop) (p1 p2 : Pos), L2N.Takes ((gcx X Ng x sg g cdg s H).tr pn xe) W →
      PE ((gcx X Ng x sg g cdg s H).tr pn xe) (.Call (.Name a p1) [] [] p2) (fun τ HZ Q => τ[0]? = some (some (.ref f)) ∧ HZ c' = some (CodeO c' q) ∧ tl (fun cls d H' => W cls d τ H') HZ Q)) →
    H c' = some (CodeO c' q) → TT tl H Q → L2H.RoomH 0 (gcx X Ng x sg g cdg s H).A →
    ∃ t, PSs (gcx X Ng x sg g cdg s H).nox bg t ∧ t { nx := fun _ H' => Q .non H', rt := Q } (L2.start Ng [.ref f]) H
theorem pe_give {T : List (Addr × Str)} {TT : (XK → Hp → VK → Prop) → Hp → VK → Prop} {x a : Str} {g c P : Addr} {k : Nat} {pg : Arguments} {bg : List Stmt} {sg scope : Scope} {dV kV doc pm cdv ct oc : Value} {an od : Option Addr} {osl : Array (Option Value)} {Ng : List Str}
    {params : Arguments} {body : Expr} {t : XK → TE} {p lpos pos : Pos} (gl : Gl X x) (mg : X.mg x = some (.ref g)) (kp : PySem.W.keepIn X.K (.ref g) = true)
    (lk : X.K.lookup g = some ⟨oc, od, .func (PySem.W.fnOf x x pg bg sg dV kV doc pm an cdv ct), osl⟩) (cin : PySem.W.codeIn X.K cdv x = true) (bs : L2.Binds X.K (PySem.W.fnOf x x pg bg sg dV kV doc pm an cdv ct) [a] []) (fs : FnScope Ng [a] sg) (n0 : Ng[0]? = some a) (vis : Vis sg a)
    (gets : Gets X Ng x sg g cdv bg a (X.env.qual ++ "<lambda>") TT)
    (tabs : TabB X.base X.mg c P) (code : X.env.code = .ref c) (inT : (P, X.env.qual ++ "<lambda>") ∈ T) (uniq : ∀ p ∈ T, p.1 = P → p.2 = X.env.qual ++ "<lambda>") (rm : Room (k + 2) X.A) (ls : LamS X.env.scope scope) (nodef : defaultsOf params X.env = ([], []))
    (bnd : ∀ (q : Str) (cl : List (Str × Addr)) (pm cv ctv : Value), bindArgs (PySem.W.kla_fn "<lambda>" q params body scope cl pm cv ctv) ⟨[], []⟩ = pure [])
    (bd : ∀ (A : Around) (outer : List PySem.Env) (s : Shared) (H : Hp) (E : XK) (f c' : Addr), Room k (A.deeper (lamEnv X scope s.heap.objs.size f c')) → PE (lcx X A outer s H E scope f c') body (t E))
    (nd0 : (x == ("__debug__" : Str)) = false) (nd1 : (a == ("__debug__" : Str)) = false) (nd2 : (a == ("__classdict__" : Str)) = false) :
    PE X (.Call (.Name x p) [.Lambda params body scope lpos] [] pos) (tLam T TT t) := by
  refine ⟨fun pins s σ H Q I hh => ?_⟩
  obtain ⟨tb0, hh⟩ := hh
  refine wpAny_Call_Name_kw (ld_glob I gl mg ?_ nd0)
  refine PySem.W.callWith_K (h₀ := X.base) I.ok.mod.kin kp ?_ (by rfl) (by rfl)
  show wpAny _ _ (spliced ((false, eval (.Lambda params body scope lpos) X.env) :: backTo pos (starEach [] X.env))) _ _ s
  refine Calls.spliced_cons (lam_make2 I tabs code inT uniq tb0 nodef (ls.has I.ok) fun f c' pm' ctv H1 s' J1 ext tb1 fobj fno fst co => ?_)
  refine Calls.spliced_nil ⟨J1.kIn, ?_⟩
  have all : codeAny (model X.prog X.w) X.A (.call (.ref g) ⟨[.ref f], []⟩) (CR C8.CX0 X.stack X.prog X.w H1 s' Q C8.E0) s' := by
    refine run_ofS (N := Ng) (ps := [a]) (us := [.ref f]) (vs := [.ref f]) lk cin fs rm J1.env0 (bs s' [.ref f] J1.kIn rfl) (.cons rfl .nil) rfl fun rm' => ?_
    obtain ⟨t', ht', hq'⟩ := gets f c' s' H1 Q (fun E H' Q' => t E σ H' Q') (fun W pn xe p1 p2 tk => act_lam (tb := fun E => t E) (i := 0) J1 ls fobj fno fst (bnd _ _ _ _ _) tk rm' (fun A outer s H E r2 => bd A outer s H E f c' r2) n0 vis nd1 nd2) co (hh H1 ext tb1) (L2H.roomH_of (rm'.mono (Nat.zero_le _)))
    exact ⟨t', ht'.nox, hq'⟩
  refine wpAny_call (codeAny_mono all fun r s2 hq => ?_)
  cases r with
  | error e => exact (show False from hq).elim
  | ok fl =>
    cases fl with
    | ret u => exact J1.after hq
    | next => exact False.elim hq
    | brk => exact False.elim hq
    | cont => exact False.elim hq
end
end DL

set_option Elab.async false
set_option linter.all false
set_option maxRecDepth 100000
set_option maxHeartbeats 4000000
set_option autoImplicit false
/-! ## iterators that end while an exception is handled -/
namespace HX
open PySem PySem.Spec PyProof.Rows HotX
section
variable {prog : Program} {w : World} {A : Around} {E : Value → Shared → Prop} {s : Shared}
theorem list_end {it l x1 : Addr} {i : Nat} {items : Array Value} {Q : Option Value → Shared → Prop} (hot : HotAt A x1 s.heap) (ne : x1 ≠ it)
    (hit : s.heap.IsListIter it l i) (hl : s.heap.IsList l items) (hx : items[i]? = none) (hQ : ∀ h', Heap.ExtBut it s.heap h' → Q none { s with heap := h' }) : wpAny (model prog w) A (pyNext (.ref it)) Q E s := by
  obtain ⟨o, ho, hc, hd⟩ := id hit
  obtain ⟨ol, hol, _, nl, hdl⟩ := hl
  obtain ⟨hh, o1, vs1, h1, d1, c1⟩ := hot
  have tp := hit.typeIs
  unfold pyNext
  refine wpAny_bind (wpAny_attempt (wpAny_callSpecial?_slot (name := Str.ofString "__next__") tp slot_listiter_next (wpAny_call_entry slot_listiter_next tp entry_listiter_next ?_ (args_listiter_next _))))
  show wpAny _ _ (field (.ref it) 0 >>= _) _ _ s
  refine wpAny_bind (wpAny_field ho hd (x := .ref l) rfl ?_)
  show wpAny _ _ (if (Value.ref l == Value.none) = true then _ else _) _ _ s
  rw [if_neg (show ¬ ((Value.ref l == Value.none) = true) from Bool.false_ne_true)]
  show wpAny _ _ (field (.ref it) 1 >>= _) _ _ s
  refine wpAny_bind (wpAny_field ho hd (x := .int i 0) rfl ?_)
  show wpAny _ _ (seqItems? _ >>= _) _ _ s
  refine wpAny_bind (wpAny_seqItems hol hdl ?_)
  simp only [Int.toNat_natCast, hx]
  have kept : Heap.ExtBut it s.heap (s.heap.update it (Obj.mapFields (·.setIfInBounds 0 .none))) := (Heap.SameBut.update ..).extBut
  refine wpAny_bind (wpAny_rule (wpAny_bind (wpAny_setField ho hd (by simp) ?_)))
  show wpAny _ _ (newExc (.type "StopIteration") [] >>= _) _ _ _
  have up : ∀ {b u}, b ≠ it → s.heap.get? b = some u → (s.heap.update it (Obj.mapFields (·.setIfInBounds 0 .none))).get? b = some u := fun {b u} nb e => kept b u nb e
  refine wpAny_bind ?_
  simp only [newExc, newTuple]
  refine wpAny_bind (wpAny_newObj_type ?_ (by size_fits))
  refine wpAny_bind (m := firstArgMember _ _) (wpAny_of_eq (a := Value.none) (by first | rfl | (simp only [firstArgMember]; rfl)) ?_)
  refine wpAny_newObj_type ?_ (by size_fits)
  refine raiseNew_hot ⟨hh, o1, vs1, Heap.get?_push_of_some _ (Heap.get?_push_of_some _ (up ne h1)), d1, c1⟩ (Nat.ne_of_lt ?_) (Heap.get?_push_size _ rfl) rfl (by first | (simp; done) | (simp; omega) | (simp only [Array.size_append]; simp; omega)) ?_
  · exact Heap.lt_size (Heap.get?_push_of_some _ (up ne h1))
  · refine wpAny_bind (wpAny_isInstance (T := "StopIteration") (b := true) ⟨_, Heap.get?_update_self _ (Heap.get?_push_size _ rfl) rfl, rfl⟩ isSubtype_stop ?_)
    refine wpAny_pure (hQ _ fun b u nb e => ?_)
    rw [Heap.get?_update_other _ _ (Nat.ne_of_gt (Heap.lt_size (Heap.get?_push_of_some _ (up nb e))))]
    exact Heap.get?_push_of_some _ (Heap.get?_push_of_some _ (up nb e))
theorem tup_end {it t x1 : Addr} {i : Nat} {items : Array Value} {Q : Option Value → Shared → Prop} (hot : HotAt A x1 s.heap) (ne : x1 ≠ it)
    (hit : IsTupIter s.heap it t i) (ht : IsTup s.heap t items) (hx : items[i]? = none) (hQ : ∀ h', Heap.ExtBut it s.heap h' → Q none { s with heap := h' }) : wpAny (model prog w) A (pyNext (.ref it)) Q E s := by
  obtain ⟨o, ho, hc, hd⟩ := id hit
  obtain ⟨ol, hol, _, nl, hdl⟩ := ht
  obtain ⟨hh, o1, vs1, h1, d1, c1⟩ := hot
  have tp := hit.typeIs
  unfold pyNext
  refine wpAny_bind (wpAny_attempt (wpAny_callSpecial?_slot (name := Str.ofString "__next__") tp slot_tupleiter_next (wpAny_call_entry slot_tupleiter_next tp entry_tupleiter_next ?_ (args_tupleiter_next _))))
  show wpAny _ _ (field (.ref it) 0 >>= _) _ _ s
  refine wpAny_bind (wpAny_field ho hd (x := .ref t) rfl ?_)
  show wpAny _ _ (if (Value.ref t == Value.none) = true then _ else _) _ _ s
  rw [if_neg (show ¬ ((Value.ref t == Value.none) = true) from Bool.false_ne_true)]
  show wpAny _ _ (field (.ref it) 1 >>= _) _ _ s
  refine wpAny_bind (wpAny_field ho hd (x := .int i 0) rfl ?_)
  show wpAny _ _ (seqItems? _ >>= _) _ _ s
  refine wpAny_bind (wpAny_seqItems hol hdl ?_)
  simp only [Int.toNat_natCast, hx]
  have kept : Heap.ExtBut it s.heap (s.heap.update it (Obj.mapFields (·.setIfInBounds 0 .none))) := (Heap.SameBut.update ..).extBut
  refine wpAny_bind (wpAny_rule (wpAny_bind (wpAny_setField ho hd (by simp) ?_)))
  show wpAny _ _ (newExc (.type "StopIteration") [] >>= _) _ _ _
  have up : ∀ {b u}, b ≠ it → s.heap.get? b = some u → (s.heap.update it (Obj.mapFields (·.setIfInBounds 0 .none))).get? b = some u := fun {b u} nb e => kept b u nb e
  refine wpAny_bind ?_
  simp only [newExc, newTuple]
  refine wpAny_bind (wpAny_newObj_type ?_ (by size_fits))
  refine wpAny_bind (m := firstArgMember _ _) (wpAny_of_eq (a := Value.none) (by first | rfl | (simp only [firstArgMember]; rfl)) ?_)
  refine wpAny_newObj_type ?_ (by size_fits)
  refine raiseNew_hot ⟨hh, o1, vs1, Heap.get?_push_of_some _ (Heap.get?_push_of_some _ (up ne h1)), d1, c1⟩ (Nat.ne_of_lt ?_) (Heap.get?_push_size _ rfl) rfl (by first | (simp; done) | (simp; omega) | (simp only [Array.size_append]; simp; omega)) ?_
  · exact Heap.lt_size (Heap.get?_push_of_some _ (up ne h1))
  · refine wpAny_bind (wpAny_isInstance (T := "StopIteration") (b := true) ⟨_, Heap.get?_update_self _ (Heap.get?_push_size _ rfl) rfl, rfl⟩ isSubtype_stop ?_)
    refine wpAny_pure (hQ _ fun b u nb e => ?_)
    rw [Heap.get?_update_other _ _ (Nat.ne_of_gt (Heap.lt_size (Heap.get?_push_of_some _ (up nb e))))]
    exact Heap.get?_push_of_some _ (Heap.get?_push_of_some _ (up nb e))
/-- a tuple taken apart there -/
theorem asg_tup {x1 : Addr} {env : Env} {elts : List Expr} {k : _} {pos : Pos} {t : Addr} {items : Array Value} {Q : Unit → Shared → Prop} (hot : HotAt A x1 s.heap) (ht : IsTup s.heap t items)
    (hn : (assignEach elts env).length = items.size) (hstar : (assignEach elts env).findIdx? (·.1) = none)
    (h : ∀ h', Heap.ExtBut s.heap.objs.size s.heap h' → wpAny (model prog w) A (assignInOrder ((assignEach elts env).map (·.2)) items.toList) Q E { s with heap := h' }) :
    wpAny (model prog w) A (assign (.Tuple elts k pos) env (.ref t)) Q E s := by
  rw [assign_Tuple]
  refine wpAny_bind (wpAny_standAt ?_)
  unfold unpack
  rw [hn, hstar]
  refine wpAny_bind (wpAny_holding ?_)
  have tlt : t ≠ s.heap.objs.size := by obtain ⟨o, ho, _⟩ := ht; exact Nat.ne_of_lt (Heap.lt_size ho)
  have xlt : x1 ≠ s.heap.objs.size := by obtain ⟨_, o, _, ho, _⟩ := hot; exact Nat.ne_of_lt (Heap.lt_size ho)
  unfold unpackItems
  refine wpAny_bind ?_
  unfold notIterableAtAll
  refine wpAny_bind (wpAny_specialOf ht.typeIs slot_tuple_iter.lookup ?_)
  refine wpAny_pure ?_
  simp only [Bool.false_eq_true, if_false]
  refine wpAny_bind (wpAny_holding (iter_tuple ht ?_))
  refine wpAny_bind (wpAny_holding (draw_tuple tlt items.size 0 _ _ ⟨_, Heap.get?_push_size _ rfl, rfl, rfl⟩ (ht.push _) (by omega) fun h₁ it₁ sb₁ => ?_))
  rw [show List.take items.size (List.drop 0 items.toList) = items.toList by rw [List.drop_zero]; exact List.take_of_length_le (by simp), if_neg (by simp)]
  obtain ⟨q1, o1, v1, q2, q3, q4⟩ := hot
  have hot₁ : HotAt A x1 h₁ := ⟨q1, o1, v1, sb₁.extBut _ _ xlt (Heap.get?_push_of_some _ q2), q3, q4⟩
  refine wpAny_bind (wpAny_holding (tup_end hot₁ xlt it₁ ((ht.push _).extBut sb₁.extBut tlt) (by simp) fun h₂ eb₂ => ?_))
  simp only [Option.isSome_none, Bool.false_eq_true, if_false]
  exact wpAny_pure (h h₂ fun b o hb e => eb₂ b o hb (sb₁.extBut b o hb (Heap.get?_push_of_some _ e)))
end
end HX

set_option Elab.async false
set_option linter.all false
set_option maxRecDepth 100000
set_option maxHeartbeats 4000000
set_option autoImplicit false
/-! ## a list comprehension within an except suite -/
namespace HX
open PySem PySem.Spec PyProof.Rows HotX L2
def HotB (X : Cx) : Prop := ∀ (pins : List (Addr × Obj)) (σ : L2.St) (H : Hp) (s : Shared), Inv X pins σ H s → ∃ x1, HotAt X.A x1 s.heap
theorem HotB.of {X : Cx} (h : L2H.HotC X) : HotB X := fun _ _ _ _ I => h.at I
theorem pg_tup {X : Cx} {es : List Expr} {k : _} {t : TGs} {n : Nat} {pos : Pos} (hot : HotB X) (h : PGs X es t) (hn : (assignEach es X.env).length = n := by rfl) (hst : (assignEach es X.env).findIdx? (·.1) = none := by rfl) : PG X (.Tuple es k pos) (gTup X.K n t) := by
  refine ⟨fun pins s σ H v u Q I r hw => ?_⟩
  obtain ⟨a, xs, rfl, hq, hl, hw⟩ := hw
  cases r
  obtain ⟨its, rv, ht, hz⟩ := I.tuple hq
  obtain ⟨x1, hx⟩ := hot _ _ _ _ I
  refine asg_tup hx ht (by simp [hn, ← hl, rv.length]) hst fun h' eb => ?_
  exact h.run pins _ σ H xs _ Q (I.kept (t' := s.toks) fun b o e => eb b o (Nat.ne_of_lt (Heap.lt_size e)) e) (by simpa using rv) hw
/-- an iterator's turns -/
structure TurnX (P : Program) (w : World) (K : PySem.W.Frag) (tg : Expr) (J : It) (fp : List Addr) (it : Addr) (tn : Nat → Heap → Prop) : Prop where
  obj : ∀ i h, tn i h → ∀ b ∈ fp, ∃ o, h.get? b = some o ∧ ∀ v, o.data ≠ .cell v
  keep : ∀ i h h', tn i h → (∀ b ∈ fp, ∀ o, h.get? b = some o → h'.get? b = some o) → tn i h'
  item : ∀ (X : Cx), X.prog = P → X.w = w → X.K = K → ∀ (i : Nat) (pins : List (Addr × Obj)) (s : Shared) (σ : L2.St) (H : Hp) (E : Value → Shared → Prop), Inv X pins σ H s → (∀ b ∈ fp, FpOk X pins H b) → tn i s.heap → J.go i H →
    wpAny (model P w) X.A (pyNext (.ref it)) (fun r s1 => ∃ u, r = some u ∧
      wpAny (model P w) X.A (letOwnedTupleGo tg (.ref it) u) (fun _ s2 => ∃ x H', Inv X pins σ H' s2 ∧ RelV x u ∧ J.yld i H x H' ∧ tn (i + 1) s2.heap ∧ ∀ b ∈ fp, H' b = none) E s1) E s
  done : ∀ (X : Cx), X.prog = P → X.w = w → X.K = K → ∀ (x1 : Addr) (i : Nat) (pins : List (Addr × Obj)) (s : Shared) (σ : L2.St) (H : Hp) (E : Value → Shared → Prop), HotAt X.A x1 s.heap → x1 ∉ fp → Inv X pins σ H s → (∀ b ∈ fp, FpOk X pins H b) → tn i s.heap → J.stop i H →
    wpAny (model P w) X.A (pyNext (.ref it)) (fun r s1 => r = none ∧ Inv X pins σ H s1) E s
  self : ∀ (A : Around) (i : Nat) (s : Shared) (Q : Value → Shared → Prop) (E : Value → Shared → Prop), tn i s.heap → Q (.ref it) s → wpAny (model P w) A (pyIter (.ref it)) Q E s
theorem turnx_list {P : Program} {w : World} {K : PySem.W.Frag} {tg : Expr} (a it : Addr) : TurnX P w K tg (Itl K a) [it] it (fun i h => h.IsListIter it a i) where
  obj := (turn_list (P := P) (w := w) (K := K) (tg := tg) a it).obj
  keep := (turn_list (P := P) (w := w) (K := K) (tg := tg) a it).keep
  self := (turn_list (P := P) (w := w) (K := K) (tg := tg) a it).self
  item := by
    intro X hP hw hK i pins s σ H E I hf st ⟨xs, x, hq, hx⟩
    subst hP hw hK
    obtain ⟨its, rv, p, hz⟩ := I.list hq
    obtain ⟨u, hu, ru⟩ := rv.get hx
    obtain ⟨f0, f1, f2, f3, f4, f5⟩ := hf it (by simp)
    refine wpAny_pyNext_list_item st p.isList (x := u) (by simpa using hu) fun h' st' sb => ?_
    obtain ⟨o, e, c, d⟩ := id st'
    exact ⟨u, rfl, go_of (s := { s with heap := h' }) e c d (by decide) ⟨x, H, I.turned (t' := s.toks) (fun b o hb e => (sb.2 b hb).trans e) f0 f1 f3 f4 f5, ru, ⟨rfl, fun ys hy => by rw [I.list_inj hy hq]; exact hx⟩, st', fun b hb => (hf b hb).1⟩⟩
  done := by
    intro X hP hw hK x1 i pins s σ H E hot ne I hf st ⟨xs, hq, hx⟩
    subst hP hw hK
    obtain ⟨its, rv, p, hz⟩ := I.list hq
    obtain ⟨f0, f1, f2, f3, f4, f5⟩ := hf it (by simp)
    have hl := rv.length
    exact list_end hot (fun z => ne (by simp [z])) st p.isList (by simp; omega) fun h' eb => ⟨rfl, I.turned (t' := s.toks) (fun b o hb e => eb b o hb e) f0 f1 f3 f4 f5⟩
def PIEX (X : Cx) (pins : List (Addr × Obj)) (σ : L2.St) (tg : Expr) (R : It → Hp → Prop) (itv : Value) (s2 : Shared) : Prop :=
  ∃ (it : Addr) (fp : List Addr) (tn : Nat → Heap → Prop) (J : It) (H' : Hp), itv = .ref it ∧ Inv X pins σ H' s2 ∧ TurnX X.prog X.w X.K tg J fp it tn ∧ tn 0 s2.heap ∧ (∀ b ∈ fp, FpOk X pins H' b) ∧ R J H'
structure PIX (X : Cx) (tg iter : Expr) (wi : TI) : Prop where
  run : ∀ (pins : List (Addr × Obj)) (s : Shared) (σ : L2.St) (H : Hp) (R : It → Hp → Prop), Inv X pins σ H s → wi σ H R →
    wpAny (model X.prog X.w) X.A (eval iter X.env) (fun v s1 => wpAny (model X.prog X.w) X.A (pyIter v) (PIEX X pins σ tg R) X.xe s1) X.xe s
theorem pix_imp {X : Cx} {tg e : Expr} {t t' : TI} (h : PIX X tg e t) (i : ∀ σ H Q, t' σ H Q → t σ H Q) : PIX X tg e t' := ⟨fun pins s σ H Q I q => h.run pins s σ H Q I (i _ _ _ q)⟩
theorem pix_list {X : Cx} {tg l : Expr} {tl : TE} (hl : PE X l tl) : PIX X tg l (iList X.K tl) := by
  refine ⟨fun pins s σ H R I h => ?_⟩
  refine thn (hl.run pins s σ H _ I h) fun v s1 ⟨x, H1, I1, r1, a, e, ⟨xs, hq⟩, q⟩ => ?_
  subst e
  cases r1
  obtain ⟨its, rv, p, hz⟩ := I1.list hq
  refine wpAny_pyIter_list p.isList ⟨s1.heap.objs.size, [s1.heap.objs.size], _, _, H1, rfl, I1.kept (t' := s1.toks) fun b o e => Heap.get?_push_of_some _ e, turnx_list a _, ⟨_, Heap.get?_push_size _ rfl, rfl, rfl⟩, fun b hb => ?_, q⟩
  obtain rfl : b = s1.heap.objs.size := by simpa using hb
  exact I1.fpOk (Nat.le_refl _) (I1.hok.fresh (Nat.le_refl _))
section
variable {X : Cx} {elt tg iter : Expr} {ifs : List Expr} {scope : Scope} {own : List (Str × Nat)} {pos : Pos} {wi : TI} {g : TG} {tt : TT} {te : TE}
/-- what is asked of the parts of a comprehension's block -/
structure Parts (X : Cx) (scope : Scope) (elt tg : Expr) (ifs : List Expr) (g : TG) (tt : TT) (te : TE) : Prop where
  tg : ∀ (s : Shared) (H : Hp) (C : Addr) (cl : List (Str × Addr)) (fp : List Addr), HotB (X.blk s H scope (compEnvC scope cl C X.env) fp) → PG (X.blk s H scope (compEnvC scope cl C X.env) fp) tg g
  ts : ∀ (s : Shared) (H : Hp) (C : Addr) (cl : List (Str × Addr)) (fp : List Addr), HotB (X.blk s H scope (compEnvC scope cl C X.env) fp) → PTs (X.blk s H scope (compEnvC scope cl C X.env) fp) ifs tt
  el : ∀ (s : Shared) (H : Hp) (C : Addr) (cl : List (Str × Addr)) (fp : List Addr), HotB (X.blk s H scope (compEnvC scope cl C X.env) fp) → PE (X.blk s H scope (compEnvC scope cl C X.env) fp) elt te
theorem lc_hot {pins : List (Addr × Obj)} {s : Shared} {σ : L2.St} {H : Hp} {Q : VK} {pos' : Pos} {use : Option (Value → PySem.Sem Unit)} {Qf : Value → Shared → Prop}
    (hot : L2H.HotC X) (nd : X.N.Nodup) (inv : Inv X pins σ H s) (walks : PIX X tg iter wi) (ok : BlkOk X.N X.env.scope scope own) (pt : Parts X scope elt tg ifs g tt te) (nofold : ∀ x, foldedSetIterable iter X.env x = pure x)
    (wish : tLc wi g tt te (own.map (·.2)) σ H Q)
    (behind : ∀ L C s' m H', Inv X pins σ H' s' → Q (.ref L) H' → s'.heap.Ns C m → FpOk X pins H' C → compPost (model X.prog X.w) X.A X.xe use Qf (.ref L) C (.ok .next) s') :
    wpAny (model X.prog X.w) X.A (comprehension (.ListComp elt [⟨tg, iter, ifs, 0⟩] scope pos) scope X.env pos' (newList []) false (eval iter X.env) use) Qf X.xe s := by
  obtain ⟨px, ⟨hd, v1, d1, c1⟩, pmem⟩ := hot
  have frees : ∀ y ∈ scope.names, y.2 = .free → ∃ c, X.env.cells.lookup y.1 = some c := fun y hy e => inv.ok.has _ (ok.free y hy e)
  refine wpAny_comprehension_free (use := use) rfl nofold (closure_ok frees) ok.kind (fun y hy e => by rw [ok.uniq y hy, e]) (thn (walks.run pins s σ H _ inv wish) fun xv sa ha => thn ha fun itv sb hb => ?_)
  obtain ⟨it, fp, tn, J, Hb, rfl, Ib, T, stb, fpb, q⟩ := hb
  refine wpAny_newObj_type (newEnv_comp ?_) (by show 0 ≤ sizeLine; decide)
  -- L: the new list, in the state sc
  obtain ⟨L, hL⟩ : ∃ L, L = sb.heap.objs.size := ⟨_, rfl⟩
  have Lno : Hb L = none := by rw [hL]; exact Ib.hok.fresh (Nat.le_refl _)
  obtain ⟨V, ⟨m0, v0⟩, turn⟩ := q L Lno
  obtain ⟨sc, hsc⟩ : ∃ sc : Shared, sc = { sb with heap := sb.heap.push { cls := .type "list", data := .seq ([] : List Value).toArray } } := ⟨_, rfl⟩
  have grown : ∀ b o, sb.heap.get? b = some o → sc.heap.get? b = some o := fun b o e => by rw [hsc]; exact Heap.get?_push_of_some _ e
  have Ic : Inv X pins σ (upd Hb L (.lst [])) sc := by
    rw [hsc]
    refine Ib.laid (t' := sb.toks) (fun b o e => Heap.get?_push_of_some _ e) (by rw [hL]; exact Nat.le_refl _) ⟨Nat.zero_le _, [], 0, .nil, ?_⟩
    rw [hL]
    exact Heap.get?_push_size _ rfl
  have bound : ∀ b ∈ fp, b < sb.heap.objs.size := fun b hb => by
    obtain ⟨o, e, _⟩ := T.obj _ _ stb b hb
    exact Heap.lt_size e
  have fpc : ∀ b ∈ fp, FpOk X pins (upd Hb L (.lst [])) b ∧ b < sc.heap.objs.size := fun b hb => by
    have lt := bound b hb
    refine ⟨⟨?_, (fpb b hb).2⟩, by rw [hsc]; show b < (sb.heap.push _).objs.size; rw [Heap.size_push]; exact Nat.lt_succ_of_lt lt⟩
    rw [upd_ne (by rw [hL]; exact Nat.ne_of_lt lt)]
    exact (fpb b hb).1
  have stc : tn 0 sc.heap := T.keep _ _ _ stb fun b _ o e => grown b o e
  have Id := block_start Ic ok nd fpc
  have start : sc.heap.objs.size = sc.heap.objs.size := rfl
  show codeAny _ _ (.compStart (.ListComp elt [⟨tg, iter, ifs, 0⟩] scope pos) 0 (.ref it) (.ref sb.heap.objs.size) (compEnvC scope (cellsFrom ((sb.heap.push { cls := .type "list", data := .seq ([] : List Value).toArray }).objs.size + 1) scope.names (cloFrom X.env.cells scope.names [])) (sb.heap.push { cls := .type "list", data := .seq ([] : List Value).toArray }).objs.size X.env)) (compPost (model X.prog X.w) X.A X.xe use Qf (.ref sb.heap.objs.size) (sb.heap.push { cls := .type "list", data := .seq ([] : List Value).toArray }).objs.size) { sb with heap := pushCells ((sb.heap.push { cls := .type "list", data := .seq ([] : List Value).toArray }).push { cls := .type "dict", data := .dict #[] }) scope.names }
  rw [← hL, show (sb.heap.push { cls := .type "list", data := .seq ([] : List Value).toArray }) = sc.heap by rw [hsc], show ({ sb with heap := pushCells (sc.heap.push { cls := .type "dict", data := .dict #[] }) scope.names } : Shared) = { sc with heap := pushCells (sc.heap.push { cls := .type "dict", data := .dict #[] }) scope.names } by rw [hsc]]
  obtain ⟨Hc, hHc⟩ : ∃ Hc, Hc = upd Hb L (.lst []) := ⟨_, rfl⟩
  rw [← hHc] at Ic Id v0 fpc
  obtain ⟨ce, hce⟩ : ∃ ce, ce = compEnvC scope (cellsFrom (sc.heap.objs.size + 1) scope.names (cloFrom X.env.cells scope.names [])) sc.heap.objs.size X.env := ⟨_, rfl⟩
  have cL : ce.locals = sc.heap.objs.size := by rw [hce]; rfl
  -- the handled exception, seen from the block
  obtain ⟨pget, pno, pnl, pnf, _⟩ := Ic.pin px (List.mem_append_left _ pmem)
  have pfp : px.1 ∉ fp := fun z => (fpc _ z).1.2.2.2.2.2 px (List.mem_append_left _ pmem) rfl
  have pst : px.1 ∉ frs X.stack := by
    rcases Ic.ok.stk with z | ⟨z, fz⟩
    · rw [z]; exact pnf
    · rw [z]
      intro hm
      obtain ⟨e, he, q⟩ := List.mem_filterMap.mp hm
      rcases List.mem_cons.mp he with e1 | e1
      · rw [e1, fz] at q
        exact pnl (Option.some.inj q).symm
      · exact pnf (List.mem_filterMap.mpr ⟨e, e1, q⟩)
  have hotB : HotB (X.blk sc Hc scope ce fp) := fun _ _ _ _ I => ⟨px.1, hd, px.2, v1, I.base.keep _ _ pget pno pst pfp, d1, c1⟩
  have pg := pt.tg sc Hc sc.heap.objs.size (cellsFrom (sc.heap.objs.size + 1) scope.names (cloFrom X.env.cells scope.names [])) fp
  have pts := pt.ts sc Hc sc.heap.objs.size (cellsFrom (sc.heap.objs.size + 1) scope.names (cloFrom X.env.cells scope.names [])) fp
  have pel := pt.el sc Hc sc.heap.objs.size (cellsFrom (sc.heap.objs.size + 1) scope.names (cloFrom X.env.cells scope.names [])) fp
  rw [← hce] at pg pts pel Id ⊢
  have pg := pg hotB
  have pts := pts hotB
  have pel := pel hotB
  have std : tn 0 (pushCells (sc.heap.push { cls := .type "dict", data := .dict #[] }) scope.names) := T.keep _ _ _ stc fun b _ o e => pushCells_keeps _ _ _ _ (Heap.get?_push_of_some _ e)
  have fpk : ∀ {σ' : L2.St} {H' : Hp} {s' : Shared}, Inv (X.blk sc Hc scope ce fp) [] σ' H' s' → (∀ b ∈ fp, H' b = none) → ∀ b ∈ fp, FpOk (X.blk sc Hc scope ce fp) [] H' b := fun {σ' H' s'} I' n b hb =>
    ⟨n b hb, (I'.ok.exf b hb).1, I'.ok.exfs b hb, .inl hb, fun x c e => (I'.ok.exf b hb).2 x c e, fun p hp => absurd (show p ∈ ([] : List (Addr × Obj)) ++ [] from hp) (by simp)⟩
  have loop : codeAny (model X.prog X.w) X.A (.compLoop (.ListComp elt [⟨tg, iter, ifs, 0⟩] scope pos) 0 (.ref it) (.ref L) ce) (compPost (model X.prog X.w) X.A X.xe use Qf (.ref L) sc.heap.objs.size) { sc with heap := pushCells (sc.heap.push { cls := .type "dict", data := .dict #[] }) scope.names } := by
    refine compLoop_any (fun n s' => ∃ i H', Inv (X.blk sc Hc scope ce fp) [] (wipe σ (own.map (·.2))) H' s' ∧ tn i s'.heap ∧ (∀ b ∈ fp, H' b = none) ∧ V i n H') ?_ m0 ⟨0, Hc, Id, std, fun b hb => (fpc b hb).1.1, v0⟩
    rintro n se ⟨i, He, Ie, ste, ne, ve⟩
    rcases turn i n He ve with ⟨stop, qq⟩ | ⟨go, Nx, less, step⟩
    · obtain ⟨x1, hx1⟩ := hotB _ _ _ _ Ie
      have x1e : x1 = px.1 := by
        have z : some (Value.ref x1) = some (.ref px.1) := hx1.1.symm.trans hd
        cases z
        rfl
      refine thnF (T.done (X.blk sc Hc scope ce fp) rfl rfl rfl x1 i [] se _ He (fun _ _ => False) hx1 (by rw [x1e]; exact pfp) Ie (fpk Ie ne) ste stop) fun r sf ⟨hr, If⟩ => ?_
      subst hr
      have Ig : Inv X pins σ He sf := Ic.call' (ch := fp) If.os If.base If.hok If.bare fun b hb => ⟨(fpc b hb).1.2.2.2.1, (fpc b hb).1.2.1, (fpc b hb).1.2.2.2.2.1, (fpc b hb).1.2.2.2.2.2⟩
      obtain ⟨m, ns, _⟩ := If.loc
      have ns : sf.heap.Ns ce.locals m := ns
      have no : He ce.locals = none := If.free
      rw [cL] at ns no
      exact behind L sc.heap.objs.size sf m He Ig qq ns (Ic.fpOk (Nat.le_refl _) no)
    · refine thnF (T.item (X.blk sc Hc scope ce fp) rfl rfl rfl i [] se _ He (fun _ _ => False) Ie (fpk Ie ne) ste go) fun r sf ⟨u, hr, hf⟩ => ?_
      subst hr
      refine thnF hf fun _ sg ⟨x, Hg, Ig, rg, yg, stg, ng⟩ => ?_
      refine thnF (pg.run _ sg _ Hg x u _ (Ig.pinned (fpk Ig ng) (T.obj _ _ stg)) rg (step x Hg yg)) fun _ sh ⟨σh, Hh, Ih, wh, qh⟩ => ?_
      refine thnF (pts.run _ sh σh Hh _ Ih qh) fun b si ⟨Hi, Ii, qi⟩ => ?_
      have onward : ∀ {s' : Shared} {H' : Hp}, Inv (X.blk sc Hc scope ce fp) ([] ++ pinsAt fp sg.heap) σh H' s' → Nx H' → ∃ m, m < n ∧ ∃ i H', Inv (X.blk sc Hc scope ce fp) [] (wipe σ (own.map (·.2))) H' s' ∧ tn i s'.heap ∧ (∀ b ∈ fp, H' b = none) ∧ V i m H' := fun {s' H'} I' nx => by
        obtain ⟨m', lt, v'⟩ := less H' nx
        have pinned : ∀ b ∈ fp, ∀ o, sg.heap.get? b = some o → s'.heap.get? b = some o ∧ H' b = none := fun b hb o e =>
          ⟨(I'.pin (b, o) (List.mem_append_right _ (List.mem_append_right _ (mem_pinsAt hb e)))).1, (I'.pin (b, o) (List.mem_append_right _ (List.mem_append_right _ (mem_pinsAt hb e)))).2.1⟩
        refine ⟨m', lt, i + 1, H', (I'.unpinned (pins := [])).weak (by rw [← wh, wipe_length]) (fun j v e => ?_), T.keep _ _ _ stg fun b hb o e => (pinned b hb o e).1, fun b hb => ?_, v'⟩
        · rw [← wh] at e
          exact (wipe_some e).1
        · obtain ⟨o, e, _⟩ := T.obj _ _ stg b hb
          exact (pinned b hb o e).2
      cases b with
      | false =>
        simp only [Bool.false_eq_true, if_false] at qi ⊢
        exact onward Ii qi
      | true =>
        simp only [if_true] at qi ⊢
        refine thnF (pel.run _ si σh Hi _ Ii qi) fun z sj ⟨yv, Hj, Ij, rj, acc, haj, hzj, nx⟩ => ?_
        exact app_ok (X := X.blk sc Hc scope ce fp) Ij haj hzj rj fun sk Ik => onward Ik nx
  exact codeAny_compStart_list loop (T.self X.A 0 _ _ _ std loop)
theorem pe_lc (hot : L2H.HotC X) (nd : X.N.Nodup) (walks : PIX X tg iter wi) (ok : BlkOk X.N X.env.scope scope own) (pt : Parts X scope elt tg ifs g tt te) (nofold : ∀ x, foldedSetIterable iter X.env x = pure x := by intro _; rfl) :
    PE X (.ListComp elt [⟨tg, iter, ifs, 0⟩] scope pos) (tLc wi g tt te (own.map (·.2))) := by
  refine ⟨fun pins s σ H Q I h => ?_⟩
  rw [eval_ListComp]
  refine lc_hot hot nd I walks ok pt nofold h fun L C s' m H' I' q ns f => ⟨m, ns, fun h'' sb => ?_⟩
  obtain ⟨f0, f1, f2, f3, f4, f5⟩ := f
  exact ⟨.ref L, H', I'.turned (t' := s'.toks) (fun b o hb e => (sb.2 b hb).trans e) f0 f1 f3 f4 f5, rfl, q⟩
theorem ps_setLc {i : Nat} {y : Str} {py spos : Pos} (hot : L2H.HotC X) (nd : X.N.Nodup) (hy : X.N[i]? = some y) (hyl : X.env.scope.names.lookup y = some .local) (hsw : swapsWith (.ListComp elt [⟨tg, iter, ifs, 0⟩] scope pos) (some (.Name y py)) spos.line X.env = pure true)
    (walks : PIX X tg iter wi) (ok : BlkOk X.N X.env.scope scope own) (pt : Parts X scope elt tg ifs g tt te) (nofold : ∀ x, foldedSetIterable iter X.env x = pure x := by intro _; rfl) :
    PS X (.Assign [.Name y py] (.ListComp elt [⟨tg, iter, ifs, 0⟩] scope pos) spos) (tAsg (tLc wi g tt te (own.map (·.2))) (gName i)) := by
  refine ⟨fun pins s σ H D I h => ?_⟩
  rw [exec_Assign_Name_used _ _ _ _ hsw]
  refine wpAny_bind (wpAny_standAt (wpAny_bind ?_))
  show wpAny _ X.A (do let _ ← comprehension (.ListComp elt [⟨tg, iter, ifs, 0⟩] scope pos) scope X.env (firstIterPos [⟨tg, iter, ifs, 0⟩] pos) (newList []) false (eval iter X.env) (some (assign (.Name y py) X.env))) _ _ s
  have h : tLc wi g tt te (own.map (·.2)) σ H (fun x H1 => gName i x σ H1 D.nx) := h
  refine wpAny_bind (thn (lc_hot (Qf := fun _ s' => SP X pins D .next s') hot nd I walks ok pt nofold h fun L C s' m H' I' q ns f => ?_) fun _ s' hq => wpAny_pure (wpAny_pure hq))
  show wpAny _ _ (assign (.Name y py) X.env (.ref L)) _ _ _
  refine wpAny_assign_Name (store_ok2 (v := V.ref L) I' nd hy (.inl hyl) rfl (fun s2 I2 ⟨a, sb, wh⟩ => ?_) (.inr hyl))
  obtain ⟨f0, f1, f2, f3, f4, f5⟩ := f
  have Ca : C ≠ a := by
    rcases wh with z | z
    · rw [z]; exact f1
    · exact fun e => f4 y a z e.symm
  exact ⟨m, ns.sameBut sb Ca, fun h3 sb3 => ⟨_, H', I2.turned (t' := s2.toks) (fun b o hb e => (sb3.2 b hb).trans e) f0 f1 f3 f4 f5, q⟩⟩
end
end HX

set_option Elab.async false
set_option linter.all false
set_option maxRecDepth 100000
set_option maxHeartbeats 4000000
set_option autoImplicit false
namespace DL
open PySem PySem.Spec PyProof.Rows L2
section
variable {X : Cx} {Z : Zp} {N : En} {W : WX} {Y : Yp}
/-! ### s.join(xs) -/
theorem Wts.strs {G : Hp} {ca : Option Addr} : ∀ {vs : List V} {ds : List D} {ys : List Str}, Wts Y G ca vs ds → DL.strsOf ds = some ys → vs = ys.map V.str
  | _, _, _, .nil, e => by simp only [DL.strsOf] at e; cases e; rfl
  | _, .str x :: ds, ys, .cons h r, e => by
    simp only [DL.strsOf, Option.map_eq_some_iff] at e
    obtain ⟨zs, e1, rfl⟩ := e
    cases h
    rw [Wts.strs r e1]
    rfl
  | _, .non :: _, _, .cons _ _, e => by simp only [DL.strsOf] at e; cases e
  | _, .bl _ :: _, _, .cons _ _, e => by simp only [DL.strsOf] at e; cases e
  | _, .int _ :: _, _, .cons _ _, e => by simp only [DL.strsOf] at e; cases e
  | _, .tup _ :: _, _, .cons _ _, e => by simp only [DL.strsOf] at e; cases e
  | _, .lst _ :: _, _, .cons _ _, e => by simp only [DL.strsOf] at e; cases e
  | _, .cup :: _, _, .cons _ _, e => by simp only [DL.strsOf] at e; cases e
  | _, .fn _ :: _, _, .cons _ _, e => by simp only [DL.strsOf] at e; cases e
  | _, .ty _ :: _, _, .cons _ _, e => by simp only [DL.strsOf] at e; cases e
  | _, .exc :: _, _, .cons _ _, e => by simp only [DL.strsOf] at e; cases e
theorem join_eq (s : Str) (ys : List Str) : Txt.join s ys = Str.join s ys := eq_of_beq (join_plain_closes s ys)
theorem pd_join {w : Str} {e : Expr} {f : DE} {k : _} {apos cpos p : Pos} (ha : PDA X Z N W [e] (dArgs [f]))
    (hbase : attributeBase (.Constant (.str w) k p) "join" X.env (eval (.Constant (.str w) k p) X.env) = eval (.Constant (.str w) k p) X.env := by rfl)
    (hfew : ((backTo cpos (starEach [e] X.env)).all (fun x => !x.1) && (backToKw cpos (keywordEach [] X.env)).all (fun x => x.1.isSome)
      && decide (([e]).length + ([] : List Keyword).length + (if ([] : List Keyword).isEmpty then 0 else 1) < 30)) = true := by rfl)
    (hline : (apos.endLine == cpos.line) = true := by rfl) (hs : starEach [e] X.env = (false, eval e X.env) :: starEach [] X.env := by rfl) (hplain : (backTo cpos (starEach [] X.env)).any (·.1) = false := by rfl) :
    PD X Z N W (.Call (.Attribute (.Constant (.str w) k p) "join" apos) [e] [] cpos) (dO1 (D.join (.str w)) f) :=
  pe_imp (pe_bm PySem.F.plainAttrs_str PySem.F.slot_str_join PySem.F.type_str_join mt_join pe_str ha hbase hfew hline hs hplain) fun σ H Q ⟨G, ca, env, c, rs, h⟩ => by
    refine ⟨rfl, G, ca, env, c, rs, ?_⟩
    simp only [dO1] at h
    simp only [dArgs]
    cases e1 : f env c with
    | st => rw [e1] at h; exact h
    | er x c1 => rw [e1] at h; exact h
    | ok x c1 =>
      rw [e1] at h
      simp only [R.bind] at h ⊢
      intro G1 ca1 H1 vs s1 r1 w1
      cases e2 : D.join (.str w) x.d with
      | none => rw [e2] at h; exact h.elim
      | some d =>
        rw [e2] at h
        simp only [opt1] at h
        match vs, w1 with
        | [v], .cons wv .nil =>
          have ws := wv.read r1
          cases e3 : x.d with
          | lst xs =>
            rw [e3] at e2 ws
            simp only [D.join] at e2
            cases e4 : DL.strsOf xs with
            | none => rw [e4] at e2; cases e2
            | some ys =>
              rw [e4] at e2
              simp only [Option.bind] at e2
              split at e2
              · rename_i hz
                cases e2
                obtain ⟨a, us, rfl, q1, q2, q3⟩ := ws.lst r1.r0
                refine ⟨w, a, ys, rfl, rfl, .inl (by rw [← q2.strs e4]; exact sql q1), hz, ?_⟩
                rw [join_eq]
                exact h G1 ca1 H1 _ s1 r1 (.str _)
              · cases e2
          | tup xs =>
            rw [e3] at e2 ws
            simp only [D.join] at e2
            cases e4 : DL.strsOf xs with
            | none => rw [e4] at e2; cases e2
            | some ys =>
              rw [e4] at e2
              simp only [Option.bind] at e2
              split at e2
              · rename_i hz
                cases e2
                obtain ⟨a, us, rfl, q1, q2, q3⟩ := ws.tup r1.r0
                refine ⟨w, a, ys, rfl, rfl, .inr (by rw [← q2.strs e4]; exact q1), hz, ?_⟩
                rw [join_eq]
                exact h G1 ca1 H1 _ s1 r1 (.str _)
              · cases e2
          | _ => rw [e3] at e2; simp only [D.join] at e2; cases e2
/-! ### comprehensions within a suite -/
theorem pix_lst {tg l : Expr} {f : DE} (hl : PD X Z N W l f) : HX.PIX X tg l (tDI (yOf X Z) N W false (iLst f)) := by
  refine HX.pix_imp (HX.pix_list hl) fun σ H R h => ?_
  obtain ⟨G, ca, env, c, rs, h⟩ := h
  refine ⟨G, ca, env, c, rs, ?_⟩
  simp only [iLst] at h
  cases e : f env c with
  | st => rw [e] at h; exact h
  | er x c1 => rw [e] at h; exact h
  | ok x c1 =>
    rw [e] at h
    simp only [DL.R.bind] at h
    intro G1 ca1 H1 vx s1 r1 w1
    cases e3 : x.d with
    | lst xs =>
      rw [e3] at h
      obtain ⟨a, vs, rfl, hlen, hsz, k⟩ := aft_lst (st := false) r1 w1 e3 rfl
      refine ⟨a, rfl, ⟨vs, sql (k G1 ca1 H1 c1 aft_refl r1.r0).1⟩, h G1 ca1 H1 _ s1 r1 ⟨hsz, fun i G ca H c A r => ?_⟩⟩
      obtain ⟨k1, k2⟩ := k G ca H c A r
      refine ⟨fun d hd => ?_, fun hi => ⟨vs, sql k1, by rw [hlen]; exact hi⟩⟩
      obtain ⟨v, e1, w⟩ := k2.get hd
      refine ⟨⟨vs, v, sql k1, e1⟩, fun x H' hy => ?_⟩
      obtain ⟨rfl, hy⟩ := hy
      have e2 := hy vs (sql k1)
      rw [e1] at e2
      cases e2
      exact ⟨G, .refl, r, w⟩
    | _ => rw [e3] at h; exact h.elim
theorem pgd_tupX {es : List Expr} {k : _} {is : List Nat} {fs : List TG} {pos : Pos} (hot : HX.HotB X) (h : PGsD X Z N is es fs) (hl : fs.length = es.length)
    (hn : (assignEach es X.env).length = es.length := by rfl) (hst : (assignEach es X.env).findIdx? (·.1) = none := by rfl) : PGD X Z N is (.Tuple es k pos) (tgT fs) :=
  pg_imp (HX.pg_tup hot h hn hst) fun v σ H Q ⟨G, ca, env, c, d, env', r, w, e, k⟩ => by
    cases d with
    | tup ds =>
      cases w with
      | tup hs w l => exact ⟨_, _, rfl, sqT_mono r.r0.le hs, by rw [w.length, tgAll_len e, hl], G, ca, env, c, ds, env', r, w, e, k⟩
    | _ => cases e
section
variable {elt tg iter : Expr} {ifs : List Expr} {scope : Scope} {own : List (Str × Nat)} {pos : Pos} {it : DI} {g : TG} {t : DT} {e : DE} {is : List Nat}
theorem pdoX_lc (hot : L2H.HotC X) (hN : X.N.Nodup) (hi : HX.PIX X tg iter (tDI (yOf X Z) N W false it)) (ok : BlkOk X.N X.env.scope scope own)
    (hg : ∀ (s : Shared) (H : Hp) (C : Addr) (cl : List (Str × Addr)) (fp : List Addr), HX.HotB (X.blk s H scope (compEnvC scope cl C X.env) fp) → PGD (X.blk s H scope (compEnvC scope cl C X.env) fp) Z N is tg g)
    (ht : ∀ (s : Shared) (H : Hp) (C : Addr) (cl : List (Str × Addr)) (fp : List Addr), HX.HotB (X.blk s H scope (compEnvC scope cl C X.env) fp) → PTs (X.blk s H scope (compEnvC scope cl C X.env) fp) ifs (tDT (yOf X Z) N W0 t))
    (he : ∀ (s : Shared) (H : Hp) (C : Addr) (cl : List (Str × Addr)) (fp : List Addr), HX.HotB (X.blk s H scope (compEnvC scope cl C X.env) fp) → PD (X.blk s H scope (compEnvC scope cl C X.env) fp) Z N W0 elt e)
    (hsb : ∀ i ∈ is, i ∈ own.map (·.2)) (hs : ∀ x, foldedSetIterable iter X.env x = pure x := by intro _; rfl) :
    PDO X Z N W (.ListComp elt [⟨tg, iter, ifs, 0⟩] scope pos) (dComp it g t e (own.map (·.2))) :=
  pe_imp (HX.pe_lc (g := gD (yOf X Z) N is g) (te := tD (yOf X Z) N W0 e) hot hN hi ok ⟨hg, ht, he⟩ hs) fun σ H Q h => tlc_of (J0 := trivial) hsb h
end
/-! ### isinstance(e, C) -/
/-- the class of the number k at C, its instances asked of all classes -/
structure XcK (K : PySem.W.Frag) (mg : Str → Option Value) (Z : Zp) (sub : Nat → Nat → Bool) (n : Nat) : Prop where
  ex : ∀ (k : Nat) (C : Addr), mg (Z.xnm k) = some (.ref C) → k < n → ExcC K C
  kit : ∀ (k j : Nat) (C D : Addr), k < n → j < n → mg (Z.xnm k) = some (.ref C) → mg (Z.xnm j) = some (.ref D) → PySem.W.kitOne K (.ref C) (.ref D) = some (sub k j) ∧ PySem.W.exmOne K (.ref C) (.ref D) = some (sub k j)
theorem pd_isx {a C D : Addr} {oe : Obj} {pn : List (Addr × Obj)} {x : Ex} {sub : Nat → Nat → Bool} {i k n : Nat} {nm cn : Str} {p1 p2 p3 pos : Pos} (S : XcK X.K X.mg Z sub n) (hx : x.cls < n) (hk : k < n) (hC : X.mg (Z.xnm x.cls) = some (.ref C)) (zn : L2N.Zn (.ref C) none oe) (hf : ∃ vs, oe.data = .fields vs)
    (gl : Gl X "isinstance") (hm : X.mg "isinstance" = none) (hN : X.N[i]? = some nm) (hv : Vis X.env.scope nm) (hd : (nm == ("__debug__" : Str)) = false) (hcd : (nm == ("__classdict__" : Str)) = false)
    (gc : Gl X cn) (hD : X.mg cn = some (.ref D)) (hkn : Z.xnm k = cn) (cd : (cn == ("__debug__" : Str)) = false) :
    PD (X.suite a ((a, oe) :: pn)) { Z with ex := some a } N W (.Call (.Name "isinstance" p1) [.Name nm p2, .Name cn p3] [] pos) (dIsX sub x i k) := by
  have hn : (X.suite a ((a, oe) :: pn)).N[i]? = some nm := hN
  refine pe_imp (pe_callB (X := X.suite a ((a, oe) :: pn)) (call_isE (S.ex _ _ hC hx) zn.zc hf) gl hm boot_isinstance (pa_cons (pe_var hn hv hd hcd) (pa_cons (pe_glob gc hD (v := .ref D) rfl cd) pa_nil)) (by decide) (by decide)) fun σ H Q h => ?_
  obtain ⟨G, ca, env, c, rs, h⟩ := h
  simp only [dIsX] at h
  cases e : env[i]? with
  | none => rw [e] at h; exact h.elim
  | some sl =>
    rw [e] at h
    cases sl with
    | val d =>
      cases d with
      | exc =>
        obtain ⟨v, h1, h2⟩ := rs.val i _ e
        cases h2 with
        | exc ha =>
          have ha : some a = some _ := ha
          cases ha
          refine ⟨_, h1, .ref D, .ref D, sub x.cls k, rfl, fun u r => by cases r; rfl, ?_, h G ca H _ .refl rs (.bl _)⟩
          exact (S.kit _ _ _ _ hx hk hC (by rw [hkn]; exact hD)).1
      | _ => exact h.elim
    | _ => exact h.elim
end
end DL

set_option Elab.async false
set_option linter.all false
set_option maxRecDepth 100000
set_option maxHeartbeats 4000000
set_option autoImplicit false
/-! ## f(lambda: ..), f: try: call() / except .. as e: .. -/
namespace DL
open PySem PySem.Spec PyProof.Rows L2 LamX
section
variable {X : Cx} {Z : Zp} {N : En} {W : WX} {Y : Yp}
theorem RS0.other {Y Y' : Yp} {G H : Hp} {ca : Option Addr} {c : C} (r : RS0 Y G ca H c) (e : Y.Z.T = Y'.Z.T) : RS0 Y' G ca H c := ⟨r.le, by rw [← e]; exact r.tab, r.cup, r.nt⟩
theorem Wt.flat {Y Y' : Yp} {G : Hp} {ca : Option Addr} {v : V} {d : D} (w : Wt Y G ca v d) (h : d.flat = true) : Wt Y' G ca v d := by
  cases w with
  | non => exact .non
  | bl b => exact .bl b
  | int i => exact .int i
  | str x => exact .str x
  | _ => cases h
/-- what the getting def makes of the lambda's reading -/
def TTd (Y : Yp) (sem : (C → R D) → C → R D) : (XK → Hp → VK → Prop) → Hp → VK → Prop := fun tl H Q => ∃ G ca c lam, RS0 Y G ca H c ∧
  (∀ (E : XK) (Q' : VK), (match lam c with
    | .ok _ c1 => ∀ G1 ca1 H1 v, Stp G ca H G1 ca1 H1 → RS0 Y G1 ca1 H1 c1 → Q' v H1
    | .er x c1 => ∀ cls dd G1 ca1 H1, IsX Y x cls dd H1 → Stp G ca H G1 ca1 H1 → RS0 Y G1 ca1 H1 c1 → E cls dd H1
    | .st => False) → tl E H Q') ∧
  (match sem lam c with
    | .ok d c' => ∀ G' ca' H' v, Stp G ca H G' ca' H' → RS0 Y G' ca' H' c' → Wt Y G' ca' v d → Q v H'
    | _ => False)
theorem rs_none {n : Nat} {G H : Hp} {ca : Option Addr} {c : C} {σ : L2.St} (r : RS0 Y G ca H c) (hl : σ.length = n) : RS Y ⟨G, ca, H⟩ G ca σ H (List.replicate n .no) c where
  r0 := r
  st := .refl
  len := by rw [List.length_replicate, hl]
  val := fun i d h => by rw [List.getElem?_replicate] at h; split at h <;> cases h
  own := fun i xs h => by rw [List.getElem?_replicate] at h; split at h <;> cases h
  sep := fun i j xs ys a h => by rw [List.getElem?_replicate] at h; split at h <;> cases h
theorem gets_try {Ng : List Str} {x a h nm q : Str} {sg : Scope} {g CS : Addr} {cdg : Value} {b₀ : Stmt} {suite rest : List Stmt} {n ie : Nat} {catch_ : Nat → Bool} {suiteD : Ex → DS} {restD : DS} {p1 p2 p3 p4 p5 p6 : Pos}
    (hl : ∀ f : Addr, (L2.start Ng [V.ref f]).length = n) (h0 : ∀ f : Addr, (L2.start Ng [V.ref f])[0]? = some (some (V.ref f))) (nd : Ng.Nodup) (hie : Ng[ie]? = some nm) (hin : ie < n) (hloc : ∀ s H, (gcx X Ng x sg g cdg s H).env.kindOf nm = some .local)
    (gh : ∀ s H, Gl (gcx X Ng x sg g cdg s H) h) (dh : (h == ("__debug__" : Str)) = false) (mh : X.mg h = some (.ref CS))
    (hcatch : ∀ (k : Nat) (C : Addr), catch_ k = true → X.mg (Z.xnm k) = some (.ref C) → PySem.W.exmOne X.K (.ref C) (.ref CS) = some true)
    (hsu : ∀ (N : En) (s : Shared) (H : Hp) (a C : Addr) (oe : Obj) (pn : List (Addr × Obj)) (x' : Ex), catch_ x'.cls = true → X.mg (Z.xnm x'.cls) = some (.ref C) → L2N.Zn (.ref C) none oe → (∃ vs, oe.data = .fields vs) → L2H.RoomH 0 (gcx X Ng x sg g cdg s H).A →
      PSsD ((gcx X Ng x sg g cdg s H).nox.suite a ((a, oe) :: pn)) { Z with ex := some a } N W0 (b₀ :: suite) (suiteD x'))
    (hrest : ∀ (N : En) (s : Shared) (H : Hp), PSsD (gcx X Ng x sg g cdg s H).nox Z N W0 rest restD) :
    Gets X Ng x sg g cdg (.Try [.Expr (.Call (.Name a p1) [] [] p2) p3] [.ExceptHandler (some (.Name h p4)) (some nm) (b₀ :: suite) p5] [] [] p6 :: rest) a q (TTd (yOf X Z) (semTry n ie catch_ suiteD restD)) := by
  intro f c' s H Q tl act code hh room
  obtain ⟨G, ca, c, lam, r0, spec, fin⟩ := hh
  refine ⟨_, pss_cons (L2N.ps_try_as (X := (gcx X Ng x sg g cdg s H).nox) (c := .ref CS) (i := ie) (Wout := fun _ _ _ _ => False)
      (tb := fun W D σ H => σ[0]? = some (some (.ref f)) ∧ H c' = some (CodeO c' q) ∧ tl (fun cls d H' => W cls d σ H') H (fun _ H1 => D.nx σ H1))
      (ts := fun a cls d D σ H1 => ∃ (x' : Ex) (C : Addr), catch_ x'.cls = true ∧ X.mg (Z.xnm x'.cls) = some (.ref C) ∧ cls = .ref C ∧ d = none ∧ tS (yOf X { Z with ex := some a }) ⟨G, ca, H⟩ W0 (suiteD x') D σ H1)
      rfl rfl nd hie (hloc s H) ⟨gh s H, dh, .inl mh⟩ takesN0 (fun W pn xe tk _ => ?_) (fun a oe cls d pn zn hf => ?_)) (hrest ⟨G, ca, H⟩ s H), ?_⟩
  · refine ⟨fun pins s' σ H' D I h' => ?_⟩
    obtain ⟨h1, h2, h3⟩ := h'
    exact (pss_one (ps_expr (pos := p3) (act W pn xe p1 p2 tk))).run pins s' σ H' D I ⟨h1, h2, h3⟩
  · refine ⟨fun pins s' σ H' D I h' => ?_⟩
    obtain ⟨x', C, q0, q1, rfl, rfl, q3⟩ := h'
    exact (hsu ⟨G, ca, H⟩ s H a C oe pn x' q0 q1 zn hf room).run pins s' σ H' D I q3
  · have base : RS (yOf X Z) ⟨G, ca, H⟩ G ca (L2.start Ng [.ref f]) H (List.replicate n .no) c := rs_none r0 (hl f)
    refine ⟨h0 f, code, spec _ _ ?_⟩
    simp only [semTry] at fin
    cases e : lam c with
    | st => rw [e] at fin; exact fin
    | ok d c1 =>
      rw [e] at fin
      dsimp only at fin
      intro G1 ca1 H1 v s1 r1
      refine ⟨G1, ca1, List.replicate n .no, c1, base.step s1 r1, ?_⟩
      cases e2 : restD (List.replicate n .no) c1 with
      | nx env c2 =>
        rw [e2] at fin
        exact fun G2 ca2 σ2 H2 r2 _ => fin G2 ca2 H2 .non r2.st r2.r0 .non
      | rt d c2 =>
        rw [e2] at fin
        exact fun G2 ca2 H2 v s2 r2 w => fin G2 ca2 H2 v s2 r2 w
      | _ => rw [e2] at fin; exact fin.elim
    | er x' c1 =>
      rw [e] at fin
      dsimp only at fin
      intro cls dd G1 ca1 H1 hx s1 r1
      obtain ⟨C, m1, rfl, m2⟩ := hx
      by_cases hb : (catch_ x'.cls && x'.arg.isNon) = true
      · rw [if_pos hb] at fin
        rw [Bool.and_eq_true] at hb
        have m3 : dd = none := by
          have z := hb.2
          cases e3 : x'.arg with
          | non => rw [e3] at m2; exact m2
          | _ => rw [e3] at z; cases z
        refine ⟨true, hcatch _ _ hb.1 m1, fun _ a' ha' => ⟨x', C, hb.1, m1, rfl, m3, ?_⟩, fun z => by cases z⟩
        have env : RS (yOf X { Z with ex := some a' }) ⟨G, ca, H⟩ G1 ca1 ((L2.start Ng [.ref f]).set ie (some (.ref a'))) H1 ((List.replicate n .no).set ie (.val .exc)) c1 := by
          refine ⟨r1.other rfl, s1, by rw [List.length_set, List.length_set, List.length_replicate, hl f], fun i d h => ?_, fun i xs h => ?_, fun i j xs ys b h => ?_⟩
          · by_cases hi : ie = i
            · subst hi
              rw [List.getElem?_set_self (by rw [List.length_replicate]; exact hin)] at h
              cases h
              exact ⟨.ref a', List.getElem?_set_self (by rw [hl f]; exact hin), .exc rfl⟩
            · rw [List.getElem?_set_ne hi, List.getElem?_replicate] at h
              split at h <;> cases h
          · by_cases hi : ie = i
            · subst hi
              rw [List.getElem?_set_self (by rw [List.length_replicate]; exact hin)] at h
              cases h
            · rw [List.getElem?_set_ne hi, List.getElem?_replicate] at h
              split at h <;> cases h
          · by_cases hi : ie = i
            · subst hi
              rw [List.getElem?_set_self (by rw [List.length_replicate]; exact hin)] at h
              cases h
            · rw [List.getElem?_set_ne hi, List.getElem?_replicate] at h
              split at h <;> cases h
        refine ⟨G1, ca1, _, c1, env, ?_⟩
        cases e2 : suiteD x' ((List.replicate n .no).set ie (.val .exc)) c1 with
        | rt d c2 =>
          rw [e2] at fin
          dsimp only at fin
          by_cases hd : d.flat = true
          · rw [if_pos hd] at fin
            exact fun G2 ca2 H2 v s2 r2 w => fin G2 ca2 H2 v s2 (r2.other rfl) (w.flat hd)
          · rw [if_neg hd] at fin; exact fin.elim
        | _ => rw [e2] at fin; exact fin.elim
      · rw [if_neg hb] at fin; exact fin.elim
/-- the maker's side -/
theorem Stp.ext {G H H1 : Hp} {ca : Option Addr} (e : ExtN H H1) : Stp G ca H G ca H1 where
  le := fun _ _ h => h
  nw := fun _ _ h => .inl h
  dm := fun b h o ho => by
    by_cases t : ∃ ps, o = .tbl ps
    · exact t
    · exact h o (e b o ho fun ps z => t ⟨ps, z⟩)
  fr := fun b o h n _ => e b o h n
  cl := fun _ h => h
  cn := fun _ h => .inl h
theorem RS0.ext {G H H1 : Hp} {ca : Option Addr} {c : C} (r : RS0 Y G ca H c) (e : ExtN H H1) (t : Tabs Y.Z.T H1) : RS0 Y G ca H1 c where
  le := fun b u h => e b u (r.le b u h) fun ps z => r.nt b ps (by rw [← z]; exact h)
  tab := t
  cup := fun a h => ⟨e a _ (r.cup a h).1 notbl, (r.cup a h).2⟩
  nt := r.nt
theorem td_lam {sem : (C → R D) → C → R D} {body : DE} {σ : L2.St} {H : Hp} {Q : VK} (h : tD Y N W (dLam sem body) σ H Q) : tLam Y.Z.T (TTd Y sem) (fun E => tD Y N (fun cls d _ H' => E cls d H') body) σ H Q := by
  obtain ⟨G, ca, env, c, rs, h⟩ := h
  refine ⟨rs.r0.tab, fun H1 ext tabs => ⟨G, ca, c, fun c => (body env c).bind fun x c => .ok x.d c, rs.r0.ext ext tabs, fun E Q' hq => ?_, ?_⟩⟩
  · have rs1 := rs.step (.ext ext) (rs.r0.ext ext tabs)
    refine ⟨G, ca, env, c, rs1, ?_⟩
    dsimp only at hq
    cases e : body env c with
    | st => rw [e] at hq; exact hq
    | er x c1 =>
      rw [e] at hq
      exact fun cls dd G' ca' H' h1 s2 r2 => hq cls dd G' ca' H' h1 s2 r2.r0
    | ok rv c1 =>
      rw [e] at hq
      exact fun G' ca' H' v s2 r2 _ => hq G' ca' H' v s2 r2.r0
  · simp only [dLam] at h
    cases e : sem (fun c => (body env c).bind fun x c => .ok x.d c) c with
    | st => rw [e] at h; exact h.elim
    | er x c1 => rw [e] at h; exact h.elim
    | ok d c1 =>
      rw [e] at h
      intro G' ca' H' v s2 r2 w
      exact h G' ca' H' v ((Stp.ext ext).trans s2) (rs.step ((Stp.ext ext).trans s2) r2) w
end
end DL
namespace DL
open PySem PySem.Spec PyProof.Rows L2 LamX
section
variable {X : Cx} {Z : Zp} {N : En} {W : WX}
variable {elt tg iter : Expr} {ifs : List Expr} {scope : Scope} {own : List (Str × Nat)} {pos py spos : Pos} {it : DI} {g : TG} {t : DT} {e : DE} {is : List Nat} {i : Nat} {y : Str}
theorem psd_ownLcX (hot : L2H.HotC X) (hN : X.N.Nodup) (hy : X.N[i]? = some y) (hyl : X.env.scope.names.lookup y = some .local)
    (hsw : swapsWith (.ListComp elt [⟨tg, iter, ifs, 0⟩] scope pos) (some (.Name y py)) spos.line X.env = pure true) (hi : HX.PIX X tg iter (tDI (yOf X Z) N W false it)) (ok : BlkOk X.N X.env.scope scope own)
    (hg : ∀ (s : Shared) (H : Hp) (C : Addr) (cl : List (Str × Addr)) (fp : List Addr), HX.HotB (X.blk s H scope (compEnvC scope cl C X.env) fp) → PGD (X.blk s H scope (compEnvC scope cl C X.env) fp) Z N is tg g)
    (ht : ∀ (s : Shared) (H : Hp) (C : Addr) (cl : List (Str × Addr)) (fp : List Addr), HX.HotB (X.blk s H scope (compEnvC scope cl C X.env) fp) → PTs (X.blk s H scope (compEnvC scope cl C X.env) fp) ifs (tDT (yOf X Z) N W0 t))
    (he : ∀ (s : Shared) (H : Hp) (C : Addr) (cl : List (Str × Addr)) (fp : List Addr), HX.HotB (X.blk s H scope (compEnvC scope cl C X.env) fp) → PD (X.blk s H scope (compEnvC scope cl C X.env) fp) Z N W0 elt e)
    (hsb : ∀ i ∈ is, i ∈ own.map (·.2)) (hs : ∀ x, foldedSetIterable iter X.env x = pure x := by intro _; rfl) :
    PSD X Z N W (.Assign [.Name y py] (.ListComp elt [⟨tg, iter, ifs, 0⟩] scope pos) spos) (sOwn i (dComp it g t e (own.map (·.2)))) :=
  ps_imp (HX.ps_setLc (g := gD (yOf X Z) N is g) (te := tD (yOf X Z) N W0 e) hot hN hy hyl hsw hi ok ⟨hg, ht, he⟩ hs) fun D σ H h => tlc_of (J0 := trivial) hsb (own_asg h)
theorem psd_setLcX (hot : L2H.HotC X) (hN : X.N.Nodup) (hy : X.N[i]? = some y) (hyl : X.env.scope.names.lookup y = some .local)
    (hsw : swapsWith (.ListComp elt [⟨tg, iter, ifs, 0⟩] scope pos) (some (.Name y py)) spos.line X.env = pure true) (hi : HX.PIX X tg iter (tDI (yOf X Z) N W false it)) (ok : BlkOk X.N X.env.scope scope own)
    (hg : ∀ (s : Shared) (H : Hp) (C : Addr) (cl : List (Str × Addr)) (fp : List Addr), HX.HotB (X.blk s H scope (compEnvC scope cl C X.env) fp) → PGD (X.blk s H scope (compEnvC scope cl C X.env) fp) Z N is tg g)
    (ht : ∀ (s : Shared) (H : Hp) (C : Addr) (cl : List (Str × Addr)) (fp : List Addr), HX.HotB (X.blk s H scope (compEnvC scope cl C X.env) fp) → PTs (X.blk s H scope (compEnvC scope cl C X.env) fp) ifs (tDT (yOf X Z) N W0 t))
    (he : ∀ (s : Shared) (H : Hp) (C : Addr) (cl : List (Str × Addr)) (fp : List Addr), HX.HotB (X.blk s H scope (compEnvC scope cl C X.env) fp) → PD (X.blk s H scope (compEnvC scope cl C X.env) fp) Z N W0 elt e)
    (hsb : ∀ i ∈ is, i ∈ own.map (·.2)) (hs : ∀ x, foldedSetIterable iter X.env x = pure x := by intro _; rfl) :
    PSD X Z N W (.Assign [.Name y py] (.ListComp elt [⟨tg, iter, ifs, 0⟩] scope pos) spos) (sSet i (dComp it g t e (own.map (·.2)))) :=
  ps_imp (HX.ps_setLc (g := gD (yOf X Z) N is g) (te := tD (yOf X Z) N W0 e) hot hN hy hyl hsw hi ok ⟨hg, ht, he⟩ hs) fun D σ H h =>
    tlc_of (J0 := trivial) hsb (td_tdo (fun env c c' rv => dComp_lst env c c' rv) (tds h fun rv c G ca H v env rs w q => fin_set rs w q))
theorem hot_suite {a C : Addr} {oe : Obj} {pn : List (Addr × Obj)} (zn : L2N.Zn (.ref C) none oe) (hf : ∃ vs, oe.data = .fields vs) : L2H.HotC (X.suite a ((a, oe) :: pn)) := by
  obtain ⟨vs, hv⟩ := hf
  exact ⟨(a, oe), ⟨rfl, vs, hv, zn.2.2 vs hv⟩, List.mem_cons_self⟩
theorem un64H {A : Around} {e : Option Value} (r : L2H.RoomH 0 A) : (A.mark e).units + 64 < cLine := by have := r.un; show A.units + 64 < cLine; omega
theorem un65H {A : Around} {e : Option Value} (r : L2H.RoomH 0 A) : (A.mark e).units + 65 < cLine := by have := r.un; show A.units + 65 < cLine; omega
theorem catch_of {K : PySem.W.Frag} {mg : Str → Option Value} {sub : Nat → Nat → Bool} {n j : Nat} {CS : Addr} (S : XcK K mg Z sub n) (hj : j < n) (mj : mg (Z.xnm j) = some (.ref CS)) (hb : ∀ k, sub k j = true → k < n) :
    ∀ (k : Nat) (C : Addr), sub k j = true → mg (Z.xnm k) = some (.ref C) → PySem.W.exmOne K (.ref C) (.ref CS) = some true := fun k C hk hC => by
  rw [(S.kit k j C CS (hb k hk) hj hC mj).2, hk]
end
end DL
namespace DL
open PySem PySem.Spec PyProof.Rows L2 LamX
section
variable {X : Cx} {Z : Zp} {N : En} {W : WX}
/-- f() -/
theorem pd_call0 {k : Nat} {x : Str} {sem : DL.Sem} {p pos : Pos} (F : FnD X.prog X.w X.K X.mg X.base Z k x 0 sem) (hr : Room k X.A) (hg : Gl X x) (tk : L2N.Takes X W) (hdb : (x == ("__debug__" : Str)) = false) : PD X Z N W (.Call (.Name x p) [] [] pos) (dCall sem []) := by
  obtain ⟨f, fd, ps, hm, hk, hb, hlen, ok⟩ := F.ex
  have base : PE X (.Call (.Name x p) [] [] pos) (tCallSD (spD (yOf X Z) 0 sem) [] (fun σ cls dd H2 => W cls dd σ H2) tNil) := by
    refine ⟨fun pins s σ H Q I h => ?_⟩
    refine wpAny_Call_Name_kw (ld_glob I hg hm ?_ hdb)
    exact PySem.W.callWith_K0 I.kIn hk (run_fnSD (us := []) (vs := []) (ds := []) (dvs := []) ok hr hb .nil (L2N.passAt tk σ) I .nil h)
  refine pe_imp base fun σ H Q h => ?_
  have q := td_call (n := 0) (fs := []) rfl h
  obtain ⟨G, ca, env, c, rs, q⟩ := q
  exact q G ca H [] .refl rs .nil
end
end DL

set_option Elab.async false
set_option linter.all false
set_option maxRecDepth 100000
set_option maxHeartbeats 4000000
set_option autoImplicit false
namespace DL
open PySem PySem.Spec PyProof.Rows L2 LamX
/-! ### what _law_cup makes of a script -/
def cellOf (ns : List Int) : Int := let i := (ns ++ [0]).headD 0; if i < 0 then -i else i
def cup0 (ns : List Int) : C := ⟨if 10 ^ 18 ≤ cellOf ns then cellOf ns / 89 else 0, (cellOf ns * 331 + 4723) % 2044129279 + 191⟩
def spCup (K : PySem.W.Frag) : Sp := fun vs H Q _ => ∃ (a : Addr) (ns : List Int), vs = [.ref a] ∧ SqL K H a (ns.map V.int) ∧ ns.length ≤ 63 ∧ ∀ H' p, Same H H' → H p = none → H' p = some (.lst [.int (cup0 ns).a, .int (cup0 ns).b]) → Q (.ref p) H'
/-- the body's meaning, by its pieces: l the copy, z the zero list, r both, at the end p -/
theorem cup_first {K : PySem.W.Frag} {H : Hp} {a : Addr} {ns : List Int} (hS : SqL K H a (ns.map V.int)) : (ns.map V.int ++ [V.int 0])[0]? = some (.int ((ns ++ [0]).headD 0)) := by
  cases ns with
  | nil => rfl
  | cons x r => rfl
theorem cup_made {K : PySem.W.Frag} {H : Hp} {a : Addr} {ns : List Int} {Q : VK} (hS : SqL K H a (ns.map V.int)) (hlen : ns.length ≤ 63)
    (q : ∀ H' p, Same H H' → H p = none → H' p = some (.lst [.int (cup0 ns).a, .int (cup0 ns).b]) → Q (.ref p) H') :
    tSeq (tAsg (tCB (fun xs H Q => ∃ i, xs = [.int i] ∧ Q (.int (if i < 0 then -i else i)) H) (tCons (tOp (rIxL K) (tOp rCat (tCB (fun xs H Q => ∃ p ys, xs = [.ref p] ∧ (SqL K H p ys ∨ SqT K H p ys) ∧ ∀ l, H l = none → Q (.ref l) (upd H l (.lst ys))) (tCons (tVar 0) tNil)) (tLst (tCons (tC (.int 0)) tNil))) (tC (.int 0))) tNil)) (gName 1))
      (tRet (tLst (tCons (tIf (tTest (tOp (rI0 fun i j => .bl (decide (j ≤ i))) (tVar 1) (tOp (rI CPow fun i j => .int (i ^ j.toNat)) (tC (.int 10)) (tC (.int 18))))) (tOp (rI CDiv fun i j => .int (i / j)) (tVar 1) (tC (.int 89))) (tC (.int 0)))
        (tCons (tOp (rI0 fun i j => .int (i + j)) (tOp (rI (fun _ j => 0 < j) fun i j => .int (i % j)) (tCB (fun xs H Q => (∃ i, xs = [.int i] ∧ Q (.int i) H) ∨ ∃ k, xs = [.bl k] ∧ Q (.int (if k then 1 else 0)) H) (tCons (tOp (rI0 fun i j => .int (i + j)) (tOp (rI CMul fun i j => .int (i * j)) (tVar 1) (tC (.int 331))) (tC (.int 4723))) tNil)) (tC (.int 2044129279))) (tC (.int 191))) tNil))))
      { nx := fun _ H' => Q .non H', rt := Q } [some (.ref a), none] H := by
  refine ⟨.ref a, rfl, a, _, rfl, .inl hS, fun l nl => ⟨by decide, fun z nz => ⟨l, z, _, _, rfl, rfl, ?_, upd_same, ?_, fun r nr => ⟨r, _, 0, _, rfl, rfl, sql upd_same, atI_nat (j := 0) (cup_first hS), _, rfl, ?_⟩⟩⟩⟩
  · rw [upd_ne (ne_of_none upd_same nz)]; exact upd_same
  · rw [List.length_map]; exact Nat.le_of_lt (small1000 (by show ns.length + 1 ≤ 1000; omega))
  · have hc : (if (ns ++ [0]).headD 0 < 0 then -((ns ++ [0]).headD 0) else (ns ++ [0]).headD 0) = cellOf ns := rfl
    rw [hc]
    refine ⟨.int (cellOf ns), rfl, 10, 18, rfl, rfl, ⟨by decide, by decide, by decide⟩, cellOf ns, 10 ^ 18, rfl, rfl, _, rfl, ?_⟩
    have last : ∀ H1 : Hp, Same H H1 → ∀ x : Int, x = (cup0 ns).a → ∀ p, H1 p = none → Q (.ref p) (upd H1 p (.lst [.int x, .int (cup0 ns).b])) := fun H1 sm x e p np => by
      subst e
      exact q _ p (fun b o h => by rw [upd_ne (ne_of_none (sm b o h) np)]; exact sm b o h) (by
        cases e : H p with
        | none => rfl
        | some o => rw [sm p o e] at np; cases np) upd_same
    have tail : ∀ H1 : Hp, Same H H1 → ∀ x : Int, x = (cup0 ns).a → (tCons (tOp (rI0 fun i j => .int (i + j)) (tOp (rI (fun _ j => 0 < j) fun i j => .int (i % j)) (tCB (fun xs H Q => (∃ i, xs = [.int i] ∧ Q (.int i) H) ∨ ∃ k, xs = [.bl k] ∧ Q (.int (if k then 1 else 0)) H) (tCons (tOp (rI0 fun i j => .int (i + j)) (tOp (rI CMul fun i j => .int (i * j)) (tVar 1) (tC (.int 331))) (tC (.int 4723))) tNil)) (tC (.int 2044129279))) (tC (.int 191))) tNil) [some (.ref a), some (.int (cellOf ns))] H1 fun ys H2 => (V.int x :: ys).length ≤ sizeLine ∧ ∀ p, H2 p = none → Q (.ref p) (upd H2 p (.lst (V.int x :: ys))) := fun H1 sm x e =>
        ⟨_, rfl, _, _, rfl, rfl, .inr ⟨by decide, by decide⟩, _, _, rfl, rfl, .inl ⟨_, rfl, _, _, rfl, rfl, (by show (0 : Int) < 2044129279; decide), _, _, rfl, rfl, by show 2 ≤ sizeLine; decide, last H1 sm x e⟩⟩
    refine ite2 (fun e => ?_) (fun e => ?_)
    · refine ⟨_, rfl, _, _, rfl, rfl, ⟨by decide, by decide⟩, ?_⟩
      exact tail _ (fun b o h => DL.same_upd nr b o (DL.same_upd nz b o (DL.same_upd nl b o h))) _ (if_pos (of_decide_eq_true e)).symm
    · exact tail _ (fun b o h => DL.same_upd nr b o (DL.same_upd nz b o (DL.same_upd nl b o h))) _ (if_neg fun z => e (decide_eq_true z)).symm
/-! ### a def whose code object is known -/
structure FunC (K : PySem.W.Frag) (x : Str) (st : Stmt) (f : Addr) (fd : FuncData) (c : Addr) : Prop where
  ex : ∃ oc od kV doc pm an ct osl, fd = PySem.W.fnOf x x (defArgs st) (defBody st) (defScope st) .none kV doc pm an (.ref c) ct ∧
    K.lookup f = some ⟨oc, od, .func (PySem.W.fnOf x x (defArgs st) (defBody st) (defScope st) .none kV doc pm an (.ref c) ct), osl⟩ ∧ PySem.W.codeIn K (.ref c) x = true
  kp : PySem.W.keepIn K (.ref f) = true
section
variable {P : Program} {w : World} {K : PySem.W.Frag} {mg : Str → Option Value} {base : Heap} {Z : Zp}
theorem FunC.ok {x : Str} {st : Stmt} {f c : Addr} {fd : FuncData} {N ps : List Str} {k : Nat} {sp : Sp} (F : FunC K x st f fd c) (S : FnScope N ps (defScope st)) (len : ∀ vs H Q E, sp vs H Q E → vs.length = ps.length)
    (hbody : ∀ (A : Around) (outer : List PySem.Env) (s : Shared) (H : Hp) (vs : List V) (Q : VK) (E : XK), Room k (A.deeper (envOfC x (defScope st) s.heap.objs.size f (.ref c))) → sp vs H Q E →
      ∃ t, PSs (cxOf (L2N.CX P w) P w K mg base N x (defScope st) f (.ref c) A outer s H E) (defBody st) t ∧ t { nx := fun _ H' => Q .non H', rt := Q } (L2.start N vs) H) : FnOk P w K mg base (L2N.CX P w) (k + 1) f fd ps sp := by
  obtain ⟨oc, od, kV, doc, pm, an, ct, osl, rfl, lk, hcd⟩ := F.ex
  exact fn_of lk hcd S len hbody
theorem fnDc {x : Str} {st : Stmt} {f c : Addr} {fd : FuncData} {Nm ps : List Str} {k n : Nat} {sem : DL.Sem} {den : DS} (F : FunC K x st f fd c) (S : FnScope Nm ps (defScope st)) (hm : mg x = some (.ref f)) (hb : Binds K fd ps []) (hn : ps.length = n)
    (hsem : SemLe n sem (runF Nm.length den))
    (body : ∀ (A : Around) (outer : List PySem.Env) (s : Shared) (H : Hp) (E : XK) (En : En), Room k (A.deeper (envOfC x (defScope st) s.heap.objs.size f (.ref c))) →
      PSsD (cxOf (L2N.CX P w) P w K mg base Nm x (defScope st) f (.ref c) A outer s H E) Z En (fun cls d _ H => E cls d H) (defBody st) den) : FnD P w K mg base Z (k + 1) x n sem := by
  refine ⟨f, fd, ps, hm, F.kp, hb, hn, F.ok S (fun vs H Q E h => h.1.trans hn.symm) fun A outer s H vs Q E hr h => ?_⟩
  obtain ⟨hl, G, ca, c', ds, r, w, h⟩ := h
  have hd : ds.length = n := by rw [← w.length]; exact hl
  refine ⟨_, body A outer s H E ⟨G, ca, H⟩ hr, G, ca, _, c', rs_start r w, ?_⟩
  rcases hsem ds c' hd with e | e
  · rw [e] at h
    exact h.elim
  · rw [e] at h
    unfold runF at h
    cases e2 : den (ds.map .val ++ List.replicate (Nm.length - ds.length) .no) c' with
    | nx env c' =>
      rw [e2] at h
      exact fun G' ca' σ H' r' g => h G' ca' H' .non r'.st r'.r0 .non
    | rt d c' =>
      rw [e2] at h
      exact fun G' ca' H' v s r w => h G' ca' H' v s r w
    | er x env c' =>
      rw [e2] at h
      exact fun cls dd G' ca' σ H' h1 r' => h cls dd G' ca' H' h1 r'.st r'.r0
    | _ => rw [e2] at h; exact h.elim
/-! ### f(lambda: ..) -/
/-- the def x calls what it gets as a, and makes of it what sem says -/
structure GetD (K : PySem.W.Frag) (mg : Str → Option Value) (Z : Zp) (x a : Str) (sem : (C → R D) → C → R D) : Prop where
  ex : ∃ (g : Addr) (pg : Arguments) (bg : List Stmt) (sg : Scope) (dV kV doc pm cdv ct oc : Value) (an od : Option Addr) (osl : Array (Option Value)) (Ng : List Str), mg x = some (.ref g) ∧ PySem.W.keepIn K (.ref g) = true ∧
    K.lookup g = some ⟨oc, od, .func (PySem.W.fnOf x x pg bg sg dV kV doc pm an cdv ct), osl⟩ ∧ PySem.W.codeIn K cdv x = true ∧ L2.Binds K (PySem.W.fnOf x x pg bg sg dV kV doc pm an cdv ct) [a] [] ∧ FnScope Ng [a] sg ∧ Ng[0]? = some a ∧ Vis sg a ∧
    ∀ (X : Cx), X.K = K → X.mg = mg → ∀ q, Gets X Ng x sg g cdv bg a q (TTd ⟨K, mg, Z⟩ sem)
end
section
variable {X : Cx} {Z : Zp} {N : En} {W : WX} {Y : Yp}
theorem pd_lam {x a : Str} {sem : (C → R D) → C → R D} {params : Arguments} {body : Expr} {scope : Scope} {fb : DE} {k : Nat} {c Pt : Addr} {p lpos pos : Pos} (G : GetD X.K X.mg Z x a sem) (gl : Gl X x)
    (tabs : TabB X.base X.mg c Pt) (code : X.env.code = .ref c) (inT : (Pt, X.env.qual ++ "<lambda>") ∈ Z.T) (uniq : ∀ p ∈ Z.T, p.1 = Pt → p.2 = X.env.qual ++ "<lambda>") (rm : Room (k + 2) X.A) (ls : LamS X.env.scope scope) (nodef : defaultsOf params X.env = ([], []))
    (bnd : ∀ (q : Str) (cl : List (Str × Addr)) (pm cv ctv : Value), bindArgs (PySem.W.kla_fn "<lambda>" q params body scope cl pm cv ctv) ⟨[], []⟩ = pure [])
    (bd : ∀ (A : Around) (outer : List PySem.Env) (s : Shared) (H : Hp) (E : XK) (f c' : Addr), Room k (A.deeper (lamEnv X scope s.heap.objs.size f c')) → PD (lcx X A outer s H E scope f c') Z N (fun cls d _ H' => E cls d H') body fb)
    (nd0 : (x == ("__debug__" : Str)) = false) (nd1 : (a == ("__debug__" : Str)) = false) (nd2 : (a == ("__classdict__" : Str)) = false) :
    PD X Z N W (.Call (.Name x p) [.Lambda params body scope lpos] [] pos) (dLam sem fb) := by
  obtain ⟨g, pg, bg, sg, dV, kV, doc, pm, cdv, ct, oc, an, od, osl, Ng, mgx, kp, lk, cin, bs, fs, n0, vis, gets⟩ := G.ex
  exact pe_imp (pe_give (T := Z.T) (t := fun E => tD (yOf X Z) N (fun cls d _ H' => E cls d H') fb) gl mgx kp lk cin bs fs n0 vis (gets X rfl rfl _) tabs code inT uniq rm ls nodef bnd bd nd0 nd1 nd2) fun σ H Q h => td_lam (Y := yOf X Z) h
end
/-! ### the law -/
def spLaw (K : PySem.W.Frag) (TT : List (Addr × Str)) : Sp := fun vs H Q _ => ∃ (a : Addr) (ns : List Int), vs = [.ref a] ∧ Tabs TT H ∧ SqL K H a (ns.map V.int) ∧ ns.length ≤ 63 ∧ ∀ H', Q (.bl true) H'
section
variable {P : Program} {w : World} {K : PySem.W.Frag} {mg : Str → Option Value} {base : Heap} {Z : Zp}
theorem law_start {X : Cx} {i n : Nat} {fC : Addr} {fdC : FuncData} {rest : List Stmt} {den : DS} {W : WX} {p1 p2 p3 p4 p5 : Pos} (FC : FnOk X.prog X.w X.K X.mg X.base (L2N.CX X.prog X.w) 1 fC fdC ["script"] (spCup X.K)) (gC : X.mg "_law_cup" = some (.ref fC)) (kC : PySem.W.keepIn X.K (.ref fC) = true) (bC : Binds X.K fdC ["script"] [])
    (hr : Room 1 X.A) (nd : X.N.Nodup) (h0 : X.N[0]? = some ("script" : Str)) (hi : X.N[i]? = some ("cup" : Str)) (hin : i < n) (hi0 : i ≠ 0) (v0 : Vis X.env.scope "script") (lo : Loc X.env.scope "cup") (hf : X.fn "cup" = true ∨ X.env.scope.names.lookup ("cup" : Str) = some .local) (gl : Gl X "_law_cup")
    (hrest : ∀ N, PSsD X Z N W rest den) (hden : ∀ ns : List Int, ∃ c, den ((List.replicate n .no).set i (.val .cup)) (cup0 ns) = .rt (.bl true) c)
    (hs : swapsWith (.Call (.Name "_law_cup" p2) [.Name "script" p3] [] p4) (some (.Name "cup" p1)) p5.line X.env = pure false := by rfl)
    {Q : VK} {σ : L2.St} {H : Hp} {a : Addr} {ns : List Int} (hl : σ.length = n) (ha : σ[0]? = some (some (.ref a))) (hT : Tabs Z.T H) (hS : SqL X.K H a (ns.map V.int)) (hlen : ns.length ≤ 63) (q : ∀ H', Q (.bl true) H') :
    ∃ t, PSs X (.Assign [.Name "cup" p1] (.Call (.Name "_law_cup" p2) [.Name "script" p3] [] p4) p5 :: rest) t ∧ t { nx := fun _ H' => Q .non H', rt := Q } σ H := by
  obtain ⟨c1, e1⟩ := hden ns
  have call := pe_callSD (X := X) (p := p2) (pos := p4) (e := .Name "script" p3) (es := []) (E := fun _ _ _ _ => False) (dvs := []) FC hr gl gC kC bC .nil (fun σ pins H s e s' I z => by
    obtain ⟨_, _, _, _, _, _, _, _, _, _, _, _, z⟩ := z
    exact z.elim) (pa_cons (pe_var (i := 0) h0 v0) pa_nil)
  refine ⟨_, pss_cons (ps_set (i := i) nd hi lo call hs hf) (hrest ⟨fun _ => none, none, fun _ => none⟩), ?_⟩
  refine ⟨.ref a, ha, a, ns, rfl, hS, hlen, fun H' p sm np hp => ?_⟩
  have st : Stp (fun _ => none) none (fun _ => none) (fun _ => none) (some p) H' := ⟨fun _ _ h => h, fun _ _ h => .inl h, fun _ _ _ h => (by cases h), fun _ _ h _ _ => (by cases h), fun _ h => (by cases h), fun _ _ => .inr (.of rfl)⟩
  have r0 : RS0 (yOf X Z) (fun _ => none) (some p) H' (cup0 ns) := by
    refine ⟨fun _ _ h => (by cases h), hT.ext sm, fun b h => ?_, fun _ _ h => (by cases h)⟩
    cases h
    exact ⟨hp, rfl⟩
  have hlr : i < (List.replicate n Slot.no).length := by rw [List.length_replicate]; exact hin
  have rs : RS (yOf X Z) ⟨fun _ => none, none, fun _ => none⟩ (fun _ => none) (some p) (σ.set i (some (.ref p))) H' ((List.replicate n .no).set i (.val .cup)) (cup0 ns) := by
    refine ⟨r0, st, by rw [List.length_set, List.length_set, List.length_replicate, hl], fun j d h => ?_, fun j xs h => ?_, fun j k xs ys b h => ?_⟩
    · by_cases hj : i = j
      · subst hj
        rw [List.getElem?_set_self hlr] at h
        cases h
        exact ⟨.ref p, List.getElem?_set_self (by rw [hl]; exact hin), .cup rfl⟩
      · rw [List.getElem?_set_ne hj, List.getElem?_replicate] at h
        split at h <;> cases h
    · by_cases hj : i = j
      · subst hj
        rw [List.getElem?_set_self hlr] at h
        cases h
      · rw [List.getElem?_set_ne hj, List.getElem?_replicate] at h
        split at h <;> cases h
    · by_cases hj : i = j
      · subst hj
        rw [List.getElem?_set_self hlr] at h
        cases h
      · rw [List.getElem?_set_ne hj, List.getElem?_replicate] at h
        split at h <;> cases h
  refine ⟨_, _, _, _, rs, ?_⟩
  rw [e1]
  intro G2 ca2 H2 v s2 r2 w2
  cases w2
  exact q H2
/-! ### the row's end -/
theorem walk_tab {l : PySem.W.OpenLaw} {n k : Nat} {q : Program} {loose : List Str} {XP : (Str → Option Value) → Heap → Prop} {YP : World → Heap → Prop} {d : DefRec} {K : Params → PySem.W.Frag} {CX : World → CXT} {x : Str} {ts : List Str}
    (hn : l.most = some n) (hn2 : n ≤ sizeLine) (hdf : d.params.defaults = []) (hr : Room k callerA) (hts : ∀ t ∈ ts, ((recsOf q).find? fun e => e.name == t).isSome = true) (hY : ∀ (w : World) (h : Heap), YP w h → (K w.params).In h)
    (F : ∀ (w : World) (mg : Str → Option Value) (fa : Addr) (h : Heap), YP w h → (K w.params).In h → h.Ns mainGlobals mg → mg d.name = some (.ref fa) →
      (∀ t ∈ ts, ∀ c P, PySem.W.tabIn (K w.params) t = some (c, P) → PySem.W.CodeHd h c P ∧ h.get? P = some { cls := .none, data := .fields #[] }) → LawAtS l w (K w.params) (CX w) k n x mg fa h)
    (hCX : ∀ (w : World) (H : Hp) (s : Shared) (e : Value) (s' : Shared), CX w [] H s (fun _ _ _ => False) e s' → False) :
    PySem.W.WalkO q loose XP YP l.row.toRowW d [] (fun f vs => PySem.call f vs) := by
  refine Att.attach_callB hn hdf fun w s₀ s₁ mg mb fa o pm cd doc a vs ns G Y ho hd hcd hmg hobj hints hlen hbits hg => ?_
  have KX := hY w _ Y
  obtain ⟨fd, cs, sp, hT, nT, C, hb, hsp, hF⟩ := F w mg fa _ Y KX G.T.g hmg fun t ht c P e => by
    obtain ⟨dr, hdr⟩ := Option.isSome_iff_exists.mp (hts t ht)
    exact PySem.W.tab_of G.T KX hdr e
  exact law_callTs KX G.T.g G.T.b G.T.builtins G.T.nolimit hg hT nT C G.T.bmain hobj hints (Nat.le_trans hlen hn2) hr hF hb (fun H hH hS => hsp H a ns hlen hbits hH hS) fun H e s' => hCX w H s₁ e s'
end
end DL
namespace DL
open PySem PySem.Spec PyProof.Rows L2 LamX
theorem tab_fact {K : PySem.W.Frag} {x : Str} {f c P : Addr} {oc e : Value} {od dd : Option Addr} {fd : FuncData} {sl sl' : Array (Option Value)} {vs : Array Value} (a : PySem.W.nsIn K mainGlobals x = some (some (.ref f))) (l : K.lookup f = some ⟨oc, od, .func fd, sl⟩) (hc : fd.code = .ref c)
    (lc : K.lookup c = some ⟨e, dd, .fields vs, sl'⟩) (pv : vs[11]? = some (.ref P)) : PySem.W.tabIn K x = some (c, P) := by
  unfold PySem.W.tabIn
  rw [a]
  dsimp only
  rw [l]
  dsimp only
  rw [hc]
  dsimp only
  rw [lc]
  dsimp only
  rw [pv]
theorem pair_of {K : PySem.W.Frag} {C D : Addr} {b : Bool} (cc : PySem.W.subIn K (.ref C) (.ref C) = some true) (cd : PySem.W.subIn K (.ref C) (.ref D) = some b) (bD : PySem.W.subIn K (.ref D) (.type "BaseException") = some true) (hD : PySem.W.hasDictIn K D = true) (tD : PySem.W.typeIn K (.ref D) = some (.type "type")) :
    PySem.W.kitOne K (.ref C) (.ref D) = some b ∧ PySem.W.exmOne K (.ref C) (.ref D) = some b := by
  have ex := PySem.W.exm_ref bD hD tD cd
  refine ⟨?_, ex⟩
  unfold PySem.W.kitOne
  by_cases e : ((Value.ref C : Value) == Value.ref D) = true
  · rw [if_pos e]
    have e2 : C = D := by
      have := eq_of_beq e
      cases this
      rfl
    subst e2
    rw [cc] at cd
    exact cd
  · rw [if_neg e]
    unfold PySem.W.exmOne at ex
    rw [if_pos (by rw [bD] <;> rfl)] at ex
    exact ex
end DL

set_option Elab.async false
set_option linter.all false
set_option maxRecDepth 100000
set_option maxHeartbeats 4000000
set_option autoImplicit false
/-! ## defs as values -/
namespace DL
open PySem PySem.Spec PyProof.Rows L2 LamX
section
variable {P : Program} {w : World} {K : PySem.W.Frag} {mg : Str → Option Value} {base : Heap} {Z : Zp}
theorem FnD.up {k k' n : Nat} {x : Str} {sem : DL.Sem} (F : FnD P w K mg base Z k x n sem) (h : k ≤ k') : FnD P w K mg base Z k' x n sem := by
  obtain ⟨f, fd, ps, hm, hk, hb, hl, ok⟩ := F.ex
  exact ⟨f, fd, ps, hm, hk, hb, hl, ⟨ok.len, fun A outer s H args us vs Q E hr e0 bt r sp => ok.run A outer s H args us vs Q E (hr.mono h) e0 bt r sp⟩⟩
end
section
variable {X : Cx} {Z : Zp} {N : En} {W : WX}
theorem pd_fnv {k lev n : Nat} {x : Str} {sem : DL.Sem} {pos : Pos} (F : FnD X.prog X.w X.K X.mg X.base Z lev x n sem) (hg : Gl X x) (hk : Z.fnm k = x) (hd : (x == ("__debug__" : Str)) = false) : PD X Z N W (.Name x pos) (dC (.fn k)) := by
  obtain ⟨f, fd, ps, hm, _⟩ := F.ex
  exact pd_glob hg hm (v := .ref f) rfl (fun G ca => .fn (by show X.mg (Z.fnm k) = _; rw [hk]; exact hm)) hd
theorem pd_callV {i lev n : Nat} {x : Str} {tbl : Nat → Option DL.Sem} {e : Expr} {es : List Expr} {fs : List DE} {p pos : Pos} (hN : X.N[i]? = some x) (hv : Vis X.env.scope x) (hd : (x == ("__debug__" : Str)) = false) (hcd : (x == ("__classdict__" : Str)) = false)
    (F : ∀ k sem, tbl k = some sem → FnD X.prog X.w X.K X.mg X.base Z lev (Z.fnm k) n sem) (hr : Room lev X.A) (tk : L2N.Takes X W) (ha : PDA X Z N W (e :: es) (dArgs fs)) (hn : fs.length = n)
    (he : starEach (e :: es) X.env = (false, eval e X.env) :: starEach es X.env := by rfl) (hpl : (backTo pos (starEach es X.env)).any (·.1) = false := by rfl) : PD X Z N W (.Call (.Name x p) (e :: es) [] pos) (dCallV tbl i fs) := by
  refine ⟨fun pins s σ H Q I h => ?_⟩
  obtain ⟨G, ca, env, c, rs, h⟩ := h
  unfold dCallV at h
  cases e1 : env[i]? with
  | none => rw [e1] at h; exact h.elim
  | some sl =>
    rw [e1] at h
    cases sl with
    | val d =>
      cases d with
      | fn k =>
        dsimp only at h
        cases e2 : tbl k with
        | none => rw [e2] at h; exact h.elim
        | some sem =>
          rw [e2] at h
          obtain ⟨v, h1, h2⟩ := rs.val i _ e1
          cases h2 with
          | fn hm =>
            rename_i a
            have FF := F k sem e2
            obtain ⟨f, fd, ps, gm, hk, hb, hlen, ok⟩ := FF.ex
            have hm : X.mg (Z.fnm k) = some (.ref a) := hm
            rw [gm] at hm
            cases hm
            have q := td_call (n := n) (W := W) (N := N) (Y := yOf X Z) (σ := σ) (H := H) (Q := Q) hn ⟨G, ca, env, c, rs, h⟩
            refine wpAny_Call_Name_kw (thn ((pe_var (pos := p) (i := i) hN hv hd hcd).run pins s σ H (fun v H1 => v = .ref a ∧ H1 = H) I ⟨.ref a, h1, rfl, rfl⟩) fun u s1 ⟨v, H1, I1, r1, ev, eH⟩ => ?_)
            subst ev
            rw [eH] at I1
            obtain rfl : u = Value.ref a := r1
            refine PySem.W.callWith_K (h₀ := X.base) I.ok.mod.kin hk (thn (ha.run pos pins s1 σ H _ I1 q) fun us s2 ⟨vs, H2, I2, r, q2⟩ => ⟨I2.kIn, ?_⟩) he hpl
            exact run_fnSD (ds := []) (dvs := []) ok hr hb .nil (L2N.passAt tk σ) I2 r (by rw [List.append_nil]; exact q2)
      | _ => exact h.elim
    | _ => exact h.elim
end
end DL

set_option Elab.async false
set_option linter.all false
set_option maxRecDepth 100000
set_option maxHeartbeats 4000000
set_option autoImplicit false
/-! ## xs[::-1] -/
namespace DL
open PySem PySem.Spec PyProof.Rows L2 LamX
section
variable {X : Cx} {Z : Zp} {N : En} {W : WX}
def tRevL (K : PySem.W.Frag) (te : TE) : TE := fun σ H Q => te σ H fun v H1 => ∃ (a : Addr) (xs : List V), v = .ref a ∧ SqL K H1 a xs ∧ ∀ q, H1 q = none → Q (.ref q) (upd H1 q (.lst xs.reverse))
theorem pe_revL {e : Expr} {te : TE} {j : _} {p2 p3 p4 pos : Pos} (he : PE X e te) : PE X (.Subscript e (.Slice none none (some (.UnaryOp .USub (.Constant (.int 1) j p3) p4)) p2) pos) (tRevL X.K te) := by
  refine ⟨fun pins s σ H Q I h => ?_⟩
  refine Subscript_ (thn (he.run pins s σ H _ I h) fun v s1 ⟨x, H1, I1, r1, a, xs, ex, hx, q⟩ => ?_)
  subst ex
  cases r1
  have po : PO X (some (.UnaryOp .USub (.Constant (.int 1) j p3) p4)) _ := po_some (pe_un un_neg pe_int)
  refine wpAny_Slice (thn (po_none.run pins s1 σ H1 (fun l H2 => l = none ∧ H2 = H1) I1 ⟨rfl, rfl⟩) fun vl s2 ⟨l, H2, I2, pl, el, eh⟩ => ?_)
  subst el
  rw [eh] at I2
  refine thn (po_none.run pins s2 σ H1 (fun l H2 => l = none ∧ H2 = H1) I2 ⟨rfl, rfl⟩) fun vu s3 ⟨u, H3, I3, pu, el, eh⟩ => ?_
  subst el
  rw [eh] at I3
  refine thn (po.run pins s3 σ H1 (fun k H2 => k = some (-1) ∧ H2 = H1) I3 ?_) fun vk s4 ⟨k, H4, I4, pk, ek, eh⟩ => ?_
  · exact ⟨_, rfl, _, rfl, rfl, rfl⟩
  · subst ek
    rw [eh] at I4
    have I5 : Inv X pins σ H1 { s4 with heap := s4.heap.push { cls := .type "slice", data := .fields #[vl, vu, vk] } } := I4.kept (t' := s4.toks) fun b ob q => Heap.get?_push_of_some _ q
    obtain ⟨its, r, ht, hz⟩ := I5.list hx
    have hlen := r.length
    show wpAny (model X.prog X.w) X.A (subscriptTail e (.Slice none none (some (.UnaryOp .USub (.Constant (.int 1) j p3) p4)) p2) (.ref a) (.ref s4.heap.objs.size)) (EP X pins σ Q) X.xe { s4 with heap := s4.heap.push { cls := .type "slice", data := .fields #[vl, vu, vk] } }
    refine tail_any ht.isList.typeIs slot_list_getitem.lookup ?_ (by with_unfolding_all rfl)
    refine wpAny_getItem_list_slice ht.isList (Heap.IsSliceOf.new ..) pl pu pk (by decide) ?_ (by rw [List.size_toArray] <;> omega)
    rw [PySem.W.krv_pick]
    refine ⟨.ref (s4.heap.push { cls := .type "slice", data := .fields #[vl, vu, vk] }).objs.size, _, I5.laid (t' := s4.toks) (o := .lst xs.reverse) (fun b ob q => Heap.get?_push_of_some _ q) (Nat.le_refl _) ?_, rfl, q _ (I5.hok.fresh (Nat.le_refl _))⟩
    exact ⟨by rw [List.length_reverse]; exact hz, its.reverse, 0, r.reverse, Heap.get?_push_size _ rfl⟩
theorem pdo_rev {e : Expr} {f : DE} {j : _} {p2 p3 p4 pos : Pos} (he : PD X Z N W e f) : PDO X Z N W (.Subscript e (.Slice none none (some (.UnaryOp .USub (.Constant (.int 1) j p3) p4)) p2) pos) (dO1 D.revA f) :=
  pe_imp (pe_revL he) fun σ H Q ⟨G, ca, env, c, rs, h⟩ => by
    refine ⟨G, ca, env, c, rs, ?_⟩
    simp only [dO1] at h
    cases e1 : f env c with
    | st => rw [e1] at h; exact h
    | er x c1 => rw [e1] at h; exact h
    | ok x c1 =>
      rw [e1] at h
      simp only [R.bind] at h
      intro G1 ca1 H1 vx s1 r1 w1
      cases e2 : x.d with
      | lst xs =>
        rw [e2] at h
        obtain ⟨ds, e3, h⟩ := h
        cases e3
        have ws := w1.read r1
        rw [e2] at ws
        obtain ⟨a, us, rfl, q1, q2, q3⟩ := ws.lst r1.r0
        refine ⟨a, us, rfl, sql q1, fun q hq => ?_⟩
        exact h G1 ca1 _ q us.reverse (s1.trans (.new hq)) (r1.step (.new hq) (r1.r0.new hq)) (s1.dm q (.of hq)) upd_same (r1.r0.free hq) (r1.r0.ncup hq) q2.reverse (by rw [List.length_reverse]; exact q3)
      | _ => rw [e2] at h; exact h.elim
theorem rev_lst {f : DE} (env : DL.Env) (c c' : C) (rv : RV) (h : dO1 D.revA f env c = .ok rv c') : ∃ ds, rv = .pl (.lst ds) := by
  simp only [dO1] at h
  cases e1 : f env c with
  | st => rw [e1] at h; cases h
  | er x c1 => rw [e1] at h; cases h
  | ok x c1 =>
    rw [e1] at h
    simp only [R.bind] at h
    unfold D.revA at h
    split at h
    · cases h; exact ⟨_, rfl⟩
    · cases h
end
end DL

set_option Elab.async false
set_option linter.all false
set_option maxRecDepth 100000
set_option maxHeartbeats 4000000
set_option autoImplicit false
/-! ## bool - bool -/
namespace DL
open PySem PySem.Spec PyProof.Rows L2 LamX
section
variable {X : Cx} {Z : Zp}
def rSubB : R2 := fun x y H Q => ∃ a b : Bool, x = .bl a ∧ y = .bl b ∧ Q (.int ((if a = true then 1 else 0) - (if b = true then 1 else 0))) H
theorem op_subB : OpR X (binaryOp .Sub) rSubB := by
  intro pins s σ H x y u v Q I rx ry h
  obtain ⟨a, b, rfl, rfl, q⟩ := h
  cases rx
  cases ry
  exact sub_bool ⟨.int _, H, I.tok _, ⟨_, by cases a <;> cases b <;> rfl⟩, q⟩
theorem od_subB : OpD X Z (binaryOp .Sub) D.subB := ⟨_, op_subB, fun G ca H c x y dx dy d Q rs w1 w2 e q => by
  unfold D.subB at e
  split at e
  · cases e
    have e1 := w1.atom fun _ z => by cases z
    have e2 := w2.atom fun _ z => by cases z
    cases e1
    cases e2
    exact ⟨_, _, rfl, rfl, q.here rs (.int _)⟩
  · cases e⟩
theorem od_subA : OpD X Z (binaryOp .Sub) D.subA := opd_or od_sub od_subB
end
end DL

set_option Elab.async false
set_option linter.all false
set_option maxRecDepth 100000
set_option maxHeartbeats 4000000
set_option autoImplicit false
/-! ## a, b = a list -/
namespace DL
open PySem PySem.Spec PyProof.Rows L2 LamX
section
variable {X : Cx} {Z : Zp} {N : En} {W : WX}
theorem pgd_lst {es : List Expr} {k : _} {is : List Nat} {fs : List TG} {pos : Pos} (hc : X.calm = true) (h : PGsD X Z N is es fs) (hl : fs.length = es.length)
    (hn : (assignEach es X.env).length = es.length := by rfl) (hst : (assignEach es X.env).findIdx? (·.1) = none := by rfl) : PGD X Z N is (.Tuple es k pos) (tgL fs) :=
  pg_imp (pg_lst hc h hn hst) fun v σ H Q ⟨G, ca, env, c, d, env', r, w, e, k⟩ => by
    cases d with
    | lst ds =>
      cases w with
      | lst q1 q2 q3 => exact ⟨_, _, rfl, sql (r.r0.le _ _ q1), by rw [q2.length, tgAll_len e, hl], G, ca, env, c, ds, env', r, q2, e, k⟩
    | _ => cases e
end
end DL

set_option maxRecDepth 100000
set_option autoImplicit false
/-! own work: the data semantics evaluated by simp -/
namespace DL
@[simp] theorem ev_bind_ok {α β : Type} (a : α) (c : C) (f : α → C → R β) : (R.ok a c).bind f = f a c := rfl
@[simp] theorem ev_bind_er {α β : Type} (x : Ex) (c : C) (f : α → C → R β) : (R.er x c : R α).bind f = .er x c := rfl
@[simp] theorem ev_calm_ok {α : Type} (a : α) (c : C) : (R.ok a c).calm = .ok a c := rfl
@[simp] theorem ev_of_ok {α : Type} (a : α) (c : C) (env : Env) (f : α → C → F) : F.of (R.ok a c) env f = f a c := rfl
@[simp] theorem ev_of_er {α : Type} (x : Ex) (c : C) (env : Env) (f : α → C → F) : F.of (R.er x c : R α) env f = .er x env c := rfl
@[simp] theorem ev_rvd (d : D) : (RV.pl d).d = d := rfl
@[simp] theorem ev_rvo (i : Nat) (xs : List D) : (RV.ow i xs).d = .lst xs := rfl
@[simp] theorem ev_pln (d : D) : (RV.pl d).plain = true := rfl
@[simp] theorem ev_plo (i : Nat) (xs : List D) : (RV.ow i xs).plain = false := rfl
@[simp] theorem ev_c (d : D) (env : Env) (c : C) : dC d env c = .ok (.pl d) c := rfl
@[simp] theorem ev_opt1s (d : D) (c : C) : opt1 (some d) c = .ok (.pl d) c := rfl
@[simp] theorem ev_args0 (env : Env) (c : C) : dArgs [] env c = .ok [] c := rfl
@[simp] theorem ev_args1 (e : DE) (es : List DE) (env : Env) (c : C) : dArgs (e :: es) env c = (e env c).bind fun x c => (dArgs es env c).bind fun xs c => .ok (x :: xs) c := rfl
end DL
namespace DL
theorem ev_var {i : Nat} {d : D} {env : Env} {c : C} (h : env[i]? = some (.val d)) : dVar i env c = .ok (.pl d) c := by
  unfold dVar
  rw [h]
end DL
namespace DL
theorem run_rt {n : Nat} {body : DS} {ds : List D} {env : Env} {c c' : C} {d : D} (h : ds.map .val ++ List.replicate (n - ds.length) .no = env) (e : body env c = .rt d c') : runF n body ds c = .ok d c' := by
  unfold runF
  rw [h, e]
theorem run_nx {n : Nat} {body : DS} {ds : List D} {env env' : Env} {c c' : C} (h : ds.map .val ++ List.replicate (n - ds.length) .no = env) (e : body env c = .nx env' c') : runF n body ds c = .ok .non c' := by
  unfold runF
  rw [h, e]
theorem run_er {n : Nat} {body : DS} {ds : List D} {env env' : Env} {c c' : C} {x : Ex} (h : ds.map .val ++ List.replicate (n - ds.length) .no = env) (e : body env c = .er x env' c') : runF n body ds c = .er x c' := by
  unfold runF
  rw [h, e]
end DL

set_option maxRecDepth 10000
set_option autoImplicit false
set_option linter.all false
/-! own work: steps of the data semantics, the bodies kept shut -/
namespace DL
section
variable {tg : TG} {s t : DS} {x d : D} {xs : List D} {env env1 env2 : Env} {c c1 c2 : C} {e : Ex}
theorem for_nil : sForL tg s [] env c = .nx env c := rfl
theorem for_nx (h1 : tg x env = some env1) (h2 : s env1 c = .nx env2 c2) : sForL tg s (x :: xs) env c = sForL tg s xs env2 c2 := by
  rw [sForL, h1]
  dsimp only
  rw [h2]
theorem for_ct (h1 : tg x env = some env1) (h2 : s env1 c = .ct env2 c2) : sForL tg s (x :: xs) env c = sForL tg s xs env2 c2 := by
  rw [sForL, h1]
  dsimp only
  rw [h2]
theorem for_bk (h1 : tg x env = some env1) (h2 : s env1 c = .bk env2 c2) : sForL tg s (x :: xs) env c = .nx env2 c2 := by
  rw [sForL, h1]
  dsimp only
  rw [h2]
theorem for_rt (h1 : tg x env = some env1) (h2 : s env1 c = .rt d c2) : sForL tg s (x :: xs) env c = .rt d c2 := by
  rw [sForL, h1]
  dsimp only
  rw [h2]
theorem sfor_of {it : DI} (h : it env c = .ok xs c1) : sFor it tg s env c = sForL tg s xs env c1 := by
  rw [sFor, h]
  rfl
theorem seq_nx (h : s env c = .nx env1 c1) : sSeq s t env c = t env1 c1 := by rw [sSeq, h]
theorem seq_rt (h : s env c = .rt d c1) : sSeq s t env c = .rt d c1 := by rw [sSeq, h]
theorem seq_er (h : s env c = .er e env1 c1) : sSeq s t env c = .er e env1 c1 := by rw [sSeq, h]
theorem if_t {q : DT} (h : q env c = .ok true c1) : sIf q s t env c = s env c1 := by
  rw [sIf, h]
  rfl
theorem if_f {q : DT} (h : q env c = .ok false c1) : sIf q s t env c = t env c1 := by
  rw [sIf, h]
  rfl
theorem ret_of {e : DE} {v : RV} (h : e env c = .ok v c1) : sRet e env c = .rt v.d c1 := by
  rw [sRet, h]
  rfl
theorem set_of {e : DE} {i : Nat} (h : e env c = .ok (.pl d) c1) : sSet i e env c = .nx (env.set i (.val d)) c1 := by
  rw [sSet, h]
  rfl
theorem expr_of {e : DE} {v : RV} (h : e env c = .ok v c1) : sExpr e env c = .nx env c1 := by
  rw [sExpr, h]
  rfl
theorem app_of {e : DE} {i : Nat} (h0 : env[i]? = some (.own xs)) (h : e env c = .ok (.pl d) c1) (hl : xs.length < sizeL) : sApp i e env c = .nx (env.set i (.own (xs ++ [d]))) c1 := by
  rw [sApp, h0]
  dsimp only
  rw [h]
  show kApp i env xs (.pl d) c1 = _
  unfold kApp
  dsimp only
  rw [if_pos hl]
/-! tests -/
theorem te_of {e : DE} {v : RV} {k : Bool} (h : e env c = .ok v c1) (hk : v.d.truth = some k) : tE e env c = .ok k c1 := by
  rw [tE, h, ev_bind_ok, hk]
theorem te_bl {e : DE} {k : Bool} (h : e env c = .ok (.pl (.bl k)) c1) : tE e env c = .ok k c1 := te_of h rfl
theorem tb_of {e : DE} {k : Bool} (h : e env c = .ok (.pl (.bl k)) c1) : tBl e env c = .ok k c1 := by
  rw [tBl, h]
  rfl
theorem tnot_of {q : DT} {k : Bool} (h : q env c = .ok k c1) : tNot q env c = .ok (!k) c1 := by
  rw [tNot, h]
  rfl
theorem tand_of {p q : DT} {j k : Bool} (h : p env c = .ok j c1) (h2 : j = true → q env c1 = .ok k c2) (hc : j = false → c1 = c2) : tAnd p q env c = .ok (j && k) c2 := by
  rw [tAnd, h, ev_bind_ok]
  cases j with
  | true => rw [if_pos rfl, h2 rfl]; rfl
  | false => rw [if_neg (by decide), hc rfl]; rfl
theorem tor_of {p q : DT} {j k : Bool} (h : p env c = .ok j c1) (h2 : j = false → q env c1 = .ok k c2) (hc : j = true → c1 = c2) : tOr p q env c = .ok (j || k) c2 := by
  rw [tOr, h, ev_bind_ok]
  cases j with
  | false => rw [if_neg (by decide), h2 rfl]; rfl
  | true => rw [if_pos rfl, hc rfl]; rfl
/-! expressions -/
theorem o2_of {op : D → D → Option D} {a b : DE} {u v : RV} (h1 : a env c = .ok u c1) (h2 : b env c1 = .ok v c2) (h3 : op u.d v.d = some d) : dO2 op a b env c = .ok (.pl d) c2 := by
  rw [dO2, h1, ev_bind_ok, h2, ev_bind_ok, h3]
  rfl
theorem o1_of {op : D → Option D} {a : DE} {u : RV} (h1 : a env c = .ok u c1) (h3 : op u.d = some d) : dO1 op a env c = .ok (.pl d) c1 := by
  rw [dO1, h1, ev_bind_ok, h3]
  rfl
theorem and_t {a b : DE} {r : R RV} (h : a env c = .ok (.pl (.bl true)) c1) (h2 : b env c1 = r) : dAnd a b env c = r := by
  rw [dAnd, h]
  exact h2
theorem and_f {a b : DE} (h : a env c = .ok (.pl (.bl false)) c1) : dAnd a b env c = .ok (.pl (.bl false)) c1 := by
  rw [dAnd, h]
  rfl
theorem or_f {a b : DE} {r : R RV} (h : a env c = .ok (.pl (.bl false)) c1) (h2 : b env c1 = r) : dOr a b env c = r := by
  rw [dOr, h]
  exact h2
theorem or_t {a b : DE} (h : a env c = .ok (.pl (.bl true)) c1) : dOr a b env c = .ok (.pl (.bl true)) c1 := by
  rw [dOr, h]
  rfl
theorem ife_t {q : DT} {a b : DE} (h : q env c = .ok true c1) : dIf q a b env c = a env c1 := by
  rw [dIf, h]
  rfl
theorem ife_f {q : DT} {a b : DE} (h : q env c = .ok false c1) : dIf q a b env c = b env c1 := by
  rw [dIf, h]
  rfl
theorem args_nil : dArgs [] env c = .ok [] c := rfl
theorem args_cons {a : DE} {es : List DE} {v : RV} {vs : List RV} (h1 : a env c = .ok v c1) (h2 : dArgs es env c1 = .ok vs c2) : dArgs (a :: es) env c = .ok (v :: vs) c2 := by
  rw [ev_args1, h1, ev_bind_ok, h2]
  rfl
theorem args_1 {a : DE} {v : RV} (h1 : a env c = .ok v c1) : dArgs [a] env c = .ok [v] c1 := args_cons h1 args_nil
theorem args_2 {a b : DE} {u v : RV} (h1 : a env c = .ok u c1) (h2 : b env c1 = .ok v c2) : dArgs [a, b] env c = .ok [u, v] c2 := args_cons h1 (args_1 h2)
theorem args_3 {a b f : DE} {u v w : RV} {c3 : C} (h1 : a env c = .ok u c1) (h2 : b env c1 = .ok v c2) (h3 : f env c2 = .ok w c3) : dArgs [a, b, f] env c = .ok [u, v, w] c3 := args_cons h1 (args_2 h2 h3)
theorem call_of {sem : Sem} {es : List DE} {ds : List D} (h1 : dArgs es env c = .ok (ds.map .pl) c1) (h2 : sem ds c1 = .ok d c2) : dCall sem es env c = .ok (.pl d) c2 := by
  rw [dCall, h1, ev_bind_ok, List.map_map, show (RV.d ∘ RV.pl) = id from rfl, List.map_id, h2, ev_bind_ok]
  have : (ds.map RV.pl).all RV.plain = true := by
    rw [List.all_map]
    exact List.all_eq_true.mpr fun _ _ => rfl
  rw [this]
  rfl
theorem tup_of {es : List DE} {ds : List D} (h1 : dArgs es env c = .ok (ds.map .pl) c1) : dTup es env c = .ok (.pl (.tup ds)) c1 := by
  have : (ds.map RV.pl).all RV.plain = true := by
    rw [List.all_map]
    exact List.all_eq_true.mpr fun _ _ => rfl
  rw [dTup, h1, ev_bind_ok, if_pos this, List.map_map, show (RV.d ∘ RV.pl) = id from rfl, List.map_id]
theorem lst_of {es : List DE} {ds : List D} (h1 : dArgs es env c = .ok (ds.map .pl) c1) : dLst es env c = .ok (.pl (.lst ds)) c1 := by
  have : (ds.map RV.pl).all RV.plain = true := by
    rw [List.all_map]
    exact List.all_eq_true.mpr fun _ _ => rfl
  rw [dLst, h1, ev_bind_ok, if_pos this, List.map_map, show (RV.d ∘ RV.pl) = id from rfl, List.map_id]
theorem b_of {f : List D → Option D} {es : List DE} {ds : List D} (h1 : dArgs es env c = .ok (ds.map .pl) c1) (h2 : f ds = some d) : dB f es env c = .ok (.pl d) c1 := by
  rw [dB, h1, ev_bind_ok, List.map_map, show (RV.d ∘ RV.pl) = id from rfl, List.map_id, h2]
  rfl
theorem comp_of {it : DI} {q : DT} {a : DE} {vs : List Nat} {ys : List D} (h1 : it env c = .ok xs c1) (h2 : dLoop tg q a (wipeE env vs) xs c1 = .ok ys c2) : dComp it tg q a vs env c = .ok (.pl (.lst ys)) c2 := by
  rw [dComp, h1, ev_bind_ok, h2]
  rfl
theorem loop_yes {q : DT} {a : DE} {ys : List D} {c3 : C} (h1 : tg x env = some env1) (h2 : q env1 c = .ok true c1) (h3 : a env1 c1 = .ok (.pl d) c2) (h4 : dLoop tg q a env xs c2 = .ok ys c3) : dLoop tg q a env (x :: xs) c = .ok (d :: ys) c3 := by
  rw [dLoop, h1]
  dsimp only
  rw [h2, ev_bind_ok, if_pos rfl, h3, ev_bind_ok]
  dsimp only
  rw [h4]
  rfl
theorem loop_no {q : DT} {a : DE} {r : R (List D)} (h1 : tg x env = some env1) (h2 : q env1 c = .ok false c1) (h4 : dLoop tg q a env xs c1 = r) : dLoop tg q a env (x :: xs) c = r := by
  rw [dLoop, h1]
  dsimp only
  rw [h2, ev_bind_ok, if_neg (by decide), h4]
theorem loop_nil {q : DT} {a : DE} : dLoop tg q a env [] c = .ok [] c := rfl
end
end DL

set_option maxRecDepth 100000
set_option autoImplicit false
/-! own work: the program as data semantics (printed by gen.py) -/
namespace K68
open DL
def tbl_ : List (List Bool) := [[true, false, false, false], [true, true, false, false], [true, false, true, false], [true, false, false, true]]
def sub_ (k j : Nat) : Bool := (tbl_.getD k []).getD j false
def k_CRATES : D := .int 60
def k_GREAT : D := .int (1000000000000000000000000000000000000000000000000000000000000)
def den_is_whole : DS :=
  sRet (dAnd (dB bIsi [dVar 0, dC (.ty 2)]) (dAnd (dO1 D.inv (dB bIsi [dVar 0, dC (.ty 1)])) (dChain D.le D.le (dVar 1) (dVar 0) (dVar 2))))
def sem_is_whole : Sem := runF 3 den_is_whole
def den_is_tuple_of : DS :=
  sRet (dAnd (dB bIsi [dVar 0, dC (.ty 4)]) (dChain D.le D.le (dVar 1) (dB bLen [dVar 0]) (dVar 2)))
def sem_is_tuple_of : Sem := runF 3 den_is_tuple_of
def den_lowest : DS :=
  sSeq (sSet 2 (dIf (tBl (dO2 D.gt (dVar 1) (dC (.int 0)))) (dB m_gcd [dVar 0, dVar 1]) (dO1 D.neg (dB m_gcd [dVar 0, dVar 1])))) (
  sRet (dTup [dO2 D.fdiv (dVar 0) (dVar 2), dO2 D.fdiv (dVar 1) (dVar 2)]))
def sem_lowest : Sem := runF 3 den_lowest
def den_order_in : DS :=
  sSeq (sPar [(2, false), (3, false)] [dO2 D.mulA (dO2 D.ix (dVar 0) (dC (.int 0))) (dO2 D.ix (dVar 1) (dC (.int 1))), dO2 D.mulA (dO2 D.ix (dVar 1) (dC (.int 0))) (dO2 D.ix (dVar 0) (dC (.int 1)))]) (
  sRet (dO2 D.subA (dO2 D.gt (dVar 2) (dVar 3)) (dO2 D.lt (dVar 2) (dVar 3))))
def sem_order_in : Sem := runF 4 den_order_in
def den_found_ways : DS :=
  sRet (dIf (tBl (dChain D.le D.le (dC (.int 0)) (dVar 3) (dVar 2))) (dO2 D.mulA (dB m_comb [dVar 1, dVar 3]) (dB m_comb [dO2 D.subA (dVar 0) (dVar 1), dO2 D.subA (dVar 2) (dVar 3)])) (dC (.int 0)))
def sem_found_ways : Sem := runF 4 den_found_ways
def den__law_roll : DS :=
  sSeq (sIf (tBl (dO2 D.gt (dCup 0 0) (dC (.int 0)))) (sSeq (sSet 2 (dO2 D.mod (dB bInt [dCup 0 0]) (dVar 1))) (
  sSeq (sCup 0 0 (dO2 D.fdiv (dCup 0 0) (dVar 1))) (
  sRet (dVar 2)))) (sNil)) (
  sSeq (sCup 0 1 (dO2 D.mod (dB bInt [dO2 D.addA (dO2 D.mulA (dCup 0 1) (dC (.int 30559))) (dC (.int 8431))]) (dC (.int 2147483543)))) (
  sSeq (sSet 3 (dO2 D.mod (dB bInt [dO2 D.mulA (dCup 0 1) (dO2 D.addA (dCup 0 1) (dC (.int 263)))]) (dC (.int 2147483587)))) (
  sRet (dO2 D.mod (dB bInt [dO2 D.fdiv (dVar 3) (dC (.int 853))]) (dVar 1)))))
def sem__law_roll : Sem := runF 4 den__law_roll
def den__law_sort : DS :=
  sSeq (sIf (tOr (tBl (dO2 D.isN (dVar 0) (dC .non))) (tE (dB bIsi [dVar 0, dC (.ty 1)]))) (sRet (dIf (tBl (dO2 D.isN (dVar 0) (dC .non))) (dC (.int 0)) (dC (.int 1)))) (sNil)) (
  sSeq (sIf (tOr (tE (dB bIsi [dVar 0, dC (.ty 2)])) (tE (dB bIsi [dVar 0, dC (.ty 3)]))) (sRet (dIf (tE (dB bIsi [dVar 0, dC (.ty 2)])) (dC (.int 2)) (dC (.int 3)))) (sNil)) (
  sRet (dIf (tE (dB bIsi [dVar 0, dC (.ty 4)])) (dC (.int 4)) (dIf (tE (dB bIsi [dVar 0, dC (.ty 5)])) (dC (.int 5)) (dC (.int 6))))))
def sem__law_sort : Sem := runF 1 den__law_sort
def den__law_gcd : DS :=
  sSeq (sFor (iRng1 (dC (.int 400))) (tgN 2) (sSeq (sIf (tBl (dO2 D.eq (dVar 1) (dC (.int 0)))) (sRet (dVar 0)) (sNil)) (
  sPar [(0, false), (1, false)] [dVar 1, dO2 D.mod (dB bInt [dVar 0]) (dVar 1)]))) (
  sRet (dVar 0))
def sem__law_gcd : Sem := runF 3 den__law_gcd
def den__law_choose : DS :=
  sSeq (sSet 2 (dC (.int 1))) (
  sSeq (sFor (iRng1 (dVar 1)) (tgN 3) (sSet 2 (dO2 D.fdiv (dO2 D.mulA (dVar 2) (dO2 D.subA (dVar 0) (dVar 3))) (dO2 D.addA (dVar 3) (dC (.int 1)))))) (
  sRet (dIf (tBl (dChain D.le D.le (dC (.int 0)) (dVar 1) (dVar 0))) (dVar 2) (dC (.int 0)))))
def sem__law_choose : Sem := runF 4 den__law_choose
def suite__law_fails (x_ : Ex) : DS :=
  sSeq (sOwn 2 (dLst [])) (
  sSeq (sApp 2 (dTup [dC (.str (PySem.Str.ofString "number")), dIsX sub_ x_ 1 1])) (
  sSeq (sApp 2 (dTup [dC (.str (PySem.Str.ofString "rule")), dIsX sub_ x_ 1 3])) (
  sSeq (sApp 2 (dTup [dC (.str (PySem.Str.ofString "ratio")), dIsX sub_ x_ 1 2])) (
  sSeq (sSet 3 (dComp (iLst (dVar 2)) (tgT [tgN 4, tgN 5]) (tE (dVar 5)) (dVar 4) [4, 5])) (
  sRet (dIf (tBl (dO2 D.ne (dVar 3) (dLst []))) (dO1 (D.join (.str (PySem.Str.ofString " "))) (dVar 3)) (dC (.str (PySem.Str.ofString "other")))))))))
def rest__law_fails : DS :=
  sRet (dC (.str (PySem.Str.ofString "")))
def sem__law_fails : (C → R D) → C → R D := semTry 6 1 (fun k => sub_ k 0) suite__law_fails rest__law_fails
def den__law_at_most : DS :=
  sRet (dO2 D.le (dO2 D.mulA (dO2 D.ix (dVar 0) (dC (.int 0))) (dO2 D.ix (dVar 1) (dC (.int 1)))) (dO2 D.mulA (dO2 D.ix (dVar 1) (dC (.int 0))) (dO2 D.ix (dVar 0) (dC (.int 1)))))
def sem__law_at_most : Sem := runF 2 den__law_at_most
def den__law_at_least : DS :=
  sRet (dO2 D.ge (dO2 D.mulA (dO2 D.ix (dVar 0) (dC (.int 0))) (dO2 D.ix (dVar 1) (dC (.int 1)))) (dO2 D.mulA (dO2 D.ix (dVar 1) (dC (.int 0))) (dO2 D.ix (dVar 0) (dC (.int 1)))))
def sem__law_at_least : Sem := runF 2 den__law_at_least
def den_need_whole : DS :=
  sIf (tNot (tE (dCall (sem_is_whole) [dVar 0, dVar 1, dVar 2]))) (sRaise 1) (sNil)
def sem_need_whole : Sem := runF 3 den_need_whole
def den_is_ratio : DS :=
  sSeq (sIf (tOr (tNot (tE (dCall (sem_is_tuple_of) [dVar 0, dC (.int 2), dC (.int 2)]))) (tOr (tNot (tE (dCall (sem_is_whole) [dO2 D.ix (dVar 0) (dC (.int 0)), dO1 D.neg (dC k_GREAT), dC k_GREAT]))) (tNot (tE (dCall (sem_is_whole) [dO2 D.ix (dVar 0) (dC (.int 1)), dC (.int 1), dC k_GREAT]))))) (sRet (dC (.bl false))) (sNil)) (
  sRet (dO2 D.eq (dB m_gcd [dO2 D.ix (dVar 0) (dC (.int 0)), dO2 D.ix (dVar 0) (dC (.int 1))]) (dC (.int 1))))
def sem_is_ratio : Sem := runF 1 den_is_ratio
def den_is_rule_for : DS :=
  sRet (dAnd (dCall (sem_is_tuple_of) [dVar 1, dC (.int 2), dC (.int 2)]) (dAnd (dCall (sem_is_whole) [dO2 D.ix (dVar 1) (dC (.int 0)), dC (.int 0), dVar 0]) (dCall (sem_is_whole) [dO2 D.ix (dVar 1) (dC (.int 1)), dC (.int 0), dO2 D.ix (dVar 1) (dC (.int 0))])))
def sem_is_rule_for : Sem := runF 2 den_is_rule_for
def den_chance_in : DS :=
  sSeq (sSet 4 (dB bSum [dComp (iRng1 (dO2 D.addA (dVar 3) (dC (.int 1)))) (tgN 5) (tYes) (dCall (sem_found_ways) [dVar 0, dVar 1, dVar 2, dVar 5]) [5]])) (
  sRet (dCall (sem_lowest) [dVar 4, dB m_comb [dVar 0, dVar 2]]))
def sem_chance_in : Sem := runF 6 den_chance_in
def den__law_some : DS :=
  sRet (dO2 D.ix (dVar 1) (dCall (sem__law_roll) [dVar 0, dB bLen [dVar 1]]))
def sem__law_some : Sem := runF 2 den__law_some
def den__law_like (self_ : Sem) : DS :=
  sSeq (sSet 2 (dCall (sem__law_sort) [dVar 1])) (
  sSeq (sIf (tOr (tBl (dO2 D.ne (dCall (sem__law_sort) [dVar 0]) (dVar 2))) (tBl (dO2 D.eq (dVar 2) (dC (.int 6))))) (sRet (dC (.bl false))) (sNil)) (
  sSeq (sIf (tBl (dO2 D.mem (dVar 2) (dTup [dC (.int 4), dC (.int 5)]))) (sRet (dAnd (dO2 D.eq (dB bLen [dVar 0]) (dB bLen [dVar 1])) (dO2 D.eq (dComp (iZip false (dVar 0) (dVar 1)) (tgT [tgN 3, tgN 4]) (tNot (tE (dCall (self_) [dVar 3, dVar 4]))) (dC (.int 1)) [3, 4]) (dLst [])))) (sNil)) (
  sRet (dO2 D.eq (dVar 0) (dVar 1)))))
def sem__law_like : Nat → Sem
  | 0 => fun _ _ => .st
  | k + 1 => runF 5 (den__law_like (sem__law_like k))
def den__law_ratio : DS :=
  sSeq (sSet 2 (dCall (sem__law_gcd) [dVar 0, dVar 1])) (
  sRet (dTup [dO2 D.fdiv (dVar 0) (dVar 2), dO2 D.fdiv (dVar 1) (dVar 2)]))
def sem__law_ratio : Sem := runF 3 den__law_ratio
def den__law_chance : DS :=
  sSeq (sSet 3 (dC (.int 0))) (
  sSeq (sFor (iRng1 (dO2 D.addA (dO2 D.ix (dVar 2) (dC (.int 1))) (dC (.int 1)))) (tgN 4) (sSet 3 (dO2 D.addA (dVar 3) (dO2 D.mulA (dCall (sem__law_choose) [dVar 1, dVar 4]) (dCall (sem__law_choose) [dO2 D.subA (dVar 0) (dVar 1), dO2 D.subA (dO2 D.ix (dVar 2) (dC (.int 0))) (dVar 4)]))))) (
  sRet (dTup [dVar 3, dCall (sem__law_choose) [dVar 0, dO2 D.ix (dVar 2) (dC (.int 0))]])))
def sem__law_chance : Sem := runF 5 den__law_chance
def den_need_lot : DS :=
  sSeq (sExpr (dCall (sem_need_whole) [dVar 0, dC (.int 1), dC k_CRATES])) (
  sExpr (dCall (sem_need_whole) [dVar 1, dC (.int 0), dVar 0]))
def sem_need_lot : Sem := runF 2 den_need_lot
def den_need_rule : DS :=
  sIf (tNot (tE (dCall (sem_is_rule_for) [dVar 0, dVar 1]))) (sRaise 3) (sNil)
def sem_need_rule : Sem := runF 2 den_need_rule
def den_need_chance : DS :=
  sIf (tOr (tNot (tE (dCall (sem_is_ratio) [dVar 0]))) (tNot (tBl (dChain D.le D.le (dC (.int 0)) (dO2 D.ix (dVar 0) (dC (.int 0))) (dO2 D.ix (dVar 0) (dC (.int 1))))))) (sRaise 2) (sNil)
def sem_need_chance : Sem := runF 1 den_need_chance
def den_is_small : DS :=
  sRet (dO2 D.le (dCall (sem_order_in) [dCall (sem_chance_in) [dVar 0, dVar 1, dO2 D.ix (dVar 2) (dC (.int 0)), dO2 D.ix (dVar 2) (dC (.int 1))], dVar 3]) (dC (.int 0)))
def sem_is_small : Sem := runF 4 den_is_small
def den_is_great : DS :=
  sRet (dO2 D.ge (dCall (sem_order_in) [dCall (sem_chance_in) [dVar 0, dVar 1, dO2 D.ix (dVar 2) (dC (.int 0)), dO2 D.ix (dVar 2) (dC (.int 1))], dVar 3]) (dC (.int 0)))
def sem_is_great : Sem := runF 4 den_is_great
def den__law_near : DS :=
  sSeq (sTgt (tgT [tgN 2, tgN 3]) (dVar 1)) (
  sSeq (sSet 4 (dLst [dVar 1, dTup [dO2 D.addA (dO2 D.mulA (dVar 2) (dC (.int 1000))) (dC (.int 1)), dO2 D.mulA (dVar 3) (dC (.int 1000))], dTup [dB bMax2 [dC (.int 0), dO2 D.subA (dO2 D.mulA (dVar 2) (dC (.int 1000))) (dC (.int 1))], dO2 D.mulA (dVar 3) (dC (.int 1000))]])) (
  sSeq (sSet 5 (dCall (sem__law_some) [dVar 0, dO2 D.addA (dVar 4) (dLst [dTup [dC (.int 1), dC (.int 2)], dTup [dC (.int 0), dC (.int 1)], dTup [dC (.int 1), dC (.int 1)], dTup [dC (.int 9), dC (.int 10)], dTup [dC (.int 1), dC (.int 20)]])])) (
  sRet (dCall (sem__law_ratio) [dB bMin2 [dO2 D.ix (dVar 5) (dC (.int 0)), dO2 D.ix (dVar 5) (dC (.int 1))], dO2 D.ix (dVar 5) (dC (.int 1))]))))
def sem__law_near : Sem := runF 6 den__law_near
def den_checked : DS :=
  sSeq (sExpr (dCall (sem_need_whole) [dVar 0, dC (.int 1), dC k_CRATES])) (
  sSeq (sExpr (dCall (sem_need_rule) [dVar 0, dVar 1])) (
  sSeq (sExpr (dCall (sem_need_whole) [dVar 2, dC (.int 0), dVar 0])) (
  sExpr (dCall (sem_need_chance) [dVar 3]))))
def sem_checked : Sem := runF 4 den_checked
def den_least_drawn : DS :=
  sSeq (sExpr (dCall (sem_need_whole) [dVar 0, dC (.int 1), dC k_CRATES])) (
  sSeq (sExpr (dCall (sem_need_whole) [dVar 1, dC (.int 0), dVar 0])) (
  sSeq (sExpr (dCall (sem_need_whole) [dVar 2, dC (.int 0), dVar 0])) (
  sSeq (sExpr (dCall (sem_need_chance) [dVar 3])) (
  sSeq (sSet 4 (dComp (iRng2 (dVar 1) (dO2 D.addA (dVar 0) (dC (.int 1)))) (tgN 5) (tE (dCall (sem_is_small) [dVar 0, dVar 2, dTup [dVar 5, dVar 1], dVar 3])) (dVar 5) [5])) (
  sRet (dIf (tBl (dO2 D.ne (dVar 4) (dLst []))) (dO2 D.ix (dVar 4) (dC (.int 0))) (dC .non)))))))
def sem_least_drawn : Sem := runF 6 den_least_drawn
def den_best_rule : DS :=
  sSeq (sExpr (dCall (sem_need_lot) [dVar 0, dVar 1])) (
  sSeq (sExpr (dCall (sem_need_chance) [dVar 2])) (
  sSeq (sExpr (dCall (sem_need_whole) [dVar 3, dC (.int 0), dVar 0])) (
  sSeq (sExpr (dCall (sem_need_chance) [dVar 4])) (
  sSeq (sFor (iRng1 (dO2 D.addA (dVar 0) (dC (.int 1)))) (tgN 5) (sFor (iRng1 (dO2 D.addA (dVar 5) (dC (.int 1)))) (tgN 6) (sSeq (sSet 7 (dTup [dVar 5, dVar 6])) (
  sIf (tAnd (tE (dCall (sem_is_great) [dVar 0, dVar 1, dVar 7, dVar 2])) (tE (dCall (sem_is_small) [dVar 0, dVar 3, dVar 7, dVar 4]))) (sRet (dVar 7)) (sNil))))) (
  sRet (dC .non))))))
def sem_best_rule : Sem := runF 8 den_best_rule
def den_protects : DS :=
  sSeq (sExpr (dCall (sem_checked) [dVar 0, dVar 1, dVar 2, dVar 3])) (
  sRet (dCall (sem_is_small) [dVar 0, dVar 2, dVar 1, dVar 3]))
def sem_protects : Sem := runF 4 den_protects
def den_serves : DS :=
  sSeq (sExpr (dCall (sem_checked) [dVar 0, dVar 1, dVar 2, dVar 3])) (
  sRet (dCall (sem_is_great) [dVar 0, dVar 2, dVar 1, dVar 3]))
def sem_serves : Sem := runF 4 den_serves
def den__law_least_right : DS :=
  sSeq (sTgt (tgL [tgN 2, tgN 3, tgN 4]) (dComp (iRng1 (dC (.int 3))) (tgN 15) (tYes) (dCall (sem__law_roll) [dVar 0, dO2 D.addA (dVar 1) (dC (.int 1))]) [15])) (
  sSeq (sSet 5 (dB bMin2 [dVar 1, dCall (sem__law_some) [dVar 0, dLst [dC (.int 0), dC (.int 0), dC (.int 1), dC (.int 2), dCall (sem__law_roll) [dVar 0, dO2 D.addA (dVar 1) (dC (.int 1))]]]])) (
  sSeq (sSet 6 (dCall (sem__law_near) [dVar 0, dCall (sem__law_chance) [dVar 1, dVar 2, dTup [dB bMax2 [dVar 4, dVar 5], dVar 5]]])) (
  sSeq (sSet 8 (dComp (iRng2 (dVar 5) (dO2 D.addA (dVar 1) (dC (.int 1)))) (tgN 7) (tE (dCall (sem__law_at_most) [dCall (sem__law_chance) [dVar 1, dVar 2, dTup [dVar 7, dVar 5]], dVar 6])) (dVar 7) [7])) (
  sSeq (sIf (tNot (tE (dCall (sem__law_like 40) [dCall (sem_least_drawn) [dVar 1, dVar 5, dVar 2, dVar 6], dIf (tBl (dO2 D.ne (dVar 8) (dLst []))) (dO2 D.ix (dVar 8) (dC (.int 0))) (dC .non)]))) (sRet (dC (.bl false))) (sNil)) (
  sSeq (sPar [(9, false), (10, false)] [dCall (sem__law_near) [dVar 0, dCall (sem__law_chance) [dVar 1, dVar 3, dTup [dVar 4, dO2 D.fdiv (dVar 4) (dC (.int 4))]]], dVar 6]) (
  sSeq (sOwn 11 (dLst [])) (
  sSeq (sFor (iRng1 (dO2 D.addA (dVar 1) (dC (.int 1)))) (tgN 7) (sFor (iRng1 (dO2 D.addA (dVar 7) (dC (.int 1)))) (tgN 12) (sSeq (sSet 13 (dTup [dVar 7, dVar 12])) (
  sSeq (sSet 14 (dAnd (dO2 D.eq (dVar 11) (dLst [])) (dCall (sem__law_at_least) [dCall (sem__law_chance) [dVar 1, dVar 3, dVar 13], dVar 9]))) (
  sIf (tAnd (tE (dVar 14)) (tE (dCall (sem__law_at_most) [dCall (sem__law_chance) [dVar 1, dVar 2, dVar 13], dVar 10]))) (sApp 11 (dVar 13)) (sNil)))))) (
  sRet (dCall (sem__law_like 40) [dCall (sem_best_rule) [dVar 1, dVar 3, dVar 9, dVar 2, dVar 10], dIf (tBl (dO2 D.ne (dVar 11) (dLst []))) (dO2 D.ix (dVar 11) (dC (.int 0))) (dC .non)])))))))))
def sem__law_least_right : Sem := runF 16 den__law_least_right
def den__law_rule_right : DS :=
  sSeq (sSet 4 (dComp (iRng1 (dO2 D.addA (dVar 1) (dC (.int 1)))) (tgN 3) (tYes) (dCall (sem__law_chance) [dVar 1, dVar 3, dVar 2]) [3])) (
  sSeq (sFor (iRng1 (dC (.int 3))) (tgN 5) (sSeq (sSet 3 (dCall (sem__law_roll) [dVar 0, dO2 D.addA (dVar 1) (dC (.int 1))])) (
  sSeq (sSet 6 (dCall (sem__law_near) [dVar 0, dO2 D.ix (dVar 4) (dVar 3)])) (
  sSeq (sSet 7 (dO2 D.eq (dComp (iSeq false (dSl D.slA (dVar 4) (some (dVar 3)) none)) (tgN 8) (tNot (tE (dCall (sem__law_at_most) [dVar 8, dVar 6]))) (dVar 8) [8]) (dLst []))) (
  sSeq (sIf (tNot (tE (dCall (sem__law_like 40) [dCall (sem_protects) [dVar 1, dVar 2, dVar 3, dVar 6], dVar 7]))) (sRet (dC (.bl false))) (sNil)) (
  sSeq (sSet 7 (dO2 D.eq (dComp (iSeq false (dSl D.slA (dVar 4) none (some (dO2 D.addA (dVar 3) (dC (.int 1)))))) (tgN 8) (tNot (tE (dCall (sem__law_at_least) [dVar 8, dVar 6]))) (dVar 8) [8]) (dLst []))) (
  sIf (tNot (tE (dCall (sem__law_like 40) [dCall (sem_serves) [dVar 1, dVar 2, dVar 3, dVar 6], dVar 7]))) (sRet (dC (.bl false))) (sNil)))))))) (
  sRet (dC (.bl true))))
def sem__law_rule_right : Sem := runF 9 den__law_rule_right
def den__law_written : DS :=
  sSeq (sSet 0 (dLst [dCall (sem_protects) [dC (.int 10), dTup [dC (.int 3), dC (.int 0)], dC (.int 2), dTup [dC (.int 1), dC (.int 2)]], dCall (sem_serves) [dC (.int 10), dTup [dC (.int 3), dC (.int 0)], dC (.int 1), dTup [dC (.int 7), dC (.int 10)]], dCall (sem_serves) [dC (.int 10), dTup [dC (.int 3), dC (.int 0)], dC (.int 2), dTup [dC (.int 1), dC (.int 2)]]])) (
  sSeq (sSet 0 (dO2 D.addA (dVar 0) (dLst [dCall (sem_least_drawn) [dC (.int 10), dC (.int 0), dC (.int 2), dTup [dC (.int 1), dC (.int 10)]]]))) (
  sSeq (sSet 0 (dO2 D.addA (dVar 0) (dLst [dCall (sem_best_rule) [dC (.int 10), dC (.int 1), dTup [dC (.int 1), dC (.int 2)], dC (.int 5), dTup [dC (.int 1), dC (.int 10)]], dCall (sem_best_rule) [dC (.int 10), dC (.int 1), dTup [dC (.int 1), dC (.int 1)], dC (.int 1), dTup [dC (.int 0), dC (.int 1)]], dCall (sem_least_drawn) [dC (.int 10), dC (.int 3), dC (.int 2), dTup [dC (.int 1), dC (.int 2)]]]))) (
  sSeq (sSet 0 (dO2 D.addA (dVar 0) (dLst [dCall (sem_protects) [dC (.int 10), dTup [dC (.int 3), dC (.int 0)], dC (.int 2), dTup [dC (.int 7), dC (.int 15)]], dCall (sem_protects) [dC (.int 10), dTup [dC (.int 3), dC (.int 0)], dC (.int 2), dTup [dC (.int 6), dC (.int 13)]], dCall (sem_protects) [dC (.int 10), dTup [dC (.int 3), dC (.int 0)], dC (.int 0), dTup [dC (.int 99), dC (.int 100)]]]))) (
  sSeq (sIf (tNot (tE (dCall (sem__law_like 40) [dVar 0, dLst [dC (.bl true), dC (.bl true), dC (.bl false), dC (.int 7), dTup [dC (.int 3), dC (.int 0)], dC .non, dC .non, dC (.bl true), dC (.bl false), dC (.bl false)]]))) (sRet (dC (.bl false))) (sNil)) (
  sSeq (sSet 0 (dLst [dCall (sem_least_drawn) [dC (.int 60), dC (.int 0), dC (.int 1), dTup [dC (.int 1), dC (.int 2)]], dCall (sem_least_drawn) [dC (.int 60), dC (.int 0), dC (.int 1), dTup [dC (.int 0), dC (.int 1)]], dCall (sem_least_drawn) [dC (.int 60), dC (.int 0), dC (.int 30), dTup [dC (.int 1), dC (.int 2)]]])) (
  sSeq (sSet 0 (dO2 D.addA (dVar 0) (dLst [dCall (sem_least_drawn) [dC (.int 60), dC (.int 59), dC (.int 60), dTup [dC (.int 0), dC (.int 1)]]]))) (
  sSeq (sSet 0 (dO2 D.addA (dVar 0) (dLst [dCall (sem_least_drawn) [dC (.int 60), dC (.int 60), dC (.int 60), dTup [dC (.int 0), dC (.int 1)]], dCall (sem_least_drawn) [dC (.int 60), dC (.int 0), dC (.int 0), dTup [dC (.int 1), dC (.int 1)]], dCall (sem_best_rule) [dC (.int 60), dC (.int 60), dTup [dC (.int 1), dC (.int 1)], dC (.int 60), dTup [dC (.int 1), dC (.int 1)]]]))) (
  sSeq (sSet 0 (dO2 D.addA (dVar 0) (dLst [dCall (sem_best_rule) [dC (.int 60), dC (.int 29), dTup [dC (.int 1), dC (.int 1)], dC (.int 30), dTup [dC (.int 0), dC (.int 1)]], dCall (sem_best_rule) [dC (.int 60), dC (.int 0), dTup [dC (.int 1), dC (.int 1)], dC (.int 1), dTup [dC (.int 1), dC (.int 60)]], dCall (sem_least_drawn) [dC (.int 60), dC (.int 1), dC (.int 2), dTup [dC (.int 1), dC (.int 30)]]]))) (
  sRet (dCall (sem__law_like 40) [dVar 0, dLst [dC (.int 30), dC (.int 60), dC (.int 1), dC (.int 60), dC .non, dC (.int 0), dTup [dC (.int 0), dC (.int 0)], dTup [dC (.int 60), dC (.int 29)], dTup [dC (.int 59), dC (.int 0)], dC (.int 59)]]))))))))))
def sem__law_written : Sem := runF 1 den__law_written
def den__law_errors : DS :=
  sSeq (sPar [(1, true), (2, false)] [dLst [], dLst [dC .non, dTup [dC (.int 2), dC (.int 4)], dTup [dC (.int 3), dC (.int 2)], dTup [dO1 D.neg (dC (.int 1)), dC (.int 2)], dTup [dC (.int 1), dC (.int 0)], dLst [dC (.int 1), dC (.int 2)], dTup [dC (.bl true), dC (.int 2)], dTup [dC (.int 1)], dC (.str (PySem.Str.ofString "1"))]]) (
  sSeq (sSet 5 (dCall (sem__law_some) [dVar 0, dLst [dC .non, dTup [dC (.int 10), dC (.int 0)], dTup [dC (.int 0), dC (.int 1)], dLst [dC (.int 1), dC (.int 0)], dTup [dC (.int 1)]]])) (
  sSeq (sFor (iSeq true (dTup [dC (.fn 15), dC (.fn 16)])) (tgN 4) (sSeq (sOwn 1 (dO2 D.cat (dVar 1) (dComp (iSeq false (dTup [dC .non, dC (.int 0), dC (.int 61), dC (.bl true)])) (tgN 6) (tYes) (dLam sem__law_fails (dCallV (fun k => if k = 15 then some (sem_protects) else if k = 16 then some (sem_serves) else none) 4 [dVar 6, dC .non, dC .non, dC .non])) [6]))) (
  sSeq (sApp 1 (dLam sem__law_fails (dCallV (fun k => if k = 15 then some (sem_protects) else if k = 16 then some (sem_serves) else none) 4 [dC (.int 9), dVar 5, dC .non, dC .non]))) (
  sSeq (sOwn 1 (dO2 D.cat (dVar 1) (dComp (iSeq false (dTup [dC .non, dO1 D.neg (dC (.int 1)), dC (.int 10), dC (.bl false)])) (tgN 7) (tYes) (dLam sem__law_fails (dCallV (fun k => if k = 15 then some (sem_protects) else if k = 16 then some (sem_serves) else none) 4 [dC (.int 9), dTup [dC (.int 1), dC (.int 0)], dVar 7, dC .non])) [7]))) (
  sOwn 1 (dO2 D.cat (dVar 1) (dComp (iSeq false (dVar 2)) (tgN 8) (tYes) (dLam sem__law_fails (dCallV (fun k => if k = 15 then some (sem_protects) else if k = 16 then some (sem_serves) else none) 4 [dC (.int 9), dTup [dC (.int 1), dC (.int 0)], dC (.int 9), dVar 8])) [8]))))))) (
  sSeq (sOwn 1 (dO2 D.cat (dVar 1) (dComp (iSeq false (dTup [dC .non, dC (.int 0), dC (.int 61), dC (.bl true)])) (tgN 6) (tYes) (dLam sem__law_fails (dCall (sem_least_drawn) [dVar 6, dC .non, dC .non, dC .non])) [6]))) (
  sSeq (sOwn 1 (dO2 D.cat (dVar 1) (dComp (iSeq false (dTup [dC .non, dO1 D.neg (dC (.int 1)), dC (.int 10), dC (.bl false)])) (tgN 9) (tYes) (dLam sem__law_fails (dCall (sem_least_drawn) [dC (.int 9), dVar 9, dC .non, dC .non])) [9]))) (
  sSeq (sOwn 1 (dO2 D.cat (dVar 1) (dComp (iSeq false (dTup [dC .non, dO1 D.neg (dC (.int 1)), dC (.int 10), dC (.bl false)])) (tgN 7) (tYes) (dLam sem__law_fails (dCall (sem_least_drawn) [dC (.int 9), dC (.int 9), dVar 7, dC .non])) [7]))) (
  sSeq (sOwn 1 (dO2 D.cat (dVar 1) (dComp (iSeq false (dVar 2)) (tgN 8) (tYes) (dLam sem__law_fails (dCall (sem_least_drawn) [dC (.int 9), dC (.int 9), dC (.int 9), dVar 8])) [8]))) (
  sSeq (sOwn 1 (dO2 D.cat (dVar 1) (dComp (iSeq false (dTup [dC .non, dC (.int 0), dC (.int 61), dC (.bl true)])) (tgN 6) (tYes) (dLam sem__law_fails (dCall (sem_best_rule) [dVar 6, dC .non, dC .non, dC .non, dC .non])) [6]))) (
  sSeq (sOwn 1 (dO2 D.cat (dVar 1) (dComp (iSeq false (dTup [dC .non, dO1 D.neg (dC (.int 1)), dC (.int 10), dC (.bl false)])) (tgN 10) (tYes) (dLam sem__law_fails (dCall (sem_best_rule) [dC (.int 9), dVar 10, dC .non, dC .non, dC .non])) [10]))) (
  sSeq (sOwn 1 (dO2 D.cat (dVar 1) (dComp (iSeq false (dVar 2)) (tgN 8) (tYes) (dLam sem__law_fails (dCall (sem_best_rule) [dC (.int 9), dC (.int 0), dVar 8, dC .non, dC .non])) [8]))) (
  sSeq (sOwn 1 (dO2 D.cat (dVar 1) (dComp (iSeq false (dTup [dC .non, dO1 D.neg (dC (.int 1)), dC (.int 10), dC (.bl false)])) (tgN 7) (tYes) (dLam sem__law_fails (dCall (sem_best_rule) [dC (.int 9), dC (.int 0), dTup [dC (.int 1), dC (.int 2)], dVar 7, dC .non])) [7]))) (
  sSeq (sOwn 1 (dO2 D.cat (dVar 1) (dComp (iSeq false (dVar 2)) (tgN 8) (tYes) (dLam sem__law_fails (dCall (sem_best_rule) [dC (.int 9), dC (.int 0), dTup [dC (.int 1), dC (.int 2)], dC (.int 9), dVar 8])) [8]))) (
  sSeq (sSet 3 (dO2 D.addA (dO2 D.addA (dO2 D.addA (dO2 D.mulA (dLst [dC (.str (PySem.Str.ofString "number"))]) (dC (.int 4))) (dLst [dC (.str (PySem.Str.ofString "rule"))])) (dO2 D.mulA (dLst [dC (.str (PySem.Str.ofString "number"))]) (dC (.int 4)))) (dO2 D.mulA (dLst [dC (.str (PySem.Str.ofString "ratio"))]) (dC (.int 9))))) (
  sRet (dO2 D.eq (dVar 1) (dO2 D.addA (dO2 D.addA (dO2 D.addA (dO2 D.addA (dO2 D.addA (dO2 D.addA (dO2 D.mulA (dVar 3) (dC (.int 2))) (dO2 D.mulA (dLst [dC (.str (PySem.Str.ofString "number"))]) (dC (.int 12)))) (dO2 D.mulA (dLst [dC (.str (PySem.Str.ofString "ratio"))]) (dC (.int 9)))) (dO2 D.mulA (dLst [dC (.str (PySem.Str.ofString "number"))]) (dC (.int 8)))) (dO2 D.mulA (dLst [dC (.str (PySem.Str.ofString "ratio"))]) (dC (.int 9)))) (dO2 D.mulA (dLst [dC (.str (PySem.Str.ofString "number"))]) (dC (.int 4)))) (dO2 D.mulA (dLst [dC (.str (PySem.Str.ofString "ratio"))]) (dC (.int 9))))))))))))))))))
def sem__law_errors : Sem := runF 11 den__law_errors
def den_law : DS :=
  sSeq (sFor (iRng1 (dC (.int 5))) (tgN 2) (sSeq (sSet 3 (dCall (sem__law_some) [dVar 1, dLst [dO2 D.addA (dC (.int 1)) (dCall (sem__law_roll) [dVar 1, dC (.int 8)]), dC (.int 12), dO2 D.addA (dC (.int 1)) (dCall (sem__law_roll) [dVar 1, dC (.int 60)])]])) (
  sSeq (sSet 4 (dCall (sem__law_roll) [dVar 1, dO2 D.addA (dVar 3) (dC (.int 1))])) (
  sIf (tNot (tE (dCall (sem__law_rule_right) [dVar 1, dVar 3, dTup [dVar 4, dCall (sem__law_some) [dVar 1, dLst [dC (.int 0), dO2 D.fdiv (dVar 4) (dC (.int 3)), dVar 4]]]]))) (sRet (dC (.bl false))) (sNil))))) (
  sSeq (sFor (iRng1 (dC (.int 3))) (tgN 2) (sIf (tNot (tE (dCall (sem__law_least_right) [dVar 1, dO2 D.addA (dC (.int 1)) (dCall (sem__law_roll) [dVar 1, dC (.int 16)])]))) (sRet (dC (.bl false))) (sNil))) (
  sRet (dAnd (dCall (sem__law_written) []) (dCall (sem__law_errors) [dVar 1]))))
def run_law (c : C) : F := den_law ((List.replicate 5 .no).set 1 (.val .cup)) c
end K68

set_option maxRecDepth 100000
set_option autoImplicit false
set_option exponentiation.threshold 5000
namespace K68
open DL
theorem small_wide {m : Int} (h0 : 0 ≤ m) (h : m ≤ 2 ^ 64) : m.natAbs < wideLine := by
  unfold wideLine
  have h1 : m.natAbs ≤ 2 ^ 64 := by omega
  exact Nat.lt_of_le_of_lt h1 (Nat.pow_lt_pow_right (by decide) (by decide))
theorem mulOk_l {i j : Int} (h0 : 0 ≤ i) (h : i < 2 ^ 64) : mulOk i j = true := by
  unfold mulOk
  rw [decide_eq_true (show -(2 ^ 64) < i by omega), decide_eq_true h]
  rfl
theorem mulOk_r {i j : Int} (h0 : 0 ≤ j) (h : j < 2 ^ 64) : mulOk i j = true := by
  unfold mulOk
  rw [decide_eq_true (show -(2 ^ 64) < j by omega), decide_eq_true h]
  simp
theorem roll_spec (c : C) (m : Int) (hm : 0 < m) (hw : m ≤ 2 ^ 64) : ∃ v c', sem__law_roll [.cup, .int m] c = .ok (.int v) c' ∧ 0 ≤ v ∧ v < m := by
  have hw' := small_wide (Int.le_of_lt hm) hw
  by_cases h : 0 < c.a
  · refine ⟨c.a % m, ⟨c.a / m, c.b⟩, ?_, Int.emod_nonneg _ (by omega), Int.emod_lt_of_pos _ hm⟩
    simp [sem__law_roll, runF, den__law_roll, sSeq, sIf, tBl, dO2, dCup, sSet, kSet, dB, dVar, bInt, D.gt, D.mod, D.fdiv, sCup, sRet, cupGet, cupPut, h, hm, hw']
  · have k1 : mulOk c.b 30559 = true := mulOk_r (by decide) (by decide)
    have k2 : mulOk ((c.b * 30559 + 8431) % 2147483543) ((c.b * 30559 + 8431) % 2147483543 + 263) = true := mulOk_l (Int.emod_nonneg _ (by decide)) (Int.lt_trans (Int.emod_lt_of_pos _ (by decide)) (by decide))
    have k3 : (853 : Nat) < wideLine := small_wide (m := 853) (by decide) (by decide)
    refine ⟨(((c.b * 30559 + 8431) % 2147483543 * ((c.b * 30559 + 8431) % 2147483543 + 263)) % 2147483587 / 853) % m, ⟨c.a, (c.b * 30559 + 8431) % 2147483543⟩, ?_, Int.emod_nonneg _ (by omega), Int.emod_lt_of_pos _ hm⟩
    simp [sem__law_roll, runF, den__law_roll, sSeq, sIf, sNil, tBl, dO2, dCup, sSet, kSet, dB, dVar, bInt, D.gt, D.mod, D.fdiv, D.addA, D.add, D.mulA, D.mul, sCup, sRet, cupGet, cupPut, h, hm, hw', k1, k2, k3]
/-! ### binomials -/
def bin : Nat → Nat → Nat
  | _, 0 => 1
  | 0, _ + 1 => 0
  | n + 1, k + 1 => bin n k + bin n (k + 1)
theorem bin_zero (n : Nat) : bin n 0 = 1 := by cases n <;> rfl
theorem bin_gt : ∀ {n k : Nat}, n < k → bin n k = 0
  | _, 0, h => absurd h (by omega)
  | 0, k + 1, _ => rfl
  | n + 1, k + 1, h => by
    show bin n k + bin n (k + 1) = 0
    rw [bin_gt (by omega), bin_gt (by omega)]
theorem bin_self : ∀ n : Nat, bin n n = 1
  | 0 => rfl
  | n + 1 => by
    show bin n n + bin n (n + 1) = 1
    rw [bin_self n, bin_gt (by omega)]
theorem bin_succ (n k : Nat) : bin (n + 1) (k + 1) = bin n k + bin n (k + 1) := rfl
theorem bin_abs : ∀ n k : Nat, bin (n + 1) (k + 1) * (k + 1) = (n + 1) * bin n k
  | 0, 0 => by simp [bin]
  | 0, k + 1 => by simp [bin]
  | n + 1, 0 => by
    have h := bin_abs n 0
    rw [bin_zero] at h ⊢
    rw [bin_succ, bin_zero]
    grind
  | n + 1, k + 1 => by
    have h1 := bin_abs n k
    have h2 := bin_abs n (k + 1)
    have e := bin_succ n k
    rw [bin_succ (n + 1) (k + 1)]
    grind
/-- the next on the right -/
theorem bin_next : ∀ n k : Nat, (bin n (k + 1) : Int) * (k + 1) = bin n k * ((n : Int) - k)
  | 0, 0 => by simp [bin]
  | 0, k + 1 => by simp [bin]
  | n + 1, 0 => by
    have h := bin_abs n 0
    rw [bin_zero] at h ⊢
    have h2 : (bin (n + 1) (0 + 1) : Int) = n + 1 := by exact_mod_cast (by simpa using h)
    rw [h2]
    grind
  | n + 1, k + 1 => by
    have h1 := bin_abs n (k + 1)
    have h2 := bin_abs n k
    have e := bin_succ n k
    have h1' : (bin (n + 1) (k + 1 + 1) : Int) * (k + 1 + 1) = (n + 1) * bin n (k + 1) := by exact_mod_cast h1
    have h2' : (bin (n + 1) (k + 1) : Int) * (k + 1) = (n + 1) * bin n k := by exact_mod_cast h2
    have e' : (bin (n + 1) (k + 1) : Int) = bin n k + bin n (k + 1) := by exact_mod_cast e
    push_cast
    grind
/-! ### sums of products -/
/-- the sum of f over 0 .. c -/
def sumTo (f : Nat → Int) : Nat → Int
  | 0 => f 0
  | c + 1 => sumTo f c + f (c + 1)
def term (K M n i : Nat) : Int := if i ≤ n then (bin K i : Int) * bin M (n - i) else 0
def ways (K M n c : Nat) : Int := sumTo (term K M n) c
theorem term_nonneg (K M n i : Nat) : 0 ≤ term K M n i := by
  unfold term
  split
  · exact Int.mul_nonneg (Int.natCast_nonneg _) (Int.natCast_nonneg _)
  · exact Int.le_refl 0
theorem ways_nonneg (K M n : Nat) : ∀ c, 0 ≤ ways K M n c
  | 0 => term_nonneg K M n 0
  | c + 1 => Int.add_nonneg (ways_nonneg K M n c) (term_nonneg K M n (c + 1))
theorem ways_mono (K M n c : Nat) : ways K M n c ≤ ways K M n (c + 1) := by
  have := term_nonneg K M n (c + 1)
  show ways K M n c ≤ ways K M n c + term K M n (c + 1)
  omega
/-- one more bad crate -/
theorem ways_bad (K M n : Nat) : ∀ c, c < n → ways K (M + 1) n c - ways (K + 1) M n c = (bin K c : Int) * bin M (n - c - 1)
  | 0, h => by
    obtain ⟨m, rfl⟩ : ∃ m, n = m + 1 := ⟨n - 1, by omega⟩
    show term K (M + 1) (m + 1) 0 - term (K + 1) M (m + 1) 0 = _
    unfold term
    rw [if_pos (Nat.zero_le _), if_pos (Nat.zero_le _), bin_zero, bin_zero, Nat.sub_zero, Nat.add_sub_cancel, bin_succ]
    push_cast
    grind
  | c + 1, h => by
    have ih := ways_bad K M n c (by omega)
    obtain ⟨m, rfl⟩ : ∃ m, n = m + c + 2 := ⟨n - c - 2, by omega⟩
    show ways K (M + 1) (m + c + 2) c + term K (M + 1) (m + c + 2) (c + 1) - (ways (K + 1) M (m + c + 2) c + term (K + 1) M (m + c + 2) (c + 1)) = _
    unfold term
    rw [if_pos (by omega), if_pos (by omega), show m + c + 2 - (c + 1) = m + 1 by omega, bin_succ M m, bin_succ K c, show m + 1 - 1 = m from rfl]
    rw [show m + c + 2 - c - 1 = m + 1 by omega] at ih
    push_cast
    grind
theorem ways_all (K M n : Nat) : ways K (M + 1) n n = ways (K + 1) M n n := by
  cases n with
  | zero =>
    show term K (M + 1) 0 0 = term (K + 1) M 0 0
    unfold term
    simp [bin_zero]
  | succ n =>
    have h := ways_bad K M (n + 1) n (by omega)
    show ways K (M + 1) (n + 1) n + term K (M + 1) (n + 1) (n + 1) = ways (K + 1) M (n + 1) n + term (K + 1) M (n + 1) (n + 1)
    unfold term
    rw [if_pos (by omega), if_pos (by omega), Nat.sub_self, bin_zero, bin_zero, bin_succ]
    rw [show n + 1 - n - 1 = 0 by omega, bin_zero] at h
    push_cast at h ⊢
    grind
theorem ways_less_bad (K M n c : Nat) (h : c ≤ n) : ways (K + 1) M n c ≤ ways K (M + 1) n c := by
  rcases Nat.lt_or_ge c n with z | z
  · have := ways_bad K M n c z
    have : (0 : Int) ≤ (bin K c : Int) * bin M (n - c - 1) := Int.mul_nonneg (Int.natCast_nonneg _) (Int.natCast_nonneg _)
    omega
  · have e : c = n := by omega
    subst e
    rw [ways_all]
    exact Int.le_refl _
/-- one more drawn -/
theorem ways_drawn (K M n : Nat) : ∀ c, c ≤ n → ways K M n c * ((K : Int) + M - n) = ways K M (n + 1) c * (n + 1) + ((K : Int) - c) * term K M n c
  | 0, h => by
    show term K M n 0 * _ = term K M (n + 1) 0 * _ + (_ - (0 : Nat)) * term K M n 0
    unfold term
    rw [if_pos (Nat.zero_le _), if_pos (Nat.zero_le _), bin_zero, Nat.sub_zero, Nat.sub_zero]
    have := bin_next M n
    push_cast at this ⊢
    grind
  | c + 1, h => by
    have ih := ways_drawn K M n c (by omega)
    obtain ⟨m, rfl⟩ : ∃ m, n = m + c + 1 := ⟨n - c - 1, by omega⟩
    show (ways K M (m + c + 1) c + term K M (m + c + 1) (c + 1)) * _ = (ways K M (m + c + 2) c + term K M (m + c + 2) (c + 1)) * _ + _
    have e : ways K M (m + c + 1 + 1) c = ways K M (m + c + 2) c := rfl
    rw [e] at ih
    unfold term at ih ⊢
    rw [if_pos (by omega)] at ih
    rw [if_pos (by omega), if_pos (by omega), show m + c + 1 - (c + 1) = m by omega, show m + c + 2 - (c + 1) = m + 1 by omega]
    rw [show m + c + 1 - c = m + 1 by omega] at ih
    have n1 := bin_next M m
    have n2 := bin_next K c
    push_cast at ih ⊢
    grind
end K68

set_option maxRecDepth 100000
set_option autoImplicit false
set_option exponentiation.threshold 5000
namespace K68
open DL
/-! ### combinations by falling products -/
def fac : Nat → Nat
  | 0 => 1
  | k + 1 => (k + 1) * fac k
theorem fac_pos : ∀ k, 0 < fac k
  | 0 => by decide
  | k + 1 => Nat.mul_pos (by omega) (fac_pos k)
theorem fall_eq (n : Nat) : ∀ k, fallD n k = (bin n k : Int) * fac k
  | 0 => by rw [bin_zero]; rfl
  | k + 1 => by
    have ih := fall_eq n k
    unfold fallD at ih ⊢
    rw [List.range_succ, List.foldl_append, List.foldl_cons, List.foldl_nil, ih]
    have := bin_next n k
    show _ = (bin n (k + 1) : Int) * ((k + 1) * fac k : Nat)
    push_cast
    grind
theorem fall_div (n k : Nat) : fallD n k / fallD k k = bin n k := by
  rw [fall_eq, fall_eq, bin_self]
  have := fac_pos k
  rw [show ((1 : Nat) : Int) * fac k = fac k by simp]
  exact Int.mul_ediv_cancel _ (by omega)
theorem bin_fac : ∀ n k : Nat, k ≤ n → bin n k * (fac k * fac (n - k)) = fac n
  | n, 0, _ => by rw [bin_zero]; simp [fac]
  | 0, k + 1, h => absurd h (by omega)
  | n + 1, k + 1, h => by
    have ih := bin_fac n k (by omega)
    have a := bin_abs n k
    rw [show n + 1 - (k + 1) = n - k by omega]
    show _ * ((k + 1) * fac k * _) = (n + 1) * fac n
    grind
theorem bin_sym {n k : Nat} (h : k ≤ n) : bin n (n - k) = bin n k := by
  have a := bin_fac n k h
  have b := bin_fac n (n - k) (by omega)
  rw [show n - (n - k) = k by omega, Nat.mul_comm (fac (n - k))] at b
  exact Nat.eq_of_mul_eq_mul_right (Nat.mul_pos (fac_pos k) (fac_pos (n - k))) (b.trans a.symm)
theorem comb_eq {n k : Nat} (h : n ≤ 1000) : m_comb [.int n, .int k] = some (.int (bin n k)) := by
  unfold m_comb
  dsimp only
  rw [if_pos ⟨by omega, by omega, by omega⟩]
  congr 2
  by_cases e : (k : Int) > n
  · rw [if_pos e, bin_gt (by omega)]
    rfl
  · rw [if_neg e]
    rcases Nat.le_total k (n - k) with z | z
    · rw [show (min (k : Int) (n - k)) = (k : Nat) by omega, Int.toNat_natCast]
      exact fall_div n k
    · rw [show (min (k : Int) (n - k)) = ((n - k : Nat) : Int) by omega, Int.toNat_natCast, fall_div, bin_sym (by omega)]
theorem bin_le : ∀ n k : Nat, bin n k ≤ 2 ^ n
  | 0, 0 => by decide
  | 0, k + 1 => by simp [bin]
  | n + 1, 0 => by rw [bin_zero]; exact Nat.one_le_two_pow
  | n + 1, k + 1 => by
    have a := bin_le n k
    have b := bin_le n (k + 1)
    rw [bin_succ, Nat.pow_succ]
    omega
theorem bin_small {n : Nat} (h : n ≤ 60) (k : Nat) : (bin n k : Int) < 2 ^ 61 := by
  have a := bin_le n k
  have b : 2 ^ n ≤ 2 ^ 60 := Nat.pow_le_pow_right (by decide) h
  omega
theorem bin_pos : ∀ {n k : Nat}, k ≤ n → 0 < bin n k
  | n, 0, _ => by rw [bin_zero]; decide
  | 0, k + 1, h => absurd h (by omega)
  | n + 1, k + 1, h => by
    have := bin_pos (n := n) (k := k) (by omega)
    rw [bin_succ]
    omega
theorem ways_shift (n : Nat) : ∀ K M : Nat, ways K M n n = ways 0 (K + M) n n
  | 0, M => by rw [Nat.zero_add]
  | K + 1, M => by rw [← ways_all K M n, ways_shift n K (M + 1)]; congr 1; omega
theorem ways_0 (M n : Nat) : ∀ c, ways 0 M n c = bin M n
  | 0 => by
    show term 0 M n 0 = _
    unfold term
    rw [if_pos (Nat.zero_le _), bin_zero, Nat.sub_zero]
    simp
  | c + 1 => by
    show ways 0 M n c + term 0 M n (c + 1) = _
    rw [ways_0 M n c]
    unfold term
    split <;> simp [bin]
theorem ways_le (K M n c : Nat) (h : c ≤ n) : ways K M n c ≤ bin (K + M) n := by
  rw [← ways_0 (K + M) n n, ← ways_shift]
  have : ∀ d, ways K M n c ≤ ways K M n (c + d) := fun d => by
    induction d with
    | zero => exact Int.le_refl _
    | succ d ih => exact Int.le_trans ih (ways_mono K M n (c + d))
  have z := this (n - c)
  rwa [show c + (n - c) = n by omega] at z
/-! ### the defs: Euclid -/
theorem gcd_loop : ∀ (k a b : Nat) (xs : List D) (z : Slot) (c : C), b < 2 ^ k → 2 * k + 1 ≤ xs.length →
    sForL (tgN 2) (sSeq (sIf (tBl (dO2 D.eq (dVar 1) (dC (.int 0)))) (sRet (dVar 0)) (sNil)) (sPar [(0, false), (1, false)] [dVar 1, dO2 D.mod (dB bInt [dVar 0]) (dVar 1)])) xs [.val (.int a), .val (.int b), z] c = .rt (.int (Nat.gcd a b)) c := by
  have step : ∀ (a b : Nat) (x : D) (xs : List D) (z : Slot) (c : C), 0 < b →
      sForL (tgN 2) (sSeq (sIf (tBl (dO2 D.eq (dVar 1) (dC (.int 0)))) (sRet (dVar 0)) (sNil)) (sPar [(0, false), (1, false)] [dVar 1, dO2 D.mod (dB bInt [dVar 0]) (dVar 1)])) (x :: xs) [.val (.int a), .val (.int b), z] c =
      sForL (tgN 2) (sSeq (sIf (tBl (dO2 D.eq (dVar 1) (dC (.int 0)))) (sRet (dVar 0)) (sNil)) (sPar [(0, false), (1, false)] [dVar 1, dO2 D.mod (dB bInt [dVar 0]) (dVar 1)])) xs [.val (.int b), .val (.int (a % b : Nat)), .val x] c := by
    intro a b x xs z c hb
    have h1 : ((b : Int) == 0) = false := by simp; omega
    have h2 : (0 : Int) < b := by omega
    simp [sForL, tgN, sSeq, sIf, tBl, dO2, dVar, dB, bInt, D.eq, D.shal, D.eqv, sNil, sPar, parSet, D.mod, h1, hb]
  have stop : ∀ (a : Nat) (x : D) (xs : List D) (z : Slot) (c : C),
      sForL (tgN 2) (sSeq (sIf (tBl (dO2 D.eq (dVar 1) (dC (.int 0)))) (sRet (dVar 0)) (sNil)) (sPar [(0, false), (1, false)] [dVar 1, dO2 D.mod (dB bInt [dVar 0]) (dVar 1)])) (x :: xs) [.val (.int a), .val (.int (0 : Nat)), z] c = .rt (.int a) c := by
    intro a x xs z c
    simp [sForL, tgN, sSeq, sIf, tBl, dO2, dVar, D.eq, D.shal, D.eqv, sRet]
  intro k
  induction k with
  | zero =>
    intro a b xs z c h1 h2
    match xs, h2 with
    | x :: xs, _ =>
      have : b = 0 := by omega
      subst this
      rw [stop, Nat.gcd_zero_right]
  | succ k ih =>
    intro a b xs z c h1 h2
    match xs, h2 with
    | x :: y :: xs, h2 =>
      simp only [List.length_cons] at h2
      by_cases hb : b = 0
      · subst hb
        rw [stop, Nat.gcd_zero_right]
      · rw [step a b x _ z c (by omega)]
        by_cases hr : a % b = 0
        · rw [hr, stop, Nat.gcd_comm, Nat.gcd_rec, hr, Nat.gcd_zero_left]
        · rw [step b (a % b) y _ _ c (by omega), Nat.gcd_comm a b, Nat.gcd_rec b a, Nat.gcd_rec (a % b) b, Nat.gcd_comm]
          have m1 := Nat.mod_lt a (show b > 0 by omega)
          have m2 := Nat.mod_lt b (show a % b > 0 by omega)
          have m3 := Nat.div_add_mod b (a % b)
          have m4 : 1 ≤ b / (a % b) := (Nat.one_le_div_iff (by omega)).mpr (by omega)
          have m5 : a % b ≤ (a % b) * (b / (a % b)) := Nat.le_mul_of_pos_right _ m4
          rw [Nat.pow_succ] at h1
          exact ih (a % b) (b % (a % b)) xs _ c (by omega) (by omega)
end K68

set_option maxRecDepth 10000
set_option autoImplicit false
set_option exponentiation.threshold 5000
namespace K68
open DL
theorem rng_length : ∀ (n : Nat) (lo : Int), (rng lo n).length = n
  | 0, _ => rfl
  | n + 1, lo => by simp [rng, rng_length n]
theorem okR_nat {n : Nat} (h : n ≤ 1000) : okR (n : Int) = true := by
  unfold okR
  have h1 : -rngLine ≤ (n : Int) := by unfold rngLine; omega
  have h2 : (n : Int) < rngLine := by unfold rngLine; omega
  rw [decide_eq_true h1, decide_eq_true h2]
  rfl
theorem le_sizeL {n : Nat} (h : n ≤ 1000) : n ≤ sizeL := by unfold sizeL; omega
theorem rng1_nat (e : DE) (env : Env) (c c' : C) (n : Nat) (hn : n ≤ 1000) (h : e env c = .ok (.pl (.int n)) c') : iRng1 e env c = .ok (rng 0 n) c' := by
  have h3 : kRng1 (.pl (.int n)) c' = .ok (rng 0 n) c' := by
    unfold kRng1
    simp only [ev_rvd, Int.toNat_natCast]
    rw [if_pos (by rw [okR_nat hn, decide_eq_true (le_sizeL hn)]; decide)]
  unfold iRng1
  rw [h, ev_bind_ok, h3]
theorem gcd_spec (a b : Nat) (c : C) (h : b < 2 ^ 100) : sem__law_gcd [.int a, .int b] c = .ok (.int (Nat.gcd a b)) c := by
  have hr := rng1_nat (dC (.int (400 : Nat))) [.val (.int a), .val (.int b), .no] c c 400 (by decide) rfl
  have hl := gcd_loop 100 a b (rng 0 400) .no c h (by rw [rng_length]; decide)
  have e : den__law_gcd [.val (.int a), .val (.int b), .no] c = .rt (.int (Nat.gcd a b)) c := by
    unfold den__law_gcd
    unfold sSeq sFor
    rw [show (dC (D.int 400)) = dC (.int (400 : Nat)) from rfl, hr, ev_of_ok]
    exact congrArg (fun r => match r with | .nx env c => sRet (dVar 0) env c | r => r) hl
  have e2 : sem__law_gcd [.int a, .int b] c = (match den__law_gcd [.val (.int a), .val (.int b), .no] c with
    | .nx _ c => .ok .non c
    | .rt d c => .ok d c
    | .er x _ c => .er x c
    | _ => .st) := rfl
  rw [e2, e]
theorem lt100_wide {m : Nat} (h : m < 2 ^ 100) : m < wideLine := by
  have : (2 : Nat) ^ 100 ≤ 2 ^ 4000 := Nat.pow_le_pow_right (by decide) (by decide)
  unfold wideLine
  omega
theorem ratio_spec (a b : Nat) (c : C) (h : b < 2 ^ 100) (hb : 0 < b) : sem__law_ratio [.int a, .int b] c = .ok (.tup [.int (a / Nat.gcd a b : Nat), .int (b / Nat.gcd a b : Nat)]) c := by
  have g0 : 0 < Nat.gcd a b := Nat.gcd_pos_of_pos_right _ hb
  have gb : Nat.gcd a b ≤ b := Nat.gcd_le_right _ hb
  have w : (Nat.gcd a b) < wideLine := lt100_wide (by omega)
  simp [sem__law_ratio, runF, den__law_ratio, sSeq, sSet, kSet, dCall, dVar, gcd_spec a b c h, sRet, dTup, dO2, D.fdiv, g0, w]
theorem lowest_spec (a b : Nat) (c : C) (h : b < 2 ^ 100) (hb : 0 < b) : sem_lowest [.int a, .int b] c = .ok (.tup [.int (a / Nat.gcd a b : Nat), .int (b / Nat.gcd a b : Nat)]) c := by
  have g0 : 0 < Nat.gcd a b := Nat.gcd_pos_of_pos_right _ hb
  have gb : Nat.gcd a b ≤ b := Nat.gcd_le_right _ hb
  have w : (Nat.gcd a b) < wideLine := lt100_wide (by omega)
  simp [sem_lowest, runF, den_lowest, sSeq, sSet, kSet, dIf, tBl, dB, dVar, sRet, dTup, dO2, D.gt, m_gcd, D.fdiv, g0, w, hb]
/-! ### choose -/
theorem subA_int {i j : Int} : D.subA (.int i) (.int j) = some (.int (i - j)) := rfl
def chooseStep : DS := sSet 2 (dO2 D.fdiv (dO2 D.mulA (dVar 2) (dO2 D.subA (dVar 0) (dVar 3))) (dO2 D.addA (dVar 3) (dC (.int 1))))
theorem ch1 (n at_ : Nat) (hn : n ≤ 60) (ha : at_ ≤ 1000) : mulOk (bin n at_) ((n : Int) - at_) = true := mulOk_l (by omega) (by have := bin_small hn at_; omega)
theorem ch2 (n at_ : Nat) : (bin n at_ : Int) * ((n : Int) - at_) / (at_ + 1) = bin n (at_ + 1) := by
  rw [← bin_next]
  exact Int.mul_ediv_cancel _ (by omega)
theorem ch3 (at_ : Nat) (ha : at_ ≤ 1000) : ((at_ : Int) + 1).natAbs < wideLine := small_wide (by omega) (by omega)
theorem fdiv_some {i j : Int} (h0 : 0 < j) (h : j.natAbs < wideLine) : D.fdiv (.int i) (.int j) = some (.int (i / j)) := if_pos ⟨h0, h⟩
theorem mulA_some {i j : Int} (h : mulOk i j = true) : D.mulA (.int i) (.int j) = some (.int (i * j)) := by
  unfold D.mulA D.mul
  dsimp only
  rw [if_pos h]
  rfl
theorem addA_int {i j : Int} : D.addA (.int i) (.int j) = some (.int (i + j)) := rfl
theorem ch4 {n m a u v : Int} {c : C} (k1 : mulOk u (n - a) = true) (k2 : u * (n - a) / (a + 1) = v) (w : (a + 1).natAbs < wideLine) (p : (0 : Int) < a + 1) :
    chooseStep [.val (.int n), .val (.int m), .val (.int u), .val (.int a)] c = .nx [.val (.int n), .val (.int m), .val (.int v), .val (.int a)] c := by
  have f := fdiv_some (i := u * (n - a)) p w
  rw [k2] at f
  have g := mulA_some k1
  unfold chooseStep sSet
  simp only [dO2, dVar, List.getElem?_cons_zero, List.getElem?_cons_succ, ev_bind_ok, ev_rvd, ev_c, subA_int, ev_opt1s, g, addA_int, f, ev_of_ok, kSet, List.set_cons_succ, List.set_cons_zero]
theorem ch5 {n m a u v : Int} {c : C} {xs : List D} {z : Slot} (h : chooseStep [.val (.int n), .val (.int m), .val (.int u), .val (.int a)] c = .nx [.val (.int n), .val (.int m), .val (.int v), .val (.int a)] c) :
    sForL (tgN 3) chooseStep (.int a :: xs) [.val (.int n), .val (.int m), .val (.int u), z] c = sForL (tgN 3) chooseStep xs [.val (.int n), .val (.int m), .val (.int v), .val (.int a)] c := by
  rw [sForL]
  simp only [tgN, List.set_cons_succ, List.set_cons_zero]
  rw [h]
theorem choose_turn (n m at_ : Nat) (hn : n ≤ 60) (ha : at_ ≤ 1000) (c : C) (xs : List D) (z : Slot) : sForL (tgN 3) chooseStep (.int at_ :: xs) [.val (.int n), .val (.int m), .val (.int (bin n at_)), z] c =
    sForL (tgN 3) chooseStep xs [.val (.int n), .val (.int m), .val (.int (bin n (at_ + 1))), .val (.int at_)] c :=
  ch5 (ch4 (ch1 n at_ hn ha) (ch2 n at_) (ch3 at_ ha) (by omega))
theorem rng_next (lo j : Nat) : rng (lo : Int) (j + 1) = .int lo :: rng ((lo + 1 : Nat) : Int) j := by
  rw [rng]
  push_cast
  rfl
theorem choose_loop (n m : Nat) (hn : n ≤ 60) : ∀ (j at_ : Nat) (z : Slot) (c : C), at_ + j ≤ 1000 → ∃ z', sForL (tgN 3) chooseStep (rng (at_ : Nat) j) [.val (.int n), .val (.int m), .val (.int (bin n at_)), z] c = .nx [.val (.int n), .val (.int m), .val (.int (bin n (at_ + j))), z'] c
  | 0, at_, z, c, _ => ⟨z, rfl⟩
  | j + 1, at_, z, c, h => by
    obtain ⟨z', ih⟩ := choose_loop n m hn j (at_ + 1) (.val (.int at_)) c (by omega)
    refine ⟨z', ?_⟩
    rw [rng_next, choose_turn n m at_ hn (by omega), ih, show at_ + 1 + j = at_ + (j + 1) by omega]
theorem choose_den {n m u : Int} {c : C} {z : Slot} (h : sFor (iRng1 (dVar 1)) (tgN 3) chooseStep [.val (.int n), .val (.int m), .val (.int 1), .no] c = .nx [.val (.int n), .val (.int m), .val (.int u), z] c) (h0 : 0 ≤ m) (hv : m ≤ n ∨ u = 0) :
    den__law_choose [.val (.int n), .val (.int m), .no, .no] c = .rt (.int u) c := by
  have q : sRet (dIf (tBl (dChain D.le D.le (dC (.int 0)) (dVar 1) (dVar 0))) (dVar 2) (dC (.int 0))) [.val (.int n), .val (.int m), .val (.int u), z] c = .rt (.int u) c := by
    by_cases h : m ≤ n
    · simp [sRet, dIf, tBl, dChain, dVar, D.le, h, h0]
    · have : u = 0 := by omega
      simp [sRet, dIf, tBl, dChain, dVar, D.le, h, h0, this]
  unfold den__law_choose
  unfold chooseStep at h
  have e : sSet 2 (dC (.int 1)) [.val (.int n), .val (.int m), .no, .no] c = .nx [.val (.int n), .val (.int m), .val (.int 1), .no] c := rfl
  rw [sSeq, e]
  dsimp only
  rw [sSeq, h]
  exact q
theorem choose_spec (n m : Nat) (hn : n ≤ 60) (hm : m ≤ 900) (c : C) : sem__law_choose [.int n, .int m] c = .ok (.int (bin n m)) c := by
  obtain ⟨z, hl⟩ := choose_loop n m hn m 0 .no c (by omega)
  have hr := rng1_nat (dVar 1) [.val (.int n), .val (.int m), .val (.int 1), .no] c c m (by omega) rfl
  rw [Nat.zero_add, bin_zero] at hl
  have e1 : sFor (iRng1 (dVar 1)) (tgN 3) chooseStep [.val (.int n), .val (.int m), .val (.int 1), .no] c = .nx [.val (.int n), .val (.int m), .val (.int (bin n m)), z] c := by
    unfold sFor
    rw [hr, ev_of_ok]
    exact hl
  have e3 := choose_den e1 (by omega) (by
    rcases Nat.lt_or_ge n m with h | h
    · exact .inr (by rw [bin_gt h]; rfl)
    · exact .inl (by omega))
  unfold sem__law_choose
  exact run_rt (env := [.val (.int n), .val (.int m), .no, .no]) rfl e3
end K68

set_option maxRecDepth 10000
set_option autoImplicit false
set_option exponentiation.threshold 5000
set_option linter.all false
namespace K68
open DL
theorem found_spec {N K n i a b : Int} {c : C} (h0 : 0 ≤ i) (h1 : i ≤ n) (ha : m_comb [.int K, .int i] = some (.int a)) (hb : m_comb [.int (N - K), .int (n - i)] = some (.int b)) (hm : mulOk a b = true) :
    sem_found_ways [.int N, .int K, .int n, .int i] c = .ok (.int (a * b)) c := by
  refine run_rt (env := [.val (.int N), .val (.int K), .val (.int n), .val (.int i)]) rfl ?_
  have g := mulA_some hm
  unfold den_found_ways
  simp only [sRet, dIf, tBl, dChain, dVar, dC, dO2, dB, D.le, subA_int, List.getElem?_cons_zero, List.getElem?_cons_succ, ev_bind_ok, ev_rvd, dArgs, List.map_cons, List.map_nil, ha, hb, ev_opt1s, g, ev_of_ok, decide_eq_true h0, decide_eq_true h1, if_true]
def vals (f : Nat → Int) : Nat → Nat → List Int
  | _, 0 => []
  | lo, j + 1 => f lo :: vals f (lo + 1) j
theorem ints_map : ∀ xs : List Int, DL.intsOf (xs.map D.int) = some xs
  | [] => rfl
  | x :: xs => by
    show (DL.intsOf (xs.map D.int)).map _ = _
    rw [ints_map xs]
    rfl
theorem vals_snoc (f : Nat → Int) : ∀ j lo, (vals f lo (j + 1)).sum = (vals f lo j).sum + f (lo + j)
  | 0, lo => by simp [vals]
  | j + 1, lo => by
    have := vals_snoc f j (lo + 1)
    rw [vals, List.sum_cons, this, vals, List.sum_cons, show lo + 1 + j = lo + (j + 1) by omega]
    omega
theorem vals_sum (f : Nat → Int) : ∀ c, (vals f 0 (c + 1)).sum = sumTo f c
  | 0 => by simp [vals, sumTo]
  | c + 1 => by rw [vals_snoc, vals_sum f c, Nat.zero_add]; rfl
/-- a comprehension over a range, each value by a call -/
theorem loop_vals (f : Nat → Int) (tg : TG) (e : DE) (env : Env) (cup : C) (top : Nat) (he : ∀ i : Nat, i < top → ∃ env2, tg (.int i) env = some env2 ∧ e env2 cup = .ok (.pl (.int (f i))) cup) :
    ∀ j lo : Nat, lo + j ≤ top → dLoop tg tYes e env (rng lo j) cup = .ok ((vals f lo j).map D.int) cup
  | 0, lo, _ => rfl
  | j + 1, lo, h => by
    obtain ⟨env2, h1, h2⟩ := he lo (by omega)
    have ih := loop_vals f tg e env cup top he j (lo + 1) (by omega)
    rw [rng_next, dLoop, h1]
    simp only [tYes, ev_bind_ok, if_true, h2, ih, vals, List.map_cons]
def fr (a b : Nat) : D := .tup [.int (a / Nat.gcd a b : Nat), .int (b / Nat.gcd a b : Nat)]
theorem chance_in_run {N K n ci W T : Int} {its L : List D} {r : D} {cup : C} (hr : iRng1 (dO2 D.addA (dVar 3) (dC (.int 1))) [.val (.int N), .val (.int K), .val (.int n), .val (.int ci), .no, .no] cup = .ok its cup)
    (hl : dLoop (tgN 5) tYes (dCall sem_found_ways [dVar 0, dVar 1, dVar 2, dVar 5]) [.val (.int N), .val (.int K), .val (.int n), .val (.int ci), .no, .no] its cup = .ok L cup) (hs : bSum [.lst L] = some (.int W))
    (ht : m_comb [.int N, .int n] = some (.int T)) (low : sem_lowest [.int W, .int T] cup = .ok r cup) : sem_chance_in [.int N, .int K, .int n, .int ci] cup = .ok r cup := by
  refine run_rt (env := [.val (.int N), .val (.int K), .val (.int n), .val (.int ci), .no, .no]) rfl ?_
  unfold den_chance_in
  simp only [sSeq, sSet, dB, dArgs, dComp, hr, ev_bind_ok, wipeE, List.set_cons_succ, List.set_cons_zero]
  rw [hl]
  simp only [ev_bind_ok, ev_calm_ok, List.map_cons, List.map_nil, ev_rvd, hs, ev_opt1s, ev_of_ok, kSet, List.set_cons_succ, List.set_cons_zero, sRet, dCall, dArgs, dVar, List.getElem?_cons_zero, List.getElem?_cons_succ, dB, ht, low, List.all_cons, List.all_nil, ev_pln, Bool.and_true, Bool.true_or, if_true]
theorem found_call {N K n ci x : Int} {r : D} {cup : C} (h : sem_found_ways [.int N, .int K, .int n, .int x] cup = .ok r cup) :
    dCall sem_found_ways [dVar 0, dVar 1, dVar 2, dVar 5] [.val (.int N), .val (.int K), .val (.int n), .val (.int ci), .no, .val (.int x)] cup = .ok (.pl r) cup := by
  simp only [dCall, dArgs, dVar, List.getElem?_cons_zero, List.getElem?_cons_succ, ev_bind_ok, List.map_cons, List.map_nil, ev_rvd, h, List.all_cons, List.all_nil, ev_pln, Bool.and_true, Bool.true_or, if_true]
theorem sum_vals (f : Nat → Int) (c : Nat) : bSum [.lst ((vals f 0 (c + 1)).map D.int)] = some (.int (sumTo f c)) := by
  unfold bSum
  dsimp only
  rw [ints_map, ← vals_sum]
  rfl
theorem chance_in_gen {N K n : Int} {cc : Nat} {f : Nat → Int} {w t : Nat} {cup : C} (hcc : cc ≤ 100) (hf : ∀ i : Nat, i < cc + 1 → sem_found_ways [.int N, .int K, .int n, .int i] cup = .ok (.int (f i)) cup) (hw : sumTo f cc = w)
    (ht : m_comb [.int N, .int n] = some (.int t)) (h0 : 0 < t) (h1 : t < 2 ^ 100) : sem_chance_in [.int N, .int K, .int n, .int cc] cup = .ok (fr w t) cup := by
  refine chance_in_run (its := rng (0 : Nat) (cc + 1)) (rng1_nat _ _ cup cup (cc + 1) (by omega) rfl) (loop_vals f (tgN 5) _ _ cup (cc + 1) (fun i hi => ⟨_, rfl, found_call (hf i hi)⟩) (cc + 1) 0 (by omega)) (sum_vals f cc) ht ?_
  rw [hw]
  exact lowest_spec w t cup h1 h0
end K68

set_option maxRecDepth 10000
set_option autoImplicit false
set_option exponentiation.threshold 5000
set_option linter.all false
namespace K68
open DL
theorem is_whole_spec {v lo hi : Int} {c : C} (h1 : lo ≤ v) (h2 : v ≤ hi) : sem_is_whole [.int v, .int lo, .int hi] c = .ok (.bl true) c := by
  simp [sem_is_whole, runF, den_is_whole, sRet, dAnd, dB, dVar, bIsi, D.kind, dO1, D.inv, dChain, D.le, h1, h2]
theorem need_whole_spec {v lo hi : Int} {c : C} (h1 : lo ≤ v) (h2 : v ≤ hi) : sem_need_whole [.int v, .int lo, .int hi] c = .ok .non c := by
  refine run_nx (env := [.val (.int v), .val (.int lo), .val (.int hi)]) (env' := [.val (.int v), .val (.int lo), .val (.int hi)]) rfl ?_
  simp [den_need_whole, sIf, tNot, tE, dCall, dVar, is_whole_spec h1 h2, D.truth, sNil]
theorem need_lot_spec {N K : Int} {c : C} (h1 : 1 ≤ N) (h2 : N ≤ 60) (h3 : 0 ≤ K) (h4 : K ≤ N) : sem_need_lot [.int N, .int K] c = .ok .non c := by
  refine run_nx (env := [.val (.int N), .val (.int K)]) (env' := [.val (.int N), .val (.int K)]) rfl ?_
  simp [den_need_lot, sSeq, sExpr, dCall, dVar, k_CRATES, need_whole_spec h1 h2, need_whole_spec h3 h4]
theorem ix0 {x : D} {xs : List D} : D.ix (.tup (x :: xs)) (.int 0) = some x := by
  have h : ixD (xs.length + 1) 0 = some 0 := by
    unfold ixD
    rw [if_pos (by decide), if_pos (by omega)]
    rfl
  show (ixD (xs.length + 1) 0).bind _ = _
  rw [h]
  rfl
theorem ix1 {x y : D} {xs : List D} : D.ix (.tup (x :: y :: xs)) (.int 1) = some y := by
  have h : ixD (xs.length + 1 + 1) 1 = some 1 := by
    unfold ixD
    rw [if_pos (by decide), if_pos (by omega)]
    rfl
  show (ixD (xs.length + 1 + 1) 1).bind _ = _
  rw [h]
  rfl
theorem is_tuple2 {x y : D} {c : C} : sem_is_tuple_of [.tup [x, y], .int 2, .int 2] c = .ok (.bl true) c := by
  simp [sem_is_tuple_of, runF, den_is_tuple_of, sRet, dAnd, dB, dVar, bIsi, D.kind, bLen, dChain, D.le]
theorem is_rule_for_spec {N n k : Int} {c : C} (h1 : 0 ≤ n) (h2 : n ≤ N) (h3 : 0 ≤ k) (h4 : k ≤ n) : sem_is_rule_for [.int N, .tup [.int n, .int k]] c = .ok (.bl true) c := by
  simp [sem_is_rule_for, runF, den_is_rule_for, sRet, dAnd, dCall, dVar, dO2, ix0, ix1, is_tuple2, is_whole_spec h1 h2, is_whole_spec h3 h4]
theorem need_rule_spec {N n k : Int} {c : C} (h1 : 0 ≤ n) (h2 : n ≤ N) (h3 : 0 ≤ k) (h4 : k ≤ n) : sem_need_rule [.int N, .tup [.int n, .int k]] c = .ok .non c := by
  refine run_nx (env := [.val (.int N), .val (.tup [.int n, .int k])]) (env' := [.val (.int N), .val (.tup [.int n, .int k])]) rfl ?_
  simp [den_need_rule, sIf, tNot, tE, dCall, dVar, is_rule_for_spec h1 h2 h3 h4, D.truth, sNil]
/-- the chance, as the defs tell it -/
def wN (K M n c : Nat) : Nat := (ways K M n c).toNat
theorem wN_eq (K M n c : Nat) : (wN K M n c : Int) = ways K M n c := Int.toNat_of_nonneg (ways_nonneg K M n c)
theorem bin_lt64 {n : Nat} (h : n ≤ 60) (k : Nat) : bin n k < 2 ^ 64 := by
  have := bin_small h k
  omega
theorem found_bin {K M n i : Nat} (c : C) (h : K + M ≤ 60) (hi : i ≤ n) : sem_found_ways [.int (K + M : Nat), .int K, .int n, .int i] c = .ok (.int (term K M n i)) c := by
  have e : term K M n i = (bin K i : Int) * bin M (n - i) := by unfold term; rw [if_pos hi]
  rw [e]
  refine found_spec (by omega) (by omega) (comb_eq (by omega)) ?_ (mulOk_l (by omega) (by have := bin_small (show K ≤ 60 by omega) i; omega))
  rw [show ((K + M : Nat) : Int) - K = (M : Nat) by omega, show (n : Int) - i = (n - i : Nat) by omega]
  exact comb_eq (by omega)
theorem chance_in_spec (K M n k : Nat) (c : C) (h : K + M ≤ 60) (hn : n ≤ K + M) (hk : k ≤ n) : sem_chance_in [.int (K + M : Nat), .int K, .int n, .int k] c = .ok (fr (wN K M n k) (bin (K + M) n)) c :=
  chance_in_gen (by omega) (fun i hi => found_bin c h (by omega)) (wN_eq K M n k).symm (comb_eq (by omega)) (bin_pos hn) (Nat.lt_of_lt_of_le (bin_lt64 h n) (by decide))
/-! ### a chance (a, b) and its order -/
theorem order_run {x y a b : Int} {c : C} (h1 : mulOk x b = true) (h2 : mulOk a y = true) : sem_order_in [.tup [.int x, .int y], .tup [.int a, .int b]] c = .ok (.int ((if decide (a * y < x * b) = true then 1 else 0) - (if decide (x * b < a * y) = true then 1 else 0))) c := by
  refine run_rt (env := [.val (.tup [.int x, .int y]), .val (.tup [.int a, .int b]), .no, .no]) rfl ?_
  have g1 := mulA_some h1
  have g2 := mulA_some h2
  unfold den_order_in
  simp only [sSeq, sPar, dArgs, dO2, dVar, List.getElem?_cons_zero, List.getElem?_cons_succ, ev_bind_ok, ev_rvd, ev_c, ix0, ix1, ev_opt1s, g1, g2, ev_of_ok, parSet, List.set_cons_succ, List.set_cons_zero, sRet, D.gt, D.lt]
  rfl
theorem cmp_le {x y : Int} : decide (((if decide (y < x) = true then 1 else 0) - (if decide (x < y) = true then 1 else 0) : Int) ≤ 0) = decide (x ≤ y) := by
  by_cases h1 : y < x <;> by_cases h2 : x < y <;> simp [h1, h2] <;> omega
theorem cmp_ge {x y : Int} : decide ((0 : Int) ≤ ((if decide (y < x) = true then 1 else 0) - (if decide (x < y) = true then 1 else 0))) = decide (y ≤ x) := by
  by_cases h1 : y < x <;> by_cases h2 : x < y <;> simp [h1, h2] <;> omega
theorem is_small_run {N K n k x y a b : Int} {c : C} (h : sem_chance_in [.int N, .int K, .int n, .int k] c = .ok (.tup [.int x, .int y]) c) (h1 : mulOk x b = true) (h2 : mulOk a y = true) :
    sem_is_small [.int N, .int K, .tup [.int n, .int k], .tup [.int a, .int b]] c = .ok (.bl (decide (x * b ≤ a * y))) c := by
  refine run_rt (env := [.val (.int N), .val (.int K), .val (.tup [.int n, .int k]), .val (.tup [.int a, .int b])]) rfl ?_
  have o := order_run (c := c) h1 h2
  unfold den_is_small
  simp only [sRet, dO2, dCall, dArgs, dVar, List.getElem?_cons_zero, List.getElem?_cons_succ, ev_bind_ok, ev_rvd, ev_c, ix0, ix1, ev_opt1s, List.map_cons, List.map_nil, h, o, List.all_cons, List.all_nil, ev_pln, Bool.and_true, Bool.true_or, if_true, D.le, ev_of_ok, cmp_le]
theorem is_great_run {N K n k x y a b : Int} {c : C} (h : sem_chance_in [.int N, .int K, .int n, .int k] c = .ok (.tup [.int x, .int y]) c) (h1 : mulOk x b = true) (h2 : mulOk a y = true) :
    sem_is_great [.int N, .int K, .tup [.int n, .int k], .tup [.int a, .int b]] c = .ok (.bl (decide (a * y ≤ x * b))) c := by
  refine run_rt (env := [.val (.int N), .val (.int K), .val (.tup [.int n, .int k]), .val (.tup [.int a, .int b])]) rfl ?_
  have o := order_run (c := c) h1 h2
  unfold den_is_great
  simp only [sRet, dO2, dCall, dArgs, dVar, List.getElem?_cons_zero, List.getElem?_cons_succ, ev_bind_ok, ev_rvd, ev_c, ix0, ix1, ev_opt1s, List.map_cons, List.map_nil, h, o, List.all_cons, List.all_nil, ev_pln, Bool.and_true, Bool.true_or, if_true, D.ge, ev_of_ok, cmp_ge]
theorem wN_le {K M n k : Nat} (hk : k ≤ n) : wN K M n k ≤ bin (K + M) n := by
  have := ways_le K M n k hk
  have := wN_eq K M n k
  omega
theorem wN_small {K M n k : Nat} (h : K + M ≤ 60) (hk : k ≤ n) : wN K M n k < 2 ^ 61 := by
  have := wN_le (K := K) (M := M) hk
  have := bin_small h n
  omega
theorem wN_bad {K M n k : Nat} (hk : k ≤ n) : wN (K + 1) M n k ≤ wN K (M + 1) n k := by
  have := ways_less_bad K M n k hk
  have := wN_eq (K + 1) M n k
  have := wN_eq K (M + 1) n k
  omega
/-- the bounds of a chance that the law makes -/
structure Chn (a b : Nat) : Prop where
  pos : 0 < b
  le : a ≤ b
  lt : b < 2 ^ 80
  cop : Nat.gcd a b = 1
theorem low_le {w t a b : Nat} (ht : 0 < t) : decide (((w / Nat.gcd w t : Nat) : Int) * b ≤ a * ((t / Nat.gcd w t : Nat) : Int)) = decide (w * b ≤ a * t) := by
  have g0 : 0 < Nat.gcd w t := Nat.gcd_pos_of_pos_right _ ht
  have e1 : Nat.gcd w t * (w / Nat.gcd w t) = w := Nat.mul_div_cancel' (Nat.gcd_dvd_left w t)
  have e2 : Nat.gcd w t * (t / Nat.gcd w t) = t := Nat.mul_div_cancel' (Nat.gcd_dvd_right w t)
  generalize w / Nat.gcd w t = x at *
  generalize t / Nat.gcd w t = y at *
  generalize Nat.gcd w t = g at *
  subst e1
  subst e2
  rw [show g * x * b = g * (x * b) by grind, show a * (g * y) = g * (a * y) by grind]
  rw [decide_eq_decide]
  constructor
  · intro h
    exact Nat.mul_le_mul_left _ (by exact_mod_cast h)
  · intro h
    exact_mod_cast Nat.le_of_mul_le_mul_left h g0
theorem low_ge {w t a b : Nat} (ht : 0 < t) : decide (a * ((t / Nat.gcd w t : Nat) : Int) ≤ ((w / Nat.gcd w t : Nat) : Int) * b) = decide (a * t ≤ w * b) := by
  have g0 : 0 < Nat.gcd w t := Nat.gcd_pos_of_pos_right _ ht
  have e1 : Nat.gcd w t * (w / Nat.gcd w t) = w := Nat.mul_div_cancel' (Nat.gcd_dvd_left w t)
  have e2 : Nat.gcd w t * (t / Nat.gcd w t) = t := Nat.mul_div_cancel' (Nat.gcd_dvd_right w t)
  generalize w / Nat.gcd w t = x at *
  generalize t / Nat.gcd w t = y at *
  generalize Nat.gcd w t = g at *
  subst e1
  subst e2
  rw [show g * x * b = g * (x * b) by grind, show a * (g * y) = g * (a * y) by grind]
  rw [decide_eq_decide]
  constructor
  · intro h
    exact Nat.mul_le_mul_left _ (by exact_mod_cast h)
  · intro h
    exact_mod_cast Nat.le_of_mul_le_mul_left h g0
theorem div_lt {a g : Nat} (h : a < 2 ^ 63) : ((a / g : Nat) : Int) < 2 ^ 64 := by
  have := Nat.div_le_self a g
  omega
/-- is the chance of (K of K + M, rule n k) at most a / b -/
def sm (K M n k a b : Nat) : Bool := decide (wN K M n k * b ≤ a * bin (K + M) n)
def gr (K M n k a b : Nat) : Bool := decide (a * bin (K + M) n ≤ wN K M n k * b)
theorem is_small_spec {K M n k a b : Nat} {c : C} (h : K + M ≤ 60) (hn : n ≤ K + M) (hk : k ≤ n) : sem_is_small [.int (K + M : Nat), .int K, .tup [.int n, .int k], .tup [.int a, .int b]] c = .ok (.bl (sm K M n k a b)) c := by
  have s1 := wN_small (K := K) (M := M) h hk
  have s2 := bin_small h n
  have e := is_small_run (a := a) (b := b) (chance_in_spec K M n k c h hn hk) (mulOk_l (Int.natCast_nonneg _) (div_lt (by omega))) (mulOk_r (Int.natCast_nonneg _) (div_lt (by omega)))
  rw [low_le (bin_pos hn)] at e
  exact e
theorem is_great_spec {K M n k a b : Nat} {c : C} (h : K + M ≤ 60) (hn : n ≤ K + M) (hk : k ≤ n) : sem_is_great [.int (K + M : Nat), .int K, .tup [.int n, .int k], .tup [.int a, .int b]] c = .ok (.bl (gr K M n k a b)) c := by
  have s1 := wN_small (K := K) (M := M) h hk
  have s2 := bin_small h n
  have e := is_great_run (a := a) (b := b) (chance_in_spec K M n k c h hn hk) (mulOk_l (Int.natCast_nonneg _) (div_lt (by omega))) (mulOk_r (Int.natCast_nonneg _) (div_lt (by omega)))
  rw [low_ge (bin_pos hn)] at e
  exact e
end K68

set_option maxRecDepth 10000
set_option autoImplicit false
set_option exponentiation.threshold 5000
set_option linter.all false
namespace K68
open DL
/-! ### the chance by the law -/
def countStep : DS := sSet 3 (dO2 D.addA (dVar 3) (dO2 D.mulA (dCall (sem__law_choose) [dVar 1, dVar 4]) (dCall (sem__law_choose) [dO2 D.subA (dVar 0) (dVar 1), dO2 D.subA (dO2 D.ix (dVar 2) (dC (.int 0))) (dVar 4)])))
theorem count_step {N K n k u x a b : Int} {c : C} (ha : sem__law_choose [.int K, .int x] c = .ok (.int a) c) (hb : sem__law_choose [.int (N - K), .int (n - x)] c = .ok (.int b) c) (hm : mulOk a b = true) :
    countStep [.val (.int N), .val (.int K), .val (.tup [.int n, .int k]), .val (.int u), .val (.int x)] c = .nx [.val (.int N), .val (.int K), .val (.tup [.int n, .int k]), .val (.int (u + a * b)), .val (.int x)] c := by
  have g := mulA_some hm
  unfold countStep sSet
  simp only [dO2, dCall, dArgs, dVar, List.getElem?_cons_zero, List.getElem?_cons_succ, ev_bind_ok, ev_rvd, ev_rvo, ev_c, ev_opt1s, List.map_cons, List.map_nil, List.all_cons, List.all_nil, ev_pln, ev_plo, Bool.and_true, Bool.true_or, if_true, ev_of_ok, kSet, List.set_cons_succ, List.set_cons_zero, ha, hb, ix0, subA_int, g, addA_int]
theorem count_turn {N K n k u x v : Int} {c : C} {xs : List D} {z : Slot} (h : countStep [.val (.int N), .val (.int K), .val (.tup [.int n, .int k]), .val (.int u), .val (.int x)] c = .nx [.val (.int N), .val (.int K), .val (.tup [.int n, .int k]), .val (.int v), .val (.int x)] c) :
    sForL (tgN 4) countStep (.int x :: xs) [.val (.int N), .val (.int K), .val (.tup [.int n, .int k]), .val (.int u), z] c = sForL (tgN 4) countStep xs [.val (.int N), .val (.int K), .val (.tup [.int n, .int k]), .val (.int v), .val (.int x)] c := by
  rw [sForL]
  simp only [tgN, List.set_cons_succ, List.set_cons_zero]
  rw [h]
theorem count_loop {N K n k : Int} {c : C} (f : Nat → Int) (top : Nat) (hf : ∀ (i : Nat) (u : Int), i < top → countStep [.val (.int N), .val (.int K), .val (.tup [.int n, .int k]), .val (.int u), .val (.int i)] c = .nx [.val (.int N), .val (.int K), .val (.tup [.int n, .int k]), .val (.int (u + f i)), .val (.int i)] c) :
    ∀ (j lo : Nat) (u : Int) (z : Slot), lo + j ≤ top → ∃ z', sForL (tgN 4) countStep (rng (lo : Nat) j) [.val (.int N), .val (.int K), .val (.tup [.int n, .int k]), .val (.int u), z] c =
      .nx [.val (.int N), .val (.int K), .val (.tup [.int n, .int k]), .val (.int (u + (vals f lo j).sum)), z'] c
  | 0, lo, u, z, _ => ⟨z, by rw [rng, sForL, vals, List.sum_nil, Int.add_zero]⟩
  | j + 1, lo, u, z, h => by
    obtain ⟨z', ih⟩ := count_loop f top hf j (lo + 1) (u + f lo) (.val (.int lo)) (by omega)
    refine ⟨z', ?_⟩
    rw [rng_next, count_turn (hf lo u (by omega)), ih, vals, List.sum_cons, Int.add_assoc]
theorem chance_run {N K n k W T : Int} {c : C} {z : Slot} {its : List D} (hr : iRng1 (dO2 D.addA (dO2 D.ix (dVar 2) (dC (.int 1))) (dC (.int 1))) [.val (.int N), .val (.int K), .val (.tup [.int n, .int k]), .val (.int 0), .no] c = .ok its c)
    (hl : sForL (tgN 4) countStep its [.val (.int N), .val (.int K), .val (.tup [.int n, .int k]), .val (.int 0), .no] c = .nx [.val (.int N), .val (.int K), .val (.tup [.int n, .int k]), .val (.int W), z] c)
    (ht : sem__law_choose [.int N, .int n] c = .ok (.int T) c) : sem__law_chance [.int N, .int K, .tup [.int n, .int k]] c = .ok (.tup [.int W, .int T]) c := by
  refine run_rt (env := [.val (.int N), .val (.int K), .val (.tup [.int n, .int k]), .no, .no]) rfl ?_
  unfold den__law_chance
  unfold countStep at hl
  simp only [sSeq, sSet, ev_c, ev_of_ok, kSet, List.set_cons_succ, List.set_cons_zero, sFor, hr]
  rw [hl]
  simp only [sRet, dTup, dCall, dO2, dArgs, dVar, List.getElem?_cons_zero, List.getElem?_cons_succ, ev_bind_ok, ev_rvd, ev_rvo, ev_c, ev_opt1s, List.map_cons, List.map_nil, List.all_cons, List.all_nil, ev_pln, ev_plo, Bool.and_true, Bool.true_or, if_true, ev_of_ok, kSet, List.set_cons_succ, List.set_cons_zero, ix0, ht]
theorem chance_spec (K M n k : Nat) (c : C) (h : K + M ≤ 60) (hn : n ≤ K + M) (hk : k ≤ n) : sem__law_chance [.int (K + M : Nat), .int K, .tup [.int n, .int k]] c = .ok (.tup [.int (wN K M n k), .int (bin (K + M) n)]) c := by
  obtain ⟨z, hl⟩ := count_loop (N := (K + M : Nat)) (K := K) (n := n) (k := k) (c := c) (term K M n) (k + 1) (fun i u hi => by
    have e : term K M n i = (bin K i : Int) * bin M (n - i) := by unfold term; rw [if_pos (by omega)]
    rw [e]
    refine count_step (choose_spec K i (by omega) (by omega) c) ?_ (mulOk_l (by omega) (by have := bin_small (show K ≤ 60 by omega) i; omega))
    rw [show ((K + M : Nat) : Int) - K = (M : Nat) by omega, show (n : Int) - i = (n - i : Nat) by omega]
    exact choose_spec M (n - i) (by omega) (by omega) c) (k + 1) 0 0 .no (by omega)
  have e : (0 : Int) + (vals (term K M n) 0 (k + 1)).sum = wN K M n k := by rw [vals_sum, Int.zero_add, wN_eq]; rfl
  rw [e] at hl
  have hr := rng1_nat (dO2 D.addA (dO2 D.ix (dVar 2) (dC (.int 1))) (dC (.int 1))) [.val (.int (K + M : Nat)), .val (.int K), .val (.tup [.int n, .int k]), .val (.int 0), .no] c c (k + 1) (by omega) (by
    simp only [dO2, dArgs, dVar, List.getElem?_cons_zero, List.getElem?_cons_succ, ev_bind_ok, ev_rvd, ev_rvo, ev_c, ev_opt1s, List.map_cons, List.map_nil, List.all_cons, List.all_nil, ev_pln, ev_plo, Bool.and_true, Bool.true_or, if_true, ev_of_ok, kSet, List.set_cons_succ, List.set_cons_zero, ix1, addA_int]
    push_cast
    rfl)
  exact chance_run hr hl (choose_spec (K + M) n h (by omega) c)
theorem at_most_run {x y a b : Int} {c : C} (h1 : mulOk x b = true) (h2 : mulOk a y = true) : sem__law_at_most [.tup [.int x, .int y], .tup [.int a, .int b]] c = .ok (.bl (decide (x * b ≤ a * y))) c := by
  refine run_rt (env := [.val (.tup [.int x, .int y]), .val (.tup [.int a, .int b])]) rfl ?_
  have g1 := mulA_some h1
  have g2 := mulA_some h2
  unfold den__law_at_most
  simp only [sRet, dO2, dArgs, dVar, List.getElem?_cons_zero, List.getElem?_cons_succ, ev_bind_ok, ev_rvd, ev_rvo, ev_c, ev_opt1s, List.map_cons, List.map_nil, List.all_cons, List.all_nil, ev_pln, ev_plo, Bool.and_true, Bool.true_or, if_true, ev_of_ok, kSet, List.set_cons_succ, List.set_cons_zero, ix0, ix1, g1, g2, D.le]
theorem at_least_run {x y a b : Int} {c : C} (h1 : mulOk x b = true) (h2 : mulOk a y = true) : sem__law_at_least [.tup [.int x, .int y], .tup [.int a, .int b]] c = .ok (.bl (decide (a * y ≤ x * b))) c := by
  refine run_rt (env := [.val (.tup [.int x, .int y]), .val (.tup [.int a, .int b])]) rfl ?_
  have g1 := mulA_some h1
  have g2 := mulA_some h2
  unfold den__law_at_least
  simp only [sRet, dO2, dArgs, dVar, List.getElem?_cons_zero, List.getElem?_cons_succ, ev_bind_ok, ev_rvd, ev_rvo, ev_c, ev_opt1s, List.map_cons, List.map_nil, List.all_cons, List.all_nil, ev_pln, ev_plo, Bool.and_true, Bool.true_or, if_true, ev_of_ok, kSet, List.set_cons_succ, List.set_cons_zero, ix0, ix1, g1, g2, D.ge]
theorem dec_cast_le {w t a b : Nat} : decide ((w : Int) * b ≤ a * t) = decide (w * b ≤ a * t) := by
  rw [decide_eq_decide]
  constructor <;> intro h <;> exact_mod_cast h
theorem at_most_spec {K M n k a b : Nat} {c : C} (h : K + M ≤ 60) (hk : k ≤ n) : sem__law_at_most [.tup [.int (wN K M n k), .int (bin (K + M) n)], .tup [.int a, .int b]] c = .ok (.bl (sm K M n k a b)) c := by
  have s1 := wN_small (K := K) (M := M) h hk
  have s2 := bin_small h n
  have e := at_most_run (x := wN K M n k) (y := bin (K + M) n) (a := a) (b := b) (c := c) (mulOk_l (by omega) (by omega)) (mulOk_r (by omega) (by omega))
  rw [dec_cast_le] at e
  exact e
theorem at_least_spec {K M n k a b : Nat} {c : C} (h : K + M ≤ 60) (hk : k ≤ n) : sem__law_at_least [.tup [.int (wN K M n k), .int (bin (K + M) n)], .tup [.int a, .int b]] c = .ok (.bl (gr K M n k a b)) c := by
  have s1 := wN_small (K := K) (M := M) h hk
  have s2 := bin_small h n
  have e := at_least_run (x := wN K M n k) (y := bin (K + M) n) (a := a) (b := b) (c := c) (mulOk_l (by omega) (by omega)) (mulOk_r (by omega) (by omega))
  rw [dec_cast_le] at e
  exact e
/-! ### alike -/
theorem sort_int (a : Int) (c : C) : sem__law_sort [.int a] c = .ok (.int 2) c := by
  simp [sem__law_sort, runF, den__law_sort, sSeq, sIf, tOr, tBl, tE, dO2, dVar, D.isN, D.isNon, dB, bIsi, D.kind, D.truth, sNil, sRet, dIf]
theorem sort_bl (a : Bool) (c : C) : sem__law_sort [.bl a] c = .ok (.int 1) c := by
  simp [sem__law_sort, runF, den__law_sort, sSeq, sIf, tOr, tBl, tE, dO2, dVar, D.isN, D.isNon, dB, bIsi, D.kind, D.truth, sNil, sRet, dIf]
theorem sort_non (c : C) : sem__law_sort [.non] c = .ok (.int 0) c := by
  simp [sem__law_sort, runF, den__law_sort, sSeq, sIf, tOr, tBl, tE, dO2, dVar, D.isN, D.isNon, dB, bIsi, D.kind, D.truth, sNil, sRet, dIf]
theorem sort_tup (xs : List D) (c : C) : sem__law_sort [.tup xs] c = .ok (.int 4) c := by
  simp [sem__law_sort, runF, den__law_sort, sSeq, sIf, tOr, tBl, tE, dO2, dVar, D.isN, D.isNon, dB, bIsi, D.kind, D.truth, sNil, sRet, dIf]
theorem ne_int (a b : Int) : D.ne (.int a) (.int b) = some (.bl (!(a == b))) := by simp [D.ne, D.shal, D.eqv]
theorem eq_int (a b : Int) : D.eq (.int a) (.int b) = some (.bl (a == b)) := by simp [D.eq, D.shal, D.eqv]
theorem eq_bl (a b : Bool) : D.eq (.bl a) (.bl b) = some (.bl (a == b)) := by simp [D.eq, D.shal, D.eqv]
theorem eq_non : D.eq .non .non = some (.bl true) := by simp [D.eq, D.shal, D.eqv]
theorem mem_sort (a : Int) : D.mem (.int a) (.tup [.int 4, .int 5]) = some (.bl ((4 == a) || (5 == a))) := by simp [D.mem, D.memB, D.items, D.flat, D.eqv]
theorem like_int (j : Nat) (a : Int) (c : C) : sem__law_like (j + 1) [.int a, .int a] c = .ok (.bl true) c := by
  simp [sem__law_like, runF, den__law_like, sSeq, sSet, kSet, dCall, dVar, sort_int, sIf, tOr, tBl, dO2, ne_int, eq_int, sNil, dTup, mem_sort, sRet]
theorem like_bl (j : Nat) (a : Bool) (c : C) : sem__law_like (j + 1) [.bl a, .bl a] c = .ok (.bl true) c := by
  simp [sem__law_like, runF, den__law_like, sSeq, sSet, kSet, dCall, dVar, sort_bl, sIf, tOr, tBl, dO2, ne_int, eq_int, eq_bl, sNil, dTup, mem_sort, sRet]
theorem like_non (j : Nat) (c : C) : sem__law_like (j + 1) [.non, .non] c = .ok (.bl true) c := by
  simp [sem__law_like, runF, den__law_like, sSeq, sSet, kSet, dCall, dVar, sort_non, sIf, tOr, tBl, dO2, ne_int, eq_int, eq_non, sNil, dTup, mem_sort, sRet]
theorem like_pair (j : Nat) (a b : Int) (c : C) : sem__law_like (j + 2) [.tup [.int a, .int b], .tup [.int a, .int b]] c = .ok (.bl true) c := by
  have ha := like_int j a c
  have hb := like_int j b c
  generalize he : sem__law_like (j + 1) = self at ha hb
  show runF 5 (den__law_like (sem__law_like (j + 1))) _ c = _
  rw [he]
  refine run_rt (env := [.val (.tup [.int a, .int b]), .val (.tup [.int a, .int b]), .no, .no, .no]) rfl ?_
  simp [den__law_like, sSeq, sSet, kSet, dCall, dVar, sort_tup, sIf, tOr, tBl, dO2, ne_int, eq_int, sNil, dTup, mem_sort, sRet, dAnd, dB, bLen, dComp, iZip, kZip, RV.good, zip2, zipD, dLoop, tgT, tgAll, tgN, tNot, tE, ha, hb, D.truth, wipeE, dLst, D.eq, D.shal, D.eqv, D.eqvs]
theorem like_fr (a b : Nat) (c : C) : sem__law_like 40 [fr a b, fr a b] c = .ok (.bl true) c := like_pair 38 _ _ c
theorem ne_fr (a b : Nat) : D.ne (fr a b) (fr a b) = some (.bl false) := by
  unfold fr
  simp [D.ne, D.shal, D.eqv, D.eqvs]
end K68

set_option maxRecDepth 10000
set_option autoImplicit false
set_option exponentiation.threshold 5000
set_option linter.all false
namespace K68
open DL
/-! ### what is asked of the arguments -/
theorem need_chance_spec {a b : Nat} {c : C} (h : Chn a b) : sem_need_chance [.tup [.int a, .int b]] c = .ok .non c := by
  obtain ⟨h1, h2, h3, h4⟩ := h
  have big : (2 : Int) ^ 80 ≤ 1000000000000000000000000000000000000000000000000000000000000 := by decide
  have w1 : sem_is_whole [.int a, .int (-1000000000000000000000000000000000000000000000000000000000000), .int 1000000000000000000000000000000000000000000000000000000000000] c = .ok (.bl true) c := is_whole_spec (by omega) (by omega)
  have w2 : sem_is_whole [.int b, .int 1, .int 1000000000000000000000000000000000000000000000000000000000000] c = .ok (.bl true) c := is_whole_spec (by omega) (by omega)
  have g : m_gcd [.int a, .int b] = some (.int 1) := by
    unfold m_gcd
    simp [h4]
  have r : sem_is_ratio [.tup [.int a, .int b]] c = .ok (.bl true) c := by
    refine run_rt (env := [.val (.tup [.int a, .int b])]) rfl ?_
    have t2 := is_tuple2 (x := .int a) (y := .int b) (c := c)
    simp only [den_is_ratio, sSeq, sIf, tOr, tNot, tE, dCall, dO2, dO1, dB, k_GREAT, D.neg, dVar, dArgs, List.getElem?_cons_zero, List.getElem?_cons_succ, ev_bind_ok, ev_rvd, ev_rvo, ev_c, ev_opt1s, List.map_cons, List.map_nil, List.all_cons, List.all_nil, ev_pln, ev_plo, Bool.and_true, Bool.true_or, if_true, ev_of_ok, kSet, List.set_cons_succ, List.set_cons_zero, t2, ix0, ix1, w1, w2, D.truth, Bool.not_true, Bool.false_eq_true, if_false, sNil, sRet, g, eq_int]
    rfl
  refine run_nx (env := [.val (.tup [.int a, .int b])]) (env' := [.val (.tup [.int a, .int b])]) rfl ?_
  have d1 : decide ((0 : Int) ≤ a) = true := decide_eq_true (by omega)
  have d2 : decide ((a : Int) ≤ b) = true := decide_eq_true (by omega)
  simp only [den_need_chance, sIf, tOr, tNot, tE, tBl, dCall, dO2, dChain, D.le, dVar, dArgs, List.getElem?_cons_zero, List.getElem?_cons_succ, ev_bind_ok, ev_rvd, ev_rvo, ev_c, ev_opt1s, List.map_cons, List.map_nil, List.all_cons, List.all_nil, ev_pln, ev_plo, Bool.and_true, Bool.true_or, if_true, ev_of_ok, kSet, List.set_cons_succ, List.set_cons_zero, r, ix0, ix1, D.truth, Bool.not_true, Bool.false_eq_true, if_false, sNil, d1, d2]
theorem checked_spec {N K n k : Int} {a b : Nat} {c : C} (h1 : 1 ≤ N) (h2 : N ≤ 60) (h3 : 0 ≤ K) (h4 : K ≤ N) (h5 : 0 ≤ n) (h6 : n ≤ N) (h7 : 0 ≤ k) (h8 : k ≤ n) (h : Chn a b) :
    sem_checked [.int N, .tup [.int n, .int k], .int K, .tup [.int a, .int b]] c = .ok .non c := by
  refine run_nx (env := [.val (.int N), .val (.tup [.int n, .int k]), .val (.int K), .val (.tup [.int a, .int b])]) (env' := [.val (.int N), .val (.tup [.int n, .int k]), .val (.int K), .val (.tup [.int a, .int b])]) rfl ?_
  have e1 := need_whole_spec (c := c) h1 h2
  have e2 := need_rule_spec (c := c) h5 h6 h7 h8
  have e3 := need_whole_spec (c := c) h3 h4
  have e4 := need_chance_spec (c := c) h
  simp only [den_checked, sSeq, sExpr, dCall, k_CRATES, dVar, dArgs, List.getElem?_cons_zero, List.getElem?_cons_succ, ev_bind_ok, ev_rvd, ev_rvo, ev_c, ev_opt1s, List.map_cons, List.map_nil, List.all_cons, List.all_nil, ev_pln, ev_plo, Bool.and_true, Bool.true_or, if_true, ev_of_ok, kSet, List.set_cons_succ, List.set_cons_zero, e1, e2, e3, e4]
theorem protects_run {N K : Int} {ru ch : D} {z : Bool} {c : C} (e1 : sem_checked [.int N, ru, .int K, ch] c = .ok .non c) (e2 : sem_is_small [.int N, .int K, ru, ch] c = .ok (.bl z) c) : sem_protects [.int N, ru, .int K, ch] c = .ok (.bl z) c := by
  refine run_rt (env := [.val (.int N), .val ru, .val (.int K), .val ch]) rfl ?_
  simp only [den_protects, sSeq, sExpr, sRet, dCall, dVar, dArgs, List.getElem?_cons_zero, List.getElem?_cons_succ, ev_bind_ok, ev_rvd, ev_rvo, ev_c, ev_opt1s, List.map_cons, List.map_nil, List.all_cons, List.all_nil, ev_pln, ev_plo, Bool.and_true, Bool.true_or, if_true, ev_of_ok, kSet, List.set_cons_succ, List.set_cons_zero, e1, e2]
theorem serves_run {N K : Int} {ru ch : D} {z : Bool} {c : C} (e1 : sem_checked [.int N, ru, .int K, ch] c = .ok .non c) (e2 : sem_is_great [.int N, .int K, ru, ch] c = .ok (.bl z) c) : sem_serves [.int N, ru, .int K, ch] c = .ok (.bl z) c := by
  refine run_rt (env := [.val (.int N), .val ru, .val (.int K), .val ch]) rfl ?_
  simp only [den_serves, sSeq, sExpr, sRet, dCall, dVar, dArgs, List.getElem?_cons_zero, List.getElem?_cons_succ, ev_bind_ok, ev_rvd, ev_rvo, ev_c, ev_opt1s, List.map_cons, List.map_nil, List.all_cons, List.all_nil, ev_pln, ev_plo, Bool.and_true, Bool.true_or, if_true, ev_of_ok, kSet, List.set_cons_succ, List.set_cons_zero, e1, e2]
theorem protects_spec {K M n k a b : Nat} {c : C} (h0 : 1 ≤ K + M) (h : K + M ≤ 60) (hn : n ≤ K + M) (hk : k ≤ n) (hc : Chn a b) : sem_protects [.int (K + M : Nat), .tup [.int n, .int k], .int K, .tup [.int a, .int b]] c = .ok (.bl (sm K M n k a b)) c :=
  protects_run (checked_spec (by omega) (by omega) (by omega) (by omega) (by omega) (by omega) (by omega) (by omega) hc) (is_small_spec h hn hk)
theorem serves_spec {K M n k a b : Nat} {c : C} (h0 : 1 ≤ K + M) (h : K + M ≤ 60) (hn : n ≤ K + M) (hk : k ≤ n) (hc : Chn a b) : sem_serves [.int (K + M : Nat), .tup [.int n, .int k], .int K, .tup [.int a, .int b]] c = .ok (.bl (gr K M n k a b)) c :=
  serves_run (checked_spec (by omega) (by omega) (by omega) (by omega) (by omega) (by omega) (by omega) (by omega) hc) (is_great_spec h hn hk)
/-! ### the least number drawn -/
def filtN (p : Nat → Bool) : Nat → Nat → List Nat
  | _, 0 => []
  | lo, j + 1 => if p lo = true then lo :: filtN p (lo + 1) j else filtN p (lo + 1) j
def encN (xs : List Nat) : List D := xs.map fun (x : Nat) => D.int x
theorem loop_filt (p : Nat → Bool) (tg : TG) (t : DT) (e : DE) (env : Env) (cup : C) (lo1 top : Nat) (he : ∀ i : Nat, lo1 ≤ i → i < top → ∃ env2, tg (.int i) env = some env2 ∧ t env2 cup = .ok (p i) cup ∧ e env2 cup = .ok (.pl (.int i)) cup) :
    ∀ j lo : Nat, lo1 ≤ lo → lo + j ≤ top → dLoop tg t e env (rng lo j) cup = .ok (encN (filtN p lo j)) cup
  | 0, lo, _, _ => rfl
  | j + 1, lo, h1, h => by
    obtain ⟨env2, e1, e2, e3⟩ := he lo h1 (by omega)
    have ih := loop_filt p tg t e env cup lo1 top he j (lo + 1) (by omega) (by omega)
    rw [rng_next, dLoop, e1]
    cases hp : p lo with
    | true =>
      rw [hp] at e2
      simp only [e2, ev_bind_ok, if_true, e3, ih, filtN, hp, encN, List.map_cons]
    | false =>
      rw [hp] at e2
      simp only [e2, ev_bind_ok, Bool.false_eq_true, if_false, ih, filtN, hp]
theorem rng2_nat (e f : DE) (env : Env) (c c' c'' : C) (a b : Nat) (ha : a ≤ 1000) (hb : b ≤ 1000) (h : e env c = .ok (.pl (.int a)) c') (h' : f env c' = .ok (.pl (.int b)) c'') : iRng2 e f env c = .ok (rng a (b - a)) c'' := by
  have h3 : kRng2 (.pl (.int a)) (.pl (.int b)) c'' = .ok (rng a (b - a)) c'' := by
    unfold kRng2
    simp only [ev_rvd]
    rw [show ((b : Int) - a).toNat = b - a by omega, if_pos (by rw [okR_nat ha, okR_nat hb, decide_eq_true (le_sizeL (show b - a ≤ 1000 by omega))]; decide)]
  unfold iRng2
  rw [h, ev_bind_ok, h', ev_bind_ok, h3]
theorem shal_encN (m : Nat) : ∀ s : List Nat, (encN s).all (D.shal (m + 1)) = true
  | [] => rfl
  | x :: s => by
    rw [encN, List.map_cons, List.all_cons]
    exact shal_encN m s
theorem ne_encN (s : List Nat) : D.ne (.lst (encN s)) (.lst []) = some (.bl (!s.isEmpty)) := by
  unfold D.ne
  rw [if_pos (by
    rw [show D.shal 60 (.lst (encN s)) = (encN s).all (D.shal 59) from rfl, shal_encN 58 s]
    rfl)]
  cases s <;> rfl
def firstD : List Nat → D
  | [] => .non
  | x :: _ => .int x
theorem firstD_ok {i : Nat} {env : Env} {c : C} (s : List Nat) (h : env[i]? = some (.val (.lst (encN s)))) : dIf (tBl (dO2 D.ne (dVar i) (dLst []))) (dO2 D.ix (dVar i) (dC (.int 0))) (dC .non) env c = .ok (.pl (firstD s)) c := by
  have v := ev_var (c := c) h
  cases s with
  | nil => simp only [dIf, tBl, dO2, v, dLst, dArgs, List.getElem?_cons_zero, List.getElem?_cons_succ, ev_bind_ok, ev_rvd, ev_rvo, ev_c, ev_opt1s, List.map_cons, List.map_nil, List.all_cons, List.all_nil, ev_pln, ev_plo, Bool.and_true, Bool.true_or, if_true, ev_of_ok, kSet, List.set_cons_succ, List.set_cons_zero, ne_encN, firstD, List.isEmpty_nil, Bool.not_true, Bool.false_eq_true, if_false]
  | cons x r =>
    have ix : D.ix (.lst (encN (x :: r))) (.int 0) = some (.int x) := by
      show (ixD (encN (x :: r)).length 0).bind _ = _
      have : ixD (encN (x :: r)).length 0 = some 0 := by
        unfold ixD
        rw [if_pos (by decide), if_pos (by simp [encN])]
        rfl
      rw [this]
      rfl
    simp only [dIf, tBl, dO2, v, dLst, dArgs, List.getElem?_cons_zero, List.getElem?_cons_succ, ev_bind_ok, ev_rvd, ev_rvo, ev_c, ev_opt1s, List.map_cons, List.map_nil, List.all_cons, List.all_nil, ev_pln, ev_plo, Bool.and_true, Bool.true_or, if_true, ev_of_ok, kSet, List.set_cons_succ, List.set_cons_zero, ne_encN, firstD, List.isEmpty_cons, Bool.not_false, if_true, ix]
theorem add1 {env : Env} {i : Nat} {x : Nat} {c : C} (h : env[i]? = some (.val (.int x))) : dO2 D.addA (dVar i) (dC (.int 1)) env c = .ok (.pl (.int (x + 1 : Nat))) c := by
  simp only [dO2, ev_var h, ev_bind_ok, ev_c, ev_rvd, addA_int, ev_opt1s]
  push_cast
  rfl
theorem least_run {N k K : Int} {ch : D} {c : C} {its : List D} {s : List Nat} (e1 : sem_need_whole [.int N, .int 1, .int 60] c = .ok .non c) (e2 : sem_need_whole [.int k, .int 0, .int N] c = .ok .non c) (e3 : sem_need_whole [.int K, .int 0, .int N] c = .ok .non c) (e4 : sem_need_chance [ch] c = .ok .non c)
    (hr : iRng2 (dVar 1) (dO2 D.addA (dVar 0) (dC (.int 1))) [.val (.int N), .val (.int k), .val (.int K), .val ch, .no, .no] c = .ok its c)
    (hl : dLoop (tgN 5) (tE (dCall (sem_is_small) [dVar 0, dVar 2, dTup [dVar 5, dVar 1], dVar 3])) (dVar 5) [.val (.int N), .val (.int k), .val (.int K), .val ch, .no, .no] its c = .ok (encN s) c) :
    sem_least_drawn [.int N, .int k, .int K, ch] c = .ok (firstD s) c := by
  refine run_rt (env := [.val (.int N), .val (.int k), .val (.int K), .val ch, .no, .no]) rfl ?_
  have last := firstD_ok (i := 4) (env := [.val (.int N), .val (.int k), .val (.int K), .val ch, .val (.lst (encN s)), .no]) (c := c) s rfl
  unfold den_least_drawn
  simp only [sSeq, sExpr, dCall, k_CRATES, dVar, dArgs, List.getElem?_cons_zero, List.getElem?_cons_succ, ev_bind_ok, ev_rvd, ev_rvo, ev_c, ev_opt1s, List.map_cons, List.map_nil, List.all_cons, List.all_nil, ev_pln, ev_plo, Bool.and_true, Bool.true_or, if_true, ev_of_ok, kSet, List.set_cons_succ, List.set_cons_zero, e1, e2, e3, e4, sSet, dComp, hr, wipeE]
  rw [hl]
  simp only [dVar, dArgs, List.getElem?_cons_zero, List.getElem?_cons_succ, ev_bind_ok, ev_rvd, ev_rvo, ev_c, ev_opt1s, List.map_cons, List.map_nil, List.all_cons, List.all_nil, ev_pln, ev_plo, Bool.and_true, Bool.true_or, if_true, ev_of_ok, kSet, List.set_cons_succ, List.set_cons_zero, ev_calm_ok, sRet, last]
theorem small_call {N K k i a b : Int} {z : Bool} {s4 : Slot} {c : C} (h : sem_is_small [.int N, .int K, .tup [.int i, .int k], .tup [.int a, .int b]] c = .ok (.bl z) c) :
    tE (dCall (sem_is_small) [dVar 0, dVar 2, dTup [dVar 5, dVar 1], dVar 3]) [.val (.int N), .val (.int k), .val (.int K), .val (.tup [.int a, .int b]), s4, .val (.int i)] c = .ok z c := by
  simp only [tE, dCall, dTup, dVar, dArgs, List.getElem?_cons_zero, List.getElem?_cons_succ, ev_bind_ok, ev_rvd, ev_rvo, ev_c, ev_opt1s, List.map_cons, List.map_nil, List.all_cons, List.all_nil, ev_pln, ev_plo, Bool.and_true, Bool.true_or, if_true, ev_of_ok, kSet, List.set_cons_succ, List.set_cons_zero, h, D.truth]
theorem least_spec {K M k a b : Nat} {c : C} (h0 : 1 ≤ K + M) (h : K + M ≤ 60) (hk : k ≤ K + M) (hc : Chn a b) : sem_least_drawn [.int (K + M : Nat), .int k, .int K, .tup [.int a, .int b]] c = .ok (firstD (filtN (fun n => sm K M n k a b) k (K + M + 1 - k))) c := by
  refine least_run (need_whole_spec (by omega) (by omega)) (need_whole_spec (by omega) (by omega)) (need_whole_spec (by omega) (by omega)) (need_chance_spec hc) (rng2_nat _ _ _ c c c k (K + M + 1) (by omega) (by omega) rfl (add1 rfl)) ?_
  exact loop_filt _ _ _ _ _ c k (K + M + 1) (fun i h1 h2 => ⟨_, rfl, small_call (is_small_spec h (by omega) h1), rfl⟩) _ k (by omega) (by omega)
end K68

set_option maxRecDepth 10000
set_option autoImplicit false
set_option exponentiation.threshold 5000
set_option linter.all false
namespace K68
open DL
/-! ### the best rule, by the def -/
def bInner : DS := sSeq (sSet 7 (dTup [dVar 5, dVar 6])) (sIf (tAnd (tE (dCall (sem_is_great) [dVar 0, dVar 1, dVar 7, dVar 2])) (tE (dCall (sem_is_small) [dVar 0, dVar 3, dVar 7, dVar 4]))) (sRet (dVar 7)) (sNil))
def pr (n k : Nat) : D := .tup [.int n, .int k]
theorem b_step {N G K : D} {ch1 ch2 n k : D} {g s : Bool} {s7 : Slot} {c : C} (hg : sem_is_great [N, G, .tup [n, k], ch1] c = .ok (.bl g) c) (hs : sem_is_small [N, K, .tup [n, k], ch2] c = .ok (.bl s) c) :
    bInner [.val N, .val G, .val ch1, .val K, .val ch2, .val n, .val k, s7] c = if (g && s) = true then .rt (.tup [n, k]) c else .nx [.val N, .val G, .val ch1, .val K, .val ch2, .val n, .val k, .val (.tup [n, k])] c := by
  unfold bInner
  cases g <;> cases s <;> simp only [sSeq, sSet, dTup, sIf, tAnd, tE, dCall, dVar, dArgs, List.getElem?_cons_zero, List.getElem?_cons_succ, ev_bind_ok, ev_rvd, ev_rvo, ev_c, ev_opt1s, List.map_cons, List.map_nil, List.all_cons, List.all_nil, ev_pln, ev_plo, Bool.and_true, Bool.true_or, if_true, ev_of_ok, kSet, List.set_cons_succ, List.set_cons_zero, hg, hs, D.truth, sRet, sNil, Bool.and_false, Bool.false_and, Bool.false_eq_true, if_false]
theorem b_inner {N G K : D} {ch1 ch2 : D} {n : Nat} {c : C} (p : Nat → Bool) (h : ∀ (k : Nat) (s7 : Slot), k ≤ n → bInner [.val N, .val G, .val ch1, .val K, .val ch2, .val (.int n), .val (.int k), s7] c = if p k = true then .rt (pr n k) c else .nx [.val N, .val G, .val ch1, .val K, .val ch2, .val (.int n), .val (.int k), .val (pr n k)] c) :
    ∀ (j lo : Nat) (s6 s7 : Slot), lo + j ≤ n + 1 → ∃ t6 t7, sForL (tgN 6) bInner (rng lo j) [.val N, .val G, .val ch1, .val K, .val ch2, .val (.int n), s6, s7] c = match filtN p lo j with
      | [] => .nx [.val N, .val G, .val ch1, .val K, .val ch2, .val (.int n), t6, t7] c
      | k :: _ => .rt (pr n k) c
  | 0, lo, s6, s7, _ => ⟨s6, s7, rfl⟩
  | j + 1, lo, s6, s7, hl => by
    obtain ⟨t6, t7, ih⟩ := b_inner p h j (lo + 1) (.val (.int lo)) (.val (pr n lo)) (by omega)
    refine ⟨t6, t7, ?_⟩
    have e := h lo s7 (by omega)
    rw [rng_next, filtN]
    cases hp : p lo with
    | true =>
      rw [hp, if_pos rfl] at e
      rw [for_rt rfl e]
      rfl
    | false =>
      rw [hp, if_neg (by decide)] at e
      rw [for_nx rfl e, if_neg (by decide)]
      exact ih
def pairs (P : Nat → Nat → Bool) : Nat → Nat → List (Nat × Nat)
  | _, 0 => []
  | lo, j + 1 => (filtN (P lo) 0 (lo + 1)).map (fun k => (lo, k)) ++ pairs P (lo + 1) j
def firstP : List (Nat × Nat) → D
  | [] => .non
  | (n, k) :: _ => pr n k
def bOuter : DS := sFor (iRng1 (dO2 D.addA (dVar 5) (dC (.int 1)))) (tgN 6) bInner
theorem b_outer {N G K : D} {ch1 ch2 : D} {top : Nat} (ht : top ≤ 100) {c : C} (P : Nat → Nat → Bool) (h : ∀ (n k : Nat) (s7 : Slot), n < top → k ≤ n → bInner [.val N, .val G, .val ch1, .val K, .val ch2, .val (.int n), .val (.int k), s7] c = if P n k = true then .rt (pr n k) c else .nx [.val N, .val G, .val ch1, .val K, .val ch2, .val (.int n), .val (.int k), .val (pr n k)] c) :
    ∀ (j lo : Nat) (s5 s6 s7 : Slot), lo + j ≤ top → ∃ t5 t6 t7, sForL (tgN 5) bOuter (rng lo j) [.val N, .val G, .val ch1, .val K, .val ch2, s5, s6, s7] c = match pairs P lo j with
      | [] => .nx [.val N, .val G, .val ch1, .val K, .val ch2, t5, t6, t7] c
      | (n, k) :: _ => .rt (pr n k) c
  | 0, lo, s5, s6, s7, _ => ⟨s5, s6, s7, rfl⟩
  | j + 1, lo, s5, s6, s7, hl => by
    obtain ⟨u6, u7, e⟩ := b_inner (c := c) (N := N) (G := G) (K := K) (ch1 := ch1) (ch2 := ch2) (n := lo) (P lo) (fun k s7 hk => h lo k s7 (by omega) hk) (lo + 1) 0 s6 s7 (by omega)
    obtain ⟨t5, t6, t7, ih⟩ := b_outer ht P h j (lo + 1) (.val (.int lo)) u6 u7 (by omega)
    refine ⟨t5, t6, t7, ?_⟩
    have hr := rng1_nat (dO2 D.addA (dVar 5) (dC (.int 1))) [.val N, .val G, .val ch1, .val K, .val ch2, .val (.int lo), s6, s7] c c (lo + 1) (by omega) (add1 rfl)
    have q : bOuter [.val N, .val G, .val ch1, .val K, .val ch2, .val (.int lo), s6, s7] c = match filtN (P lo) 0 (lo + 1) with
      | [] => .nx [.val N, .val G, .val ch1, .val K, .val ch2, .val (.int lo), u6, u7] c
      | k :: _ => .rt (pr lo k) c := by
      rw [bOuter, sfor_of hr]
      exact e
    rw [rng_next, pairs]
    cases hp : filtN (P lo) 0 (lo + 1) with
    | nil =>
      rw [hp] at q
      rw [for_nx rfl q]
      exact ih
    | cons k ks =>
      rw [hp] at q
      rw [for_rt rfl q]
      rfl
theorem best_run {N G K : Int} {ch1 ch2 : D} {c : C} {its : List D} {ps : List (Nat × Nat)} {t5 t6 t7 : Slot} (e1 : sem_need_lot [.int N, .int G] c = .ok .non c) (e2 : sem_need_chance [ch1] c = .ok .non c) (e3 : sem_need_whole [.int K, .int 0, .int N] c = .ok .non c) (e4 : sem_need_chance [ch2] c = .ok .non c)
    (hr : iRng1 (dO2 D.addA (dVar 0) (dC (.int 1))) [.val (.int N), .val (.int G), .val ch1, .val (.int K), .val ch2, .no, .no, .no] c = .ok its c)
    (hl : sForL (tgN 5) bOuter its [.val (.int N), .val (.int G), .val ch1, .val (.int K), .val ch2, .no, .no, .no] c = match ps with
      | [] => .nx [.val (.int N), .val (.int G), .val ch1, .val (.int K), .val ch2, t5, t6, t7] c
      | (n, k) :: _ => .rt (pr n k) c) : sem_best_rule [.int N, .int G, ch1, .int K, ch2] c = .ok (firstP ps) c := by
  refine run_rt (env := [.val (.int N), .val (.int G), .val ch1, .val (.int K), .val ch2, .no, .no, .no]) rfl ?_
  have ed : den_best_rule = sSeq (sExpr (dCall (sem_need_lot) [dVar 0, dVar 1])) (sSeq (sExpr (dCall (sem_need_chance) [dVar 2])) (sSeq (sExpr (dCall (sem_need_whole) [dVar 3, dC (.int 0), dVar 0])) (sSeq (sExpr (dCall (sem_need_chance) [dVar 4])) (sSeq (sFor (iRng1 (dO2 D.addA (dVar 0) (dC (.int 1)))) (tgN 5) bOuter) (sRet (dC .non)))))) := rfl
  rw [ed]
  simp only [sSeq, sExpr, dCall, dVar, dArgs, List.getElem?_cons_zero, List.getElem?_cons_succ, ev_bind_ok, ev_rvd, ev_rvo, ev_c, ev_opt1s, List.map_cons, List.map_nil, List.all_cons, List.all_nil, ev_pln, ev_plo, Bool.and_true, Bool.true_or, if_true, ev_of_ok, kSet, List.set_cons_succ, List.set_cons_zero, e1, e2, e3, e4, sFor, hr]
  rw [hl]
  cases ps with
  | nil => rfl
  | cons p ps => rfl
theorem best_spec {G MG K MK a b a' b' : Nat} {c : C} (h0 : 1 ≤ G + MG) (h : G + MG ≤ 60) (he : K + MK = G + MG) (hc : Chn a b) (hc' : Chn a' b') :
    sem_best_rule [.int (G + MG : Nat), .int G, .tup [.int a, .int b], .int K, .tup [.int a', .int b']] c = .ok (firstP (pairs (fun n k => gr G MG n k a b && sm K MK n k a' b') 0 (G + MG + 1))) c := by
  obtain ⟨t5, t6, t7, e⟩ := b_outer (N := .int (G + MG : Nat)) (G := .int G) (K := .int K) (ch1 := .tup [.int a, .int b]) (ch2 := .tup [.int a', .int b']) (top := G + MG + 1) (by omega) (c := c) (fun n k => gr G MG n k a b && sm K MK n k a' b')
    (fun n k s7 hn hk => b_step (is_great_spec h (by omega) hk) (by rw [← he]; exact is_small_spec (by omega) (by omega) hk)) (G + MG + 1) 0 .no .no .no (by omega)
  exact best_run (need_lot_spec (by omega) (by omega) (by omega) (by omega)) (need_chance_spec hc) (need_whole_spec (by omega) (by omega)) (need_chance_spec hc') (rng1_nat _ _ c c (G + MG + 1) (by omega) (add1 rfl)) e
/-! ### the best rule, by the law -/
def lInner : DS := sSeq (sSet 13 (dTup [dVar 7, dVar 12])) (sSeq (sSet 14 (dAnd (dO2 D.eq (dVar 11) (dLst [])) (dCall (sem__law_at_least) [dCall (sem__law_chance) [dVar 1, dVar 3, dVar 13], dVar 9]))) (sIf (tAnd (tE (dVar 14)) (tE (dCall (sem__law_at_most) [dCall (sem__law_chance) [dVar 1, dVar 2, dVar 13], dVar 10]))) (sApp 11 (dVar 13)) (sNil)))
def headP : List (Nat × Nat) → List D
  | [] => []
  | (n, k) :: _ => [pr n k]
theorem eq_headP (L : List (Nat × Nat)) : D.eq (.lst (headP L)) (.lst []) = some (.bl L.isEmpty) := by
  cases L with
  | nil => rfl
  | cons p ps => simp [headP, pr, D.eq, D.shal, D.eqv, D.eqvs]
theorem l_step0 {v0 v4 v5 v6 v8 s13 s14 s15 : Slot} {N G K : D} {ch1 ch2 r1 r2 : D} {n k ru : D} {g s : Bool} {c : C} (hru : ru = .tup [n, k]) (h1 : sem__law_chance [N, G, ru] c = .ok r1 c) (h2 : sem__law_at_least [r1, ch1] c = .ok (.bl g) c) (h3 : sem__law_chance [N, K, ru] c = .ok r2 c) (h4 : sem__law_at_most [r2, ch2] c = .ok (.bl s) c) :
    lInner [v0, .val N, .val K, .val G, v4, v5, v6, .val n, v8, .val ch1, .val ch2, .own [], .val k, s13, s14, s15] c =
      .nx [v0, .val N, .val K, .val G, v4, v5, v6, .val n, v8, .val ch1, .val ch2, .own (if (g && s) = true then [ru] else []), .val k, .val ru, .val (.bl g), s15] c := by
  have e0 : D.eq (.lst []) (.lst []) = some (.bl true) := rfl
  have sz : 0 < sizeL := by unfold sizeL; decide
  unfold lInner
  rw [hru] at h1 h3 ⊢
  cases g <;> cases s <;> simp only [sSeq, sSet, dTup, dVar, dArgs, List.getElem?_cons_zero, List.getElem?_cons_succ, ev_bind_ok, ev_rvd, ev_rvo, ev_c, ev_opt1s, List.map_cons, List.map_nil, List.all_cons, List.all_nil, ev_pln, ev_plo, Bool.and_true, Bool.true_or, if_true, ev_of_ok, kSet, List.set_cons_succ, List.set_cons_zero, dAnd, dO2, dLst, e0, dCall, h1, h2, h3, h4, sIf, tAnd, tE, D.truth, sApp, kApp, List.length_nil, sz, List.nil_append, Bool.and_self, Bool.and_false, Bool.false_and, Bool.false_eq_true, if_false, sNil]
theorem l_step1 {v0 v4 v5 v6 v8 s13 s14 s15 : Slot} {N G K : D} {ch1 ch2 x : D} {n k ru : D} {c : C} (hru : ru = .tup [n, k]) (e0 : D.eq (.lst [x]) (.lst []) = some (.bl false)) :
    lInner [v0, .val N, .val K, .val G, v4, v5, v6, .val n, v8, .val ch1, .val ch2, .own [x], .val k, s13, s14, s15] c =
      .nx [v0, .val N, .val K, .val G, v4, v5, v6, .val n, v8, .val ch1, .val ch2, .own [x], .val k, .val ru, .val (.bl false), s15] c := by
  unfold lInner
  rw [hru]
  simp only [sSeq, sSet, dTup, dVar, dArgs, List.getElem?_cons_zero, List.getElem?_cons_succ, ev_bind_ok, ev_rvd, ev_rvo, ev_c, ev_opt1s, List.map_cons, List.map_nil, List.all_cons, List.all_nil, ev_pln, ev_plo, Bool.and_true, Bool.true_or, if_true, ev_of_ok, kSet, List.set_cons_succ, List.set_cons_zero, dAnd, dO2, dLst, e0, sIf, tAnd, tE, D.truth, Bool.false_eq_true, if_false, sNil]
theorem l_step {v0 v4 v5 v6 v8 s13 s14 s15 : Slot} {N G K : D} {ch1 ch2 r1 r2 : D} {n k : Nat} {g s : Bool} {c : C} {L : List (Nat × Nat)} (h1 : sem__law_chance [N, G, pr n k] c = .ok r1 c) (h2 : sem__law_at_least [r1, ch1] c = .ok (.bl g) c) (h3 : sem__law_chance [N, K, pr n k] c = .ok r2 c) (h4 : sem__law_at_most [r2, ch2] c = .ok (.bl s) c) :
    ∃ t14, lInner [v0, .val N, .val K, .val G, v4, v5, v6, .val (.int n), v8, .val ch1, .val ch2, .own (headP L), .val (.int k), s13, s14, s15] c =
      .nx [v0, .val N, .val K, .val G, v4, v5, v6, .val (.int n), v8, .val ch1, .val ch2, .own (headP (L ++ if (g && s) = true then [(n, k)] else [])), .val (.int k), .val (pr n k), t14, s15] c := by
  cases L with
  | nil =>
    refine ⟨.val (.bl g), ?_⟩
    have e := l_step0 (v0 := v0) (v4 := v4) (v5 := v5) (v6 := v6) (v8 := v8) (s13 := s13) (s14 := s14) (s15 := s15) (hru := (rfl : pr n k = .tup [.int n, .int k])) h1 h2 h3 h4
    have e2 : headP ([] ++ if (g && s) = true then [(n, k)] else []) = if (g && s) = true then [pr n k] else [] := by cases (g && s) <;> rfl
    rw [e2]
    exact e
  | cons p ps =>
    obtain ⟨n0, k0⟩ := p
    refine ⟨.val (.bl false), ?_⟩
    exact l_step1 (hru := rfl) (eq_headP [(n0, k0)])
theorem l_inner {v0 v4 v5 v6 v8 s15 : Slot} {N G K : D} {ch1 ch2 : D} {n : Nat} {c : C} (p : Nat → Bool) (h : ∀ (k : Nat) (s13 s14 : Slot) (L : List (Nat × Nat)), k ≤ n → ∃ t14, lInner [v0, .val N, .val K, .val G, v4, v5, v6, .val (.int n), v8, .val ch1, .val ch2, .own (headP L), .val (.int k), s13, s14, s15] c =
      .nx [v0, .val N, .val K, .val G, v4, v5, v6, .val (.int n), v8, .val ch1, .val ch2, .own (headP (L ++ if p k = true then [(n, k)] else [])), .val (.int k), .val (pr n k), t14, s15] c) :
    ∀ (j lo : Nat) (s12 s13 s14 : Slot) (L : List (Nat × Nat)), lo + j ≤ n + 1 → ∃ t12 t13 t14, sForL (tgN 12) lInner (rng lo j) [v0, .val N, .val K, .val G, v4, v5, v6, .val (.int n), v8, .val ch1, .val ch2, .own (headP L), s12, s13, s14, s15] c =
      .nx [v0, .val N, .val K, .val G, v4, v5, v6, .val (.int n), v8, .val ch1, .val ch2, .own (headP (L ++ (filtN p lo j).map fun k => (n, k))), t12, t13, t14, s15] c
  | 0, lo, s12, s13, s14, L, _ => ⟨s12, s13, s14, by rw [filtN, List.map_nil, List.append_nil]; rfl⟩
  | j + 1, lo, s12, s13, s14, L, hl => by
    obtain ⟨u14, e⟩ := h lo s13 s14 L (by omega)
    obtain ⟨t12, t13, t14, ih⟩ := l_inner p h j (lo + 1) (.val (.int lo)) (.val (pr n lo)) u14 (L ++ if p lo = true then [(n, lo)] else []) (by omega)
    refine ⟨t12, t13, t14, ?_⟩
    rw [rng_next, for_nx rfl e, ih, filtN]
    cases hp : p lo with
    | true => simp only [if_true, List.map_cons, List.append_assoc, List.cons_append, List.nil_append]
    | false => simp only [Bool.false_eq_true, if_false, List.append_nil]
def lOuter : DS := sFor (iRng1 (dO2 D.addA (dVar 7) (dC (.int 1)))) (tgN 12) lInner
theorem l_outer {v0 v4 v5 v6 v8 s15 : Slot} {N G K : D} {ch1 ch2 : D} {top : Nat} (ht : top ≤ 100) {c : C} (P : Nat → Nat → Bool) (h : ∀ (n k : Nat) (s13 s14 : Slot) (L : List (Nat × Nat)), n < top → k ≤ n → ∃ t14, lInner [v0, .val N, .val K, .val G, v4, v5, v6, .val (.int n), v8, .val ch1, .val ch2, .own (headP L), .val (.int k), s13, s14, s15] c =
      .nx [v0, .val N, .val K, .val G, v4, v5, v6, .val (.int n), v8, .val ch1, .val ch2, .own (headP (L ++ if P n k = true then [(n, k)] else [])), .val (.int k), .val (pr n k), t14, s15] c) :
    ∀ (j lo : Nat) (s7 s12 s13 s14 : Slot) (L : List (Nat × Nat)), lo + j ≤ top → ∃ t7 t12 t13 t14, sForL (tgN 7) lOuter (rng lo j) [v0, .val N, .val K, .val G, v4, v5, v6, s7, v8, .val ch1, .val ch2, .own (headP L), s12, s13, s14, s15] c =
      .nx [v0, .val N, .val K, .val G, v4, v5, v6, t7, v8, .val ch1, .val ch2, .own (headP (L ++ pairs P lo j)), t12, t13, t14, s15] c
  | 0, lo, s7, s12, s13, s14, L, _ => ⟨s7, s12, s13, s14, by rw [pairs, List.append_nil]; rfl⟩
  | j + 1, lo, s7, s12, s13, s14, L, hl => by
    obtain ⟨u12, u13, u14, e⟩ := l_inner (v0 := v0) (v4 := v4) (v5 := v5) (v6 := v6) (v8 := v8) (s15 := s15) (c := c) (N := N) (G := G) (K := K) (ch1 := ch1) (ch2 := ch2) (n := lo) (P lo) (fun k s13 s14 L hk => h lo k s13 s14 L (by omega) hk) (lo + 1) 0 s12 s13 s14 L (by omega)
    obtain ⟨t7, t12, t13, t14, ih⟩ := l_outer ht P h j (lo + 1) (.val (.int lo)) u12 u13 u14 (L ++ (filtN (P lo) 0 (lo + 1)).map fun k => (lo, k)) (by omega)
    refine ⟨t7, t12, t13, t14, ?_⟩
    have hr := rng1_nat (dO2 D.addA (dVar 7) (dC (.int 1))) [v0, .val N, .val K, .val G, v4, v5, v6, .val (.int lo), v8, .val ch1, .val ch2, .own (headP L), s12, s13, s14, s15] c c (lo + 1) (by omega) (add1 rfl)
    have q : lOuter [v0, .val N, .val K, .val G, v4, v5, v6, .val (.int lo), v8, .val ch1, .val ch2, .own (headP L), s12, s13, s14, s15] c = .nx [v0, .val N, .val K, .val G, v4, v5, v6, .val (.int lo), v8, .val ch1, .val ch2, .own (headP (L ++ (filtN (P lo) 0 (lo + 1)).map fun k => (lo, k))), u12, u13, u14, s15] c := by
      rw [lOuter, sfor_of hr]
      exact e
    rw [rng_next, for_nx rfl q, ih, pairs, List.append_assoc]
end K68

set_option maxRecDepth 10000
set_option autoImplicit false
set_option exponentiation.threshold 5000
set_option linter.all false
namespace K68
open DL
/-! ### the cup's choices -/
theorem some_spec (c : C) (xs : List D) (h0 : 0 < xs.length) (h1 : xs.length ≤ 1000) : ∃ (v : Nat) (d : D) (c' : C), xs[v]? = some d ∧ sem__law_some [.cup, .lst xs] c = .ok d c' := by
  obtain ⟨v, c', r, v0, v1⟩ := roll_spec c xs.length (by omega) (by omega)
  obtain ⟨vn, rfl⟩ := Int.eq_ofNat_of_zero_le v0
  have hv : vn < xs.length := by omega
  refine ⟨vn, xs[vn], c', List.getElem?_eq_getElem hv, ?_⟩
  refine run_rt (env := [.val .cup, .val (.lst xs)]) rfl ?_
  have hx : D.ix (.lst xs) (.int vn) = some xs[vn] := by
    show (ixD xs.length (vn : Int)).bind _ = _
    have e : ixD xs.length (vn : Int) = some vn := by
      unfold ixD
      rw [if_pos (by omega), if_pos (by omega), Int.toNat_natCast]
    rw [e]
    exact List.getElem?_eq_getElem hv
  generalize xs[vn] = d at hx
  have hb : bLen [.lst xs] = some (.int xs.length) := rfl
  unfold den__law_some
  simp only [sRet, dO2, dCall, dB, dVar, dArgs, List.getElem?_cons_zero, List.getElem?_cons_succ, ev_bind_ok, ev_rvd, ev_rvo, ev_c, ev_opt1s, List.map_cons, List.map_nil, List.all_cons, List.all_nil, ev_pln, ev_plo, Bool.and_true, Bool.true_or, if_true, ev_of_ok, kSet, List.set_cons_succ, List.set_cons_zero, hb, r, hx]
theorem cat_lists {xs ys : List D} (h : xs.length + ys.length ≤ 1000) : D.addA (.lst xs) (.lst ys) = some (.lst (xs ++ ys)) := by
  unfold D.addA D.add D.cat
  dsimp only
  rw [if_pos (le_sizeL h)]
  rfl
def p2 (x y : Int) : D := .tup [.int x, .int y]
theorem near_run {w t m x y mn : Int} {r : D} {c c' : C} (h1 : mulOk w 1000 = true) (h2 : mulOk t 1000 = true) (hm : bMax2 [.int 0, .int (w * 1000 - 1)] = some (.int m))
    (hs : sem__law_some [.cup, .lst [p2 w t, p2 (w * 1000 + 1) (t * 1000), p2 m (t * 1000), p2 1 2, p2 0 1, p2 1 1, p2 9 10, p2 1 20]] c = .ok (p2 x y) c') (hn : bMin2 [.int x, .int y] = some (.int mn)) (hr : sem__law_ratio [.int mn, .int y] c' = .ok r c') :
    sem__law_near [.cup, p2 w t] c = .ok r c' := by
  have g1 := mulA_some h1
  have g2 := mulA_some h2
  refine run_rt (env := [.val .cup, .val (p2 w t), .no, .no, .no, .no]) rfl ?_
  have q1 : sTgt (tgT [tgN 2, tgN 3]) (dVar 1) [.val .cup, .val (p2 w t), .no, .no, .no, .no] c = .nx [.val .cup, .val (p2 w t), .val (.int w), .val (.int t), .no, .no] c := rfl
  have q2 : sSet 4 (dLst [dVar 1, dTup [dO2 D.addA (dO2 D.mulA (dVar 2) (dC (.int 1000))) (dC (.int 1)), dO2 D.mulA (dVar 3) (dC (.int 1000))], dTup [dB bMax2 [dC (.int 0), dO2 D.subA (dO2 D.mulA (dVar 2) (dC (.int 1000))) (dC (.int 1))], dO2 D.mulA (dVar 3) (dC (.int 1000))]]) [.val .cup, .val (p2 w t), .val (.int w), .val (.int t), .no, .no] c =
      .nx [.val .cup, .val (p2 w t), .val (.int w), .val (.int t), .val (.lst [p2 w t, p2 (w * 1000 + 1) (t * 1000), p2 m (t * 1000)]), .no] c := by
    simp only [sSet, dLst, dTup, dO2, dB, dVar, dArgs, List.getElem?_cons_zero, List.getElem?_cons_succ, ev_bind_ok, ev_rvd, ev_rvo, ev_c, ev_opt1s, List.map_cons, List.map_nil, List.all_cons, List.all_nil, ev_pln, ev_plo, Bool.and_true, Bool.true_or, if_true, ev_of_ok, kSet, List.set_cons_succ, List.set_cons_zero, g1, g2, addA_int, subA_int, hm, p2]
  have q3 : sSet 5 (dCall (sem__law_some) [dVar 0, dO2 D.addA (dVar 4) (dLst [dTup [dC (.int 1), dC (.int 2)], dTup [dC (.int 0), dC (.int 1)], dTup [dC (.int 1), dC (.int 1)], dTup [dC (.int 9), dC (.int 10)], dTup [dC (.int 1), dC (.int 20)]])]) [.val .cup, .val (p2 w t), .val (.int w), .val (.int t), .val (.lst [p2 w t, p2 (w * 1000 + 1) (t * 1000), p2 m (t * 1000)]), .no] c =
      .nx [.val .cup, .val (p2 w t), .val (.int w), .val (.int t), .val (.lst [p2 w t, p2 (w * 1000 + 1) (t * 1000), p2 m (t * 1000)]), .val (p2 x y)] c' := by
    have l : D.addA (.lst [p2 w t, p2 (w * 1000 + 1) (t * 1000), p2 m (t * 1000)]) (.lst [p2 1 2, p2 0 1, p2 1 1, p2 9 10, p2 1 20]) = some (.lst [p2 w t, p2 (w * 1000 + 1) (t * 1000), p2 m (t * 1000), p2 1 2, p2 0 1, p2 1 1, p2 9 10, p2 1 20]) := cat_lists (by show 3 + 5 ≤ 1000; decide)
    exact set_of (call_of (ds := [.cup, .lst _]) (args_2 rfl (o2_of (u := .pl _) (v := .pl _) rfl rfl l)) hs)
  have q4 : sRet (dCall (sem__law_ratio) [dB bMin2 [dO2 D.ix (dVar 5) (dC (.int 0)), dO2 D.ix (dVar 5) (dC (.int 1))], dO2 D.ix (dVar 5) (dC (.int 1))]) [.val .cup, .val (p2 w t), .val (.int w), .val (.int t), .val (.lst [p2 w t, p2 (w * 1000 + 1) (t * 1000), p2 m (t * 1000)]), .val (p2 x y)] c' = .rt r c' := by
    simp only [sRet, dCall, dB, dO2, dVar, dArgs, List.getElem?_cons_zero, List.getElem?_cons_succ, ev_bind_ok, ev_rvd, ev_rvo, ev_c, ev_opt1s, List.map_cons, List.map_nil, List.all_cons, List.all_nil, ev_pln, ev_plo, Bool.and_true, Bool.true_or, if_true, ev_of_ok, kSet, List.set_cons_succ, List.set_cons_zero, p2, ix0, ix1, hn, hr]
  have e : den__law_near = sSeq _ (sSeq _ (sSeq _ _)) := rfl
  rw [e, seq_nx q1, seq_nx q2, seq_nx q3, q4]
theorem chn_low {x y : Nat} (hy : 0 < y) (hl : y < 2 ^ 80) (hx : x ≤ y) : Chn (x / Nat.gcd x y) (y / Nat.gcd x y) := by
  have g0 : 0 < Nat.gcd x y := Nat.gcd_pos_of_pos_right _ hy
  refine ⟨Nat.div_pos (Nat.gcd_le_right _ hy) g0, Nat.div_le_div_right hx, Nat.lt_of_le_of_lt (Nat.div_le_self _ _) hl, ?_⟩
  rw [Nat.gcd_div (Nat.gcd_dvd_left x y) (Nat.gcd_dvd_right x y), Nat.div_self g0]
theorem near_spec (w t : Nat) (c : C) (ht : 0 < t) (hw : w ≤ t) (hl : t < 2 ^ 61) : ∃ a b c', sem__law_near [.cup, .tup [.int w, .int t]] c = .ok (.tup [.int (a : Nat), .int (b : Nat)]) c' ∧ Chn a b := by
  have hm : bMax2 [.int 0, .int ((w : Int) * 1000 - 1)] = some (.int ((w * 1000 - 1 : Nat) : Int)) := by
    unfold bMax2
    dsimp only
    split <;> congr 2 <;> omega
  obtain ⟨v, d, c', hv, hs⟩ := some_spec c [p2 w t, p2 ((w : Int) * 1000 + 1) ((t : Int) * 1000), p2 ((w * 1000 - 1 : Nat) : Int) ((t : Int) * 1000), p2 1 2, p2 0 1, p2 1 1, p2 9 10, p2 1 20] (by show 0 < 8; decide) (by show 8 ≤ 1000; decide)
  have mem := List.mem_of_getElem? hv
  have two : ∃ x y : Nat, d = p2 x y ∧ 0 < y ∧ y < 2 ^ 72 := by
    simp only [List.mem_cons, List.not_mem_nil, or_false] at mem
    rcases mem with rfl | rfl | rfl | rfl | rfl | rfl | rfl | rfl
    · exact ⟨w, t, rfl, ht, by omega⟩
    · exact ⟨w * 1000 + 1, t * 1000, by push_cast; rfl, by omega, by omega⟩
    · exact ⟨w * 1000 - 1, t * 1000, by push_cast; rfl, by omega, by omega⟩
    · exact ⟨1, 2, rfl, by decide, by decide⟩
    · exact ⟨0, 1, rfl, by decide, by decide⟩
    · exact ⟨1, 1, rfl, by decide, by decide⟩
    · exact ⟨9, 10, rfl, by decide, by decide⟩
    · exact ⟨1, 20, rfl, by decide, by decide⟩
  obtain ⟨x, y, rfl, y0, y1⟩ := two
  have hn : bMin2 [.int (x : Int), .int (y : Int)] = some (.int ((min x y : Nat) : Int)) := by
    unfold bMin2
    dsimp only
    split <;> congr 2 <;> omega
  exact ⟨_, _, c', near_run (mulOk_l (by omega) (by omega)) (mulOk_l (by omega) (by omega)) hm hs hn (ratio_spec (min x y) y c' (Nat.lt_trans y1 (by decide)) y0), chn_low y0 (Nat.lt_trans y1 (by decide)) (by omega)⟩
/-! ### numbers in a row -/
def upTo (lo : Nat) : Nat → List Nat
  | 0 => []
  | j + 1 => lo :: upTo (lo + 1) j
theorem upTo_len : ∀ j lo, (upTo lo j).length = j
  | 0, _ => rfl
  | j + 1, lo => by rw [upTo, List.length_cons, upTo_len j]
theorem upTo_mem : ∀ {j lo x : Nat}, x ∈ upTo lo j → lo ≤ x ∧ x < lo + j
  | 0, _, _, h => by cases h
  | j + 1, lo, x, h => by
    rcases List.mem_cons.mp h with rfl | h
    · omega
    · have := upTo_mem h
      omega
theorem upTo_drop : ∀ i j lo, (upTo lo (i + j)).drop i = upTo (lo + i) j
  | 0, j, lo => by simp
  | i + 1, j, lo => by
    rw [show i + 1 + j = (i + j) + 1 by omega, upTo, List.drop_succ_cons, upTo_drop i j (lo + 1)]
    congr 1
    omega
theorem upTo_take : ∀ i j lo, (upTo lo (i + j)).take i = upTo lo i
  | 0, j, lo => by simp [upTo]
  | i + 1, j, lo => by
    rw [show i + 1 + j = (i + j) + 1 by omega, upTo, List.take_succ_cons, upTo_take i j (lo + 1)]
    rfl
theorem upTo_get : ∀ j lo i, i < j → (upTo lo j)[i]? = some (lo + i)
  | 0, _, _, h => by omega
  | j + 1, lo, 0, _ => rfl
  | j + 1, lo, i + 1, h => by
    rw [upTo, List.getElem?_cons_succ, upTo_get j (lo + 1) i (by omega)]
    congr 1
    omega
theorem loop_up (f : Nat → D) (tg : TG) (e : DE) (env : Env) (cup : C) (top : Nat) (he : ∀ i : Nat, i < top → ∃ env2, tg (.int i) env = some env2 ∧ e env2 cup = .ok (.pl (f i)) cup) :
    ∀ j lo : Nat, lo + j ≤ top → dLoop tg tYes e env (rng lo j) cup = .ok ((upTo lo j).map f) cup
  | 0, lo, _ => rfl
  | j + 1, lo, h => by
    obtain ⟨env2, h1, h2⟩ := he lo (by omega)
    have ih := loop_up f tg e env cup top he j (lo + 1) (by omega)
    rw [rng_next]
    exact loop_yes h1 rfl h2 ih
theorem loop_idx (f : Nat → D) (p : Nat → Bool) (tg : TG) (t : DT) (e : DE) (env : Env) (cup : C) : ∀ I : List Nat, (∀ i ∈ I, ∃ env2, tg (f i) env = some env2 ∧ t env2 cup = .ok (p i) cup ∧ e env2 cup = .ok (.pl (f i)) cup) → dLoop tg t e env (I.map f) cup = .ok ((I.filter p).map f) cup
  | [], _ => rfl
  | i :: I, h => by
    obtain ⟨env2, h1, h2, h3⟩ := h i List.mem_cons_self
    have ih := loop_idx f p tg t e env cup I fun j hj => h j (List.mem_cons_of_mem _ hj)
    rw [List.map_cons]
    cases hp : p i with
    | true =>
      rw [hp] at h2
      rw [List.filter_cons_of_pos hp]
      exact loop_yes h1 h2 h3 ih
    | false =>
      rw [hp] at h2
      rw [List.filter_cons_of_neg (by rw [hp]; decide)]
      exact loop_no h1 h2 ih
theorem eq_map_nil (f : Nat → D) (hf : ∀ i, D.shal 59 (f i) = true) (I : List Nat) : D.eq (.lst (I.map f)) (.lst []) = some (.bl I.isEmpty) := by
  have h : (I.map f).all (D.shal 59) = true := by
    rw [List.all_map]
    exact List.all_eq_true.mpr fun i _ => hf i
  unfold D.eq
  rw [show D.shal 60 (.lst (I.map f)) = (I.map f).all (D.shal 59) from rfl, h]
  cases I <;> rfl
theorem slA_drop {xs : List D} (i : Nat) (h : i ≤ xs.length) : D.slA (.lst xs) (some (i : Int)) none = some (.lst (xs.drop i)) := by
  have e1 : cutAt xs.length 0 (some (i : Int)) = i := by
    unfold cutAt
    dsimp only
    rw [if_neg (by omega), Int.toNat_natCast]
    omega
  have e : cutD xs (some (i : Int)) none = xs.drop i := by
    unfold cutD
    rw [e1]
    show (xs.drop i).take (xs.length - i) = _
    exact List.take_of_length_le (by rw [List.length_drop]; exact Nat.le_refl _)
  show some (D.lst (cutD xs (some (i : Int)) none)) = _
  rw [e]
theorem slA_take {xs : List D} (i : Nat) (h : i ≤ xs.length) : D.slA (.lst xs) none (some (i : Int)) = some (.lst (xs.take i)) := by
  have e1 : cutAt xs.length xs.length (some (i : Int)) = i := by
    unfold cutAt
    dsimp only
    rw [if_neg (by omega), Int.toNat_natCast]
    omega
  have e : cutD xs none (some (i : Int)) = xs.take i := by
    unfold cutD
    rw [e1]
    rfl
  show some (D.lst (cutD xs none (some (i : Int)))) = _
  rw [e]
theorem ix_lst {xs : List D} {d : D} {i : Nat} (h : xs[i]? = some d) : D.ix (.lst xs) (.int i) = some d := by
  have hl : i < xs.length := (List.getElem?_eq_some_iff.mp h).1
  show (ixD xs.length (i : Int)).bind _ = _
  have e : ixD xs.length (i : Int) = some i := by
    unfold ixD
    rw [if_pos (by omega), if_pos (by omega), Int.toNat_natCast]
  rw [e]
  exact h
end K68

set_option maxRecDepth 10000
set_option autoImplicit false
set_option exponentiation.threshold 5000
set_option linter.all false
namespace K68
open DL
/-! ### the rule among all numbers of bad crates -/
def chN (N n k i : Nat) : D := .tup [.int (wN i (N - i) n k), .int (bin N n)]
def sN (N n k a b i : Nat) : Bool := decide (wN i (N - i) n k * b ≤ a * bin N n)
def gN (N n k a b i : Nat) : Bool := decide (a * bin N n ≤ wN i (N - i) n k * b)
theorem chance_N {N n k i : Nat} (c : C) (h : N ≤ 60) (hi : i ≤ N) (hn : n ≤ N) (hk : k ≤ n) : sem__law_chance [.int N, .int i, .tup [.int n, .int k]] c = .ok (chN N n k i) c := by
  obtain ⟨M, rfl⟩ := Nat.exists_eq_add_of_le hi
  have e := chance_spec i M n k c h hn hk
  unfold chN
  rw [Nat.add_sub_cancel_left]
  exact e
theorem at_most_N {N n k a b i : Nat} {c : C} (h : N ≤ 60) (hi : i ≤ N) (hk : k ≤ n) : sem__law_at_most [chN N n k i, .tup [.int a, .int b]] c = .ok (.bl (sN N n k a b i)) c := by
  obtain ⟨M, rfl⟩ := Nat.exists_eq_add_of_le hi
  have e := at_most_spec (K := i) (M := M) (n := n) (k := k) (a := a) (b := b) (c := c) h hk
  unfold chN sN
  rw [Nat.add_sub_cancel_left]
  exact e
theorem at_least_N {N n k a b i : Nat} {c : C} (h : N ≤ 60) (hi : i ≤ N) (hk : k ≤ n) : sem__law_at_least [chN N n k i, .tup [.int a, .int b]] c = .ok (.bl (gN N n k a b i)) c := by
  obtain ⟨M, rfl⟩ := Nat.exists_eq_add_of_le hi
  have e := at_least_spec (K := i) (M := M) (n := n) (k := k) (a := a) (b := b) (c := c) h hk
  unfold chN gN
  rw [Nat.add_sub_cancel_left]
  exact e
theorem protects_N {N n k a b i : Nat} {c : C} (h0 : 1 ≤ N) (h : N ≤ 60) (hi : i ≤ N) (hn : n ≤ N) (hk : k ≤ n) (hc : Chn a b) : sem_protects [.int N, .tup [.int n, .int k], .int i, .tup [.int a, .int b]] c = .ok (.bl (sN N n k a b i)) c := by
  obtain ⟨M, rfl⟩ := Nat.exists_eq_add_of_le hi
  have e := protects_spec (c := c) h0 h hn hk hc
  unfold sN
  rw [Nat.add_sub_cancel_left]
  exact e
theorem serves_N {N n k a b i : Nat} {c : C} (h0 : 1 ≤ N) (h : N ≤ 60) (hi : i ≤ N) (hn : n ≤ N) (hk : k ≤ n) (hc : Chn a b) : sem_serves [.int N, .tup [.int n, .int k], .int i, .tup [.int a, .int b]] c = .ok (.bl (gN N n k a b i)) c := by
  obtain ⟨M, rfl⟩ := Nat.exists_eq_add_of_le hi
  have e := serves_spec (c := c) h0 h hn hk hc
  unfold gN
  rw [Nat.add_sub_cancel_left]
  exact e
theorem wN_fall {N n k : Nat} (hk : k ≤ n) {i : Nat} : ∀ d : Nat, i + d ≤ N → wN (i + d) (N - (i + d)) n k ≤ wN i (N - i) n k
  | 0, _ => Nat.le_refl _
  | d + 1, h => by
    have ih := wN_fall (N := N) hk (i := i) d (by omega)
    have e := wN_bad (K := i + d) (M := N - (i + d + 1)) (n := n) hk
    rw [show N - (i + d + 1) + 1 = N - (i + d) by omega] at e
    exact Nat.le_trans e ih
theorem sN_up {N n k a b i j : Nat} (hk : k ≤ n) (hij : i ≤ j) (hj : j ≤ N) (h : sN N n k a b i = true) : sN N n k a b j = true := by
  obtain ⟨d, rfl⟩ := Nat.exists_eq_add_of_le hij
  have e := wN_fall (N := N) hk (i := i) d hj
  unfold sN at *
  exact decide_eq_true (Nat.le_trans (Nat.mul_le_mul_right _ e) (of_decide_eq_true h))
theorem gN_down {N n k a b i j : Nat} (hk : k ≤ n) (hij : i ≤ j) (hj : j ≤ N) (h : gN N n k a b j = true) : gN N n k a b i = true := by
  obtain ⟨d, rfl⟩ := Nat.exists_eq_add_of_le hij
  have e := wN_fall (N := N) hk (i := i) d hj
  unfold gN at *
  exact decide_eq_true (Nat.le_trans (of_decide_eq_true h) (Nat.mul_le_mul_right _ e))
theorem due_small {N n k a b i : Nat} (hk : k ≤ n) (hi : i ≤ N) : ((upTo i (N + 1 - i)).filter fun j => !sN N n k a b j).isEmpty = sN N n k a b i := by
  cases hs : sN N n k a b i with
  | true =>
    rw [List.isEmpty_iff, List.filter_eq_nil_iff]
    intro j hj
    have m := upTo_mem hj
    rw [sN_up hk m.1 (by omega) hs]
    decide
  | false =>
    rw [show N + 1 - i = (N - i) + 1 by omega, upTo, List.filter_cons_of_pos (by rw [hs]; rfl)]
    rfl
theorem due_great {N n k a b i : Nat} (hk : k ≤ n) (hi : i ≤ N) : ((upTo 0 (i + 1)).filter fun j => !gN N n k a b j).isEmpty = gN N n k a b i := by
  cases hs : gN N n k a b i with
  | true =>
    rw [List.isEmpty_iff, List.filter_eq_nil_iff]
    intro j hj
    have m := upTo_mem hj
    rw [gN_down hk (show j ≤ i by omega) hi hs]
    decide
  | false =>
    have m : i ∈ (upTo 0 (i + 1)).filter fun j => !gN N n k a b j := by
      rw [List.mem_filter]
      exact ⟨List.mem_of_getElem? (by rw [upTo_get (i + 1) 0 i (by omega), Nat.zero_add]), by rw [hs]; rfl⟩
    cases h : (upTo 0 (i + 1)).filter fun j => !gN N n k a b j with
    | nil => rw [h] at m; cases m
    | cons x xs => rfl
/-! ### a turn -/
def dueS : DE := dO2 D.eq (dComp (iSeq false (dSl D.slA (dVar 4) (some (dVar 3)) none)) (tgN 8) (tNot (tE (dCall (sem__law_at_most) [dVar 8, dVar 6]))) (dVar 8) [8]) (dLst [])
def dueG : DE := dO2 D.eq (dComp (iSeq false (dSl D.slA (dVar 4) none (some (dO2 D.addA (dVar 3) (dC (.int 1)))))) (tgN 8) (tNot (tE (dCall (sem__law_at_least) [dVar 8, dVar 6]))) (dVar 8) [8]) (dLst [])
def rBody : DS := (sSeq (sSet 3 (dCall (sem__law_roll) [dVar 0, dO2 D.addA (dVar 1) (dC (.int 1))])) (
  sSeq (sSet 6 (dCall (sem__law_near) [dVar 0, dO2 D.ix (dVar 4) (dVar 3)])) (
  sSeq (sSet 7 dueS) (
  sSeq (sIf (tNot (tE (dCall (sem__law_like 40) [dCall (sem_protects) [dVar 1, dVar 2, dVar 3, dVar 6], dVar 7]))) (sRet (dC (.bl false))) (sNil)) (
  sSeq (sSet 7 dueG) (
  sIf (tNot (tE (dCall (sem__law_like 40) [dCall (sem_serves) [dVar 1, dVar 2, dVar 3, dVar 6], dVar 7]))) (sRet (dC (.bl false))) (sNil)))))))
theorem chN_shal (N n k i : Nat) : D.shal 59 (chN N n k i) = true := rfl
theorem seq_slice {e : DE} {env : Env} {c : C} {xs : List D} (h : e env c = .ok (.pl (.lst xs)) c) : iSeq false e env c = .ok xs c := by
  rw [iSeq, h]
  rfl
theorem slice_of {e : DE} {a b : Option DE} {i j : Option Int} {env : Env} {c : C} {x y : D} (h : e env c = .ok (.pl x) c) (h1 : dPart a env c = .ok i c) (h2 : dPart b env c = .ok j c) (h3 : D.slA x i j = some y) : dSl D.slA e a b env c = .ok (.pl y) c := by
  rw [dSl, h, ev_bind_ok, h1, ev_bind_ok, h2, ev_bind_ok, ev_rvd, h3]
  rfl
theorem part_of {e : DE} {i : Int} {env : Env} {c : C} (h : e env c = .ok (.pl (.int i)) c) : dPart (some e) env c = .ok (some i) c := by
  show (e env c).bind _ = _
  rw [h]
  rfl
theorem dueS_spec {v0 v1 v2 s5 s7 s8 : Slot} {N n k a b i : Nat} {c : C} (h : N ≤ 60) (hi : i ≤ N) (hk : k ≤ n) : dueS [v0, v1, v2, .val (.int i), .val (.lst ((upTo 0 (N + 1)).map (chN N n k))), s5, .val (.tup [.int a, .int b]), s7, s8] c = .ok (.pl (.bl (sN N n k a b i))) c := by
  have sl := slA_drop (xs := (upTo 0 (N + 1)).map (chN N n k)) i (by rw [List.length_map, upTo_len]; omega)
  rw [← List.map_drop, show N + 1 = i + (N + 1 - i) by omega, upTo_drop, Nat.zero_add, ← show N + 1 = i + (N + 1 - i) by omega] at sl
  have hl := loop_idx (chN N n k) (fun j => !sN N n k a b j) (tgN 8) (tNot (tE (dCall (sem__law_at_most) [dVar 8, dVar 6]))) (dVar 8) (wipeE [v0, v1, v2, .val (.int i), .val (.lst ((upTo 0 (N + 1)).map (chN N n k))), s5, .val (.tup [.int a, .int b]), s7, s8] [8]) c (upTo i (N + 1 - i))
    (fun j hj => ⟨_, rfl, tnot_of (te_bl (call_of (ds := [chN N n k j, .tup [.int a, .int b]]) (args_2 rfl rfl) (at_most_N h (by have := upTo_mem hj; omega) hk))), rfl⟩)
  have q := o2_of (op := D.eq) (comp_of (seq_slice (slice_of (e := dVar 4) (a := some (dVar 3)) (b := none) rfl (part_of rfl) rfl sl)) hl) (b := dLst []) (v := .pl (.lst [])) rfl (eq_map_nil (chN N n k) (chN_shal N n k) _)
  rw [due_small hk hi] at q
  exact q
theorem dueG_spec {v0 v1 v2 s5 s7 s8 : Slot} {N n k a b i : Nat} {c : C} (h : N ≤ 60) (hi : i ≤ N) (hk : k ≤ n) : dueG [v0, v1, v2, .val (.int i), .val (.lst ((upTo 0 (N + 1)).map (chN N n k))), s5, .val (.tup [.int a, .int b]), s7, s8] c = .ok (.pl (.bl (gN N n k a b i))) c := by
  have sl := slA_take (xs := (upTo 0 (N + 1)).map (chN N n k)) (i + 1) (by rw [List.length_map, upTo_len]; omega)
  rw [← List.map_take, show N + 1 = (i + 1) + (N - i) by omega, upTo_take, ← show N + 1 = (i + 1) + (N - i) by omega] at sl
  have hl := loop_idx (chN N n k) (fun j => !gN N n k a b j) (tgN 8) (tNot (tE (dCall (sem__law_at_least) [dVar 8, dVar 6]))) (dVar 8) (wipeE [v0, v1, v2, .val (.int i), .val (.lst ((upTo 0 (N + 1)).map (chN N n k))), s5, .val (.tup [.int a, .int b]), s7, s8] [8]) c (upTo 0 (i + 1))
    (fun j hj => ⟨_, rfl, tnot_of (te_bl (call_of (ds := [chN N n k j, .tup [.int a, .int b]]) (args_2 rfl rfl) (at_least_N h (by have := upTo_mem hj; omega) hk))), rfl⟩)
  have q := o2_of (op := D.eq) (comp_of (seq_slice (slice_of (e := dVar 4) (a := none) (b := some (dO2 D.addA (dVar 3) (dC (.int 1)))) rfl rfl (part_of (add1 (i := 3) rfl)) sl)) hl) (b := dLst []) (v := .pl (.lst [])) rfl (eq_map_nil (chN N n k) (chN_shal N n k) _)
  rw [due_great hk hi] at q
  exact q
theorem like_ok {x y : DE} {d : D} {env : Env} {c : C} (hx : x env c = .ok (.pl d) c) (hy : y env c = .ok (.pl d) c) (h : sem__law_like 40 [d, d] c = .ok (.bl true) c) : sIf (tNot (tE (dCall (sem__law_like 40) [x, y]))) (sRet (dC (.bl false))) (sNil) env c = .nx env c :=
  if_f (tnot_of (te_bl (call_of (ds := [d, d]) (args_2 hx hy) h)))
theorem rBody_ok {s3 s5 s6 s7 s8 : Slot} {N n k : Nat} (c : C) (h0 : 1 ≤ N) (h : N ≤ 60) (hn : n ≤ N) (hk : k ≤ n) : ∃ t3 t6 t7 c', rBody [.val .cup, .val (.int N), .val (.tup [.int n, .int k]), s3, .val (.lst ((upTo 0 (N + 1)).map (chN N n k))), s5, s6, s7, s8] c =
    .nx [.val .cup, .val (.int N), .val (.tup [.int n, .int k]), t3, .val (.lst ((upTo 0 (N + 1)).map (chN N n k))), s5, t6, t7, s8] c' := by
  obtain ⟨i, c1, r, i0, i1⟩ := roll_spec c (N + 1 : Nat) (by omega) (by omega)
  obtain ⟨i, rfl⟩ := Int.eq_ofNat_of_zero_le i0
  have hi : i ≤ N := by omega
  have wl : wN i (N - i) n k ≤ bin N n := by
    have := wN_le (K := i) (M := N - i) hk
    rwa [show i + (N - i) = N by omega] at this
  obtain ⟨a, b, c2, r2, hc⟩ := near_spec (wN i (N - i) n k) (bin N n) c1 (bin_pos hn) wl (by have := bin_small h n; omega)
  refine ⟨.val (.int i), .val (.tup [.int a, .int b]), .val (.bl (gN N n k a b i)), c2, ?_⟩
  unfold rBody
  rw [seq_nx (set_of (call_of (ds := [.cup, .int (N + 1 : Nat)]) (args_2 rfl (add1 rfl)) r))]
  dsimp only [List.set]
  have hx := ix_lst (xs := (upTo 0 (N + 1)).map (chN N n k)) (d := chN N n k i) (i := i) (by rw [List.getElem?_map, upTo_get _ _ _ (by omega), Nat.zero_add]; rfl)
  rw [seq_nx (set_of (call_of (ds := [.cup, chN N n k i]) (args_2 rfl (o2_of (u := .pl _) (v := .pl _) rfl rfl hx)) r2))]
  dsimp only [List.set]
  rw [seq_nx (set_of (dueS_spec h hi hk))]
  dsimp only [List.set]
  rw [seq_nx (like_ok (call_of (ds := [.int N, .tup [.int n, .int k], .int i, .tup [.int a, .int b]]) (args_cons rfl (args_3 rfl rfl rfl)) (protects_N h0 h hi hn hk hc)) rfl (like_bl 39 _ _))]
  rw [seq_nx (set_of (dueG_spec h hi hk))]
  dsimp only [List.set]
  exact like_ok (call_of (ds := [.int N, .tup [.int n, .int k], .int i, .tup [.int a, .int b]]) (args_cons rfl (args_3 rfl rfl rfl)) (serves_N h0 h hi hn hk hc)) rfl (like_bl 39 _ _)
theorem rLoop {N n k : Nat} (h0 : 1 ≤ N) (h : N ≤ 60) (hn : n ≤ N) (hk : k ≤ n) : ∀ (its : List D) (s3 s5 s6 s7 s8 : Slot) (c : C), ∃ t3 t5 t6 t7 c', sForL (tgN 5) rBody its [.val .cup, .val (.int N), .val (.tup [.int n, .int k]), s3, .val (.lst ((upTo 0 (N + 1)).map (chN N n k))), s5, s6, s7, s8] c =
    .nx [.val .cup, .val (.int N), .val (.tup [.int n, .int k]), t3, .val (.lst ((upTo 0 (N + 1)).map (chN N n k))), t5, t6, t7, s8] c'
  | [], s3, s5, s6, s7, s8, c => ⟨s3, s5, s6, s7, c, rfl⟩
  | x :: its, s3, s5, s6, s7, s8, c => by
    obtain ⟨u3, u6, u7, c1, e⟩ := rBody_ok (s3 := s3) (s5 := .val x) (s6 := s6) (s7 := s7) (s8 := s8) c h0 h hn hk
    obtain ⟨t3, t5, t6, t7, c2, ih⟩ := rLoop h0 h hn hk its u3 (.val x) u6 u7 s8 c1
    exact ⟨t3, t5, t6, t7, c2, by rw [for_nx rfl e]; exact ih⟩
theorem rule_right_spec {N n k : Nat} (c : C) (h0 : 1 ≤ N) (h : N ≤ 60) (hn : n ≤ N) (hk : k ≤ n) : ∃ c', sem__law_rule_right [.cup, .int N, .tup [.int n, .int k]] c = .ok (.bl true) c' := by
  have hl := loop_up (chN N n k) (tgN 3) (dCall (sem__law_chance) [dVar 1, dVar 3, dVar 2]) (wipeE [.val .cup, .val (.int N), .val (.tup [.int n, .int k]), .no, .no, .no, .no, .no, .no] [3]) c (N + 1) (fun i hi => ⟨_, rfl, call_of (ds := [.int N, .int i, .tup [.int n, .int k]]) (args_3 rfl rfl rfl) (chance_N c h (by omega) hn hk)⟩) (N + 1) 0 (by omega)
  have hr := rng1_nat (dO2 D.addA (dVar 1) (dC (.int 1))) [.val .cup, .val (.int N), .val (.tup [.int n, .int k]), .no, .no, .no, .no, .no, .no] c c (N + 1) (by omega) (add1 rfl)
  obtain ⟨t3, t5, t6, t7, c', e⟩ := rLoop h0 h hn hk (rng 0 3) .no .no .no .no .no c
  refine ⟨c', run_rt (env := [.val .cup, .val (.int N), .val (.tup [.int n, .int k]), .no, .no, .no, .no, .no, .no]) rfl ?_⟩
  have ed : den__law_rule_right = sSeq (sSet 4 (dComp (iRng1 (dO2 D.addA (dVar 1) (dC (.int 1)))) (tgN 3) (tYes) (dCall (sem__law_chance) [dVar 1, dVar 3, dVar 2]) [3])) (sSeq (sFor (iRng1 (dC (.int 3))) (tgN 5) rBody) (sRet (dC (.bl true)))) := rfl
  rw [ed, seq_nx (set_of (comp_of hr hl))]
  dsimp only [List.set]
  rw [seq_nx ((sfor_of (rng1_nat (dC (.int 3)) _ c c 3 (by decide) rfl)).trans e)]
  rfl
end K68

set_option maxRecDepth 10000
set_option autoImplicit false
set_option exponentiation.threshold 5000
set_option linter.all false
namespace K68
open DL
theorem chance_e {K M N n k : Nat} (e : K + M = N) (c : C) (h : N ≤ 60) (hn : n ≤ N) (hk : k ≤ n) : sem__law_chance [.int N, .int K, pr n k] c = .ok (.tup [.int (wN K M n k), .int (bin N n)]) c := by
  subst e
  exact chance_spec K M n k c h hn hk
theorem at_most_e {K M N n k a b : Nat} (e : K + M = N) {c : C} (h : N ≤ 60) (hk : k ≤ n) : sem__law_at_most [.tup [.int (wN K M n k), .int (bin N n)], .tup [.int a, .int b]] c = .ok (.bl (sm K M n k a b)) c := by
  subst e
  exact at_most_spec h hk
theorem at_least_e {K M N n k a b : Nat} (e : K + M = N) {c : C} (h : N ≤ 60) (hk : k ≤ n) : sem__law_at_least [.tup [.int (wN K M n k), .int (bin N n)], .tup [.int a, .int b]] c = .ok (.bl (gr K M n k a b)) c := by
  subst e
  exact at_least_spec h hk
theorem least_e {K M N k a b : Nat} (e : K + M = N) {c : C} (h0 : 1 ≤ N) (h : N ≤ 60) (hk : k ≤ N) (hc : Chn a b) : sem_least_drawn [.int N, .int k, .int K, .tup [.int a, .int b]] c = .ok (firstD (filtN (fun n => sm K M n k a b) k (N + 1 - k))) c := by
  subst e
  exact least_spec h0 h hk hc
theorem best_e {G MG K MK N a b a' b' : Nat} {c : C} (e : G + MG = N) (e2 : K + MK = N) (h0 : 1 ≤ N) (h : N ≤ 60) (hc : Chn a b) (hc' : Chn a' b') :
    sem_best_rule [.int N, .int G, .tup [.int a, .int b], .int K, .tup [.int a', .int b']] c = .ok (firstP (pairs (fun n k => gr G MG n k a b && sm K MK n k a' b') 0 (N + 1))) c := by
  subst e
  exact best_spec h0 h e2 hc hc'
theorem near_e {K M N n k : Nat} (e : K + M = N) (c : C) (h : N ≤ 60) (hn : n ≤ N) (hk : k ≤ n) : ∃ a b c', sem__law_near [.cup, .tup [.int (wN K M n k), .int (bin N n)]] c = .ok (.tup [.int (a : Nat), .int (b : Nat)]) c' ∧ Chn a b := by
  subst e
  exact near_spec _ _ c (bin_pos hn) (wN_le hk) (by have := bin_small h n; omega)
theorem tgt_of {tg : TG} {e : DE} {env env1 : Env} {c c1 : C} {d : D} (h : e env c = .ok (.pl d) c1) (h2 : tg d env = some env1) : sTgt tg e env c = .nx env1 c1 := by
  rw [sTgt, h]
  show (match tg d env with
    | some env => F.nx env c1
    | none => .st) = _
  rw [h2]
theorem own_of {e : DE} {i : Nat} {xs : List D} {env : Env} {c c1 : C} (h : e env c = .ok (.pl (.lst xs)) c1) : sOwn i e env c = .nx (env.set i (.own xs)) c1 := by
  rw [sOwn, h]
  rfl
theorem par2_of {i j : Nat} {e f : DE} {env : Env} {c c1 c2 : C} {x y : D} (h1 : e env c = .ok (.pl x) c1) (h2 : f env c1 = .ok (.pl y) c2) : sPar [(i, false), (j, false)] [e, f] env c = .nx ((env.set i (.val x)).set j (.val y)) c2 := by
  rw [sPar, args_2 h1 h2]
  rfl
theorem firstP_ok {i : Nat} {env : Env} {c : C} (L : List (Nat × Nat)) (h : env[i]? = some (.own (headP L))) : dIf (tBl (dO2 D.ne (dVar i) (dLst []))) (dO2 D.ix (dVar i) (dC (.int 0))) (dC .non) env c = .ok (.pl (firstP L)) c := by
  have v : dVar i env c = .ok (.ow i (headP L)) c := by
    unfold dVar
    rw [h]
  have ne : D.ne (.lst (headP L)) (.lst []) = some (.bl !L.isEmpty) := by
    cases L with
    | nil => rfl
    | cons p ps => simp [headP, pr, D.ne, D.shal, D.eqv, D.eqvs]
  have q := tb_of (o2_of (op := D.ne) v (b := dLst []) (v := .pl (.lst [])) rfl ne)
  cases L with
  | nil => exact ife_f q
  | cons p ps => exact (ife_t q).trans (o2_of v rfl rfl)
theorem like_D {d : D} (c : C) (h : d = .non ∨ (∃ x, d = .int x) ∨ ∃ n k, d = .tup [.int n, .int k]) : sem__law_like 40 [d, d] c = .ok (.bl true) c := by
  rcases h with rfl | ⟨x, rfl⟩ | ⟨n, k, rfl⟩
  · exact like_non 39 c
  · exact like_int 39 x c
  · exact like_pair 38 n k c
theorem firstD_kind (s : List Nat) : firstD s = .non ∨ (∃ x, firstD s = .int x) ∨ ∃ n k, firstD s = .tup [.int n, .int k] := by
  cases s with
  | nil => exact .inl rfl
  | cons x r => exact .inr (.inl ⟨_, rfl⟩)
theorem firstP_kind (s : List (Nat × Nat)) : firstP s = .non ∨ (∃ x, firstP s = .int x) ∨ ∃ n k, firstP s = .tup [.int n, .int k] := by
  cases s with
  | nil => exact .inl rfl
  | cons x r => exact .inr (.inr ⟨_, _, rfl⟩)
def q1 : DS := sTgt (tgL [tgN 2, tgN 3, tgN 4]) (dComp (iRng1 (dC (.int 3))) (tgN 15) (tYes) (dCall (sem__law_roll) [dVar 0, dO2 D.addA (dVar 1) (dC (.int 1))]) [15])
def q2 : DS := sSet 5 (dB bMin2 [dVar 1, dCall (sem__law_some) [dVar 0, dLst [dC (.int 0), dC (.int 0), dC (.int 1), dC (.int 2), dCall (sem__law_roll) [dVar 0, dO2 D.addA (dVar 1) (dC (.int 1))]]]])
def q3 : DS := sSet 6 (dCall (sem__law_near) [dVar 0, dCall (sem__law_chance) [dVar 1, dVar 2, dTup [dB bMax2 [dVar 4, dVar 5], dVar 5]]])
def q4 : DS := sSet 8 (dComp (iRng2 (dVar 5) (dO2 D.addA (dVar 1) (dC (.int 1)))) (tgN 7) (tE (dCall (sem__law_at_most) [dCall (sem__law_chance) [dVar 1, dVar 2, dTup [dVar 7, dVar 5]], dVar 6])) (dVar 7) [7])
def q5 : DS := sIf (tNot (tE (dCall (sem__law_like 40) [dCall (sem_least_drawn) [dVar 1, dVar 5, dVar 2, dVar 6], dIf (tBl (dO2 D.ne (dVar 8) (dLst []))) (dO2 D.ix (dVar 8) (dC (.int 0))) (dC .non)]))) (sRet (dC (.bl false))) (sNil)
def q6 : DS := sPar [(9, false), (10, false)] [dCall (sem__law_near) [dVar 0, dCall (sem__law_chance) [dVar 1, dVar 3, dTup [dVar 4, dO2 D.fdiv (dVar 4) (dC (.int 4))]]], dVar 6]
def q9 : DS := sRet (dCall (sem__law_like 40) [dCall (sem_best_rule) [dVar 1, dVar 3, dVar 9, dVar 2, dVar 10], dIf (tBl (dO2 D.ne (dVar 11) (dLst []))) (dO2 D.ix (dVar 11) (dC (.int 0))) (dC .non)])
theorem q1_ok {N : Nat} {s2 s3 s4 s5 s6 s7 s8 s9 s10 s11 s12 s13 s14 s15 : Slot} (c : C) (h : N ≤ 60) : ∃ K G d c', K ≤ N ∧ G ≤ N ∧ d ≤ N ∧ q1 [.val .cup, .val (.int N), s2, s3, s4, s5, s6, s7, s8, s9, s10, s11, s12, s13, s14, s15] c =
    .nx [.val .cup, .val (.int N), .val (.int (K : Nat)), .val (.int (G : Nat)), .val (.int (d : Nat)), s5, s6, s7, s8, s9, s10, s11, s12, s13, s14, s15] c' := by
  obtain ⟨i, c1, r1, i0, i1⟩ := roll_spec c (N + 1 : Nat) (by omega) (by omega)
  obtain ⟨j, c2, r2, j0, j1⟩ := roll_spec c1 (N + 1 : Nat) (by omega) (by omega)
  obtain ⟨k, c3, r3, k0, k1⟩ := roll_spec c2 (N + 1 : Nat) (by omega) (by omega)
  obtain ⟨i, rfl⟩ := Int.eq_ofNat_of_zero_le i0
  obtain ⟨j, rfl⟩ := Int.eq_ofNat_of_zero_le j0
  obtain ⟨k, rfl⟩ := Int.eq_ofNat_of_zero_le k0
  refine ⟨i, j, k, c3, by omega, by omega, by omega, ?_⟩
  have hr := rng1_nat (dC (.int 3)) [.val .cup, .val (.int N), s2, s3, s4, s5, s6, s7, s8, s9, s10, s11, s12, s13, s14, s15] c c 3 (by decide) rfl
  refine tgt_of (comp_of hr (loop_yes rfl rfl (call_of (ds := [.cup, .int (N + 1 : Nat)]) (args_2 rfl (add1 rfl)) r1) (loop_yes rfl rfl (call_of (ds := [.cup, .int (N + 1 : Nat)]) (args_2 rfl (add1 rfl)) r2) (loop_yes rfl rfl (call_of (ds := [.cup, .int (N + 1 : Nat)]) (args_2 rfl (add1 rfl)) r3) loop_nil)))) ?_
  rfl
theorem q2_ok {N : Nat} {s2 s3 s4 s5 s6 s7 s8 s9 s10 s11 s12 s13 s14 s15 : Slot} (c : C) (h : N ≤ 60) : ∃ k c', k ≤ N ∧ q2 [.val .cup, .val (.int N), s2, s3, s4, s5, s6, s7, s8, s9, s10, s11, s12, s13, s14, s15] c =
    .nx [.val .cup, .val (.int N), s2, s3, s4, .val (.int (k : Nat)), s6, s7, s8, s9, s10, s11, s12, s13, s14, s15] c' := by
  obtain ⟨i, c1, r1, i0, i1⟩ := roll_spec c (N + 1 : Nat) (by omega) (by omega)
  obtain ⟨v, d, c2, hv, r2⟩ := some_spec c1 [.int 0, .int 0, .int 1, .int 2, .int i] (by show 0 < 5; decide) (by show 5 ≤ 1000; decide)
  have mem := List.mem_of_getElem? hv
  obtain ⟨x, rfl, x0⟩ : ∃ x : Int, d = .int x ∧ 0 ≤ x := by
    simp only [List.mem_cons, List.not_mem_nil, or_false] at mem
    rcases mem with rfl | rfl | rfl | rfl | rfl
    · exact ⟨_, rfl, by decide⟩
    · exact ⟨_, rfl, by decide⟩
    · exact ⟨_, rfl, by decide⟩
    · exact ⟨_, rfl, by decide⟩
    · exact ⟨_, rfl, i0⟩
  obtain ⟨x, rfl⟩ := Int.eq_ofNat_of_zero_le x0
  have hn : bMin2 [.int (N : Int), .int (x : Int)] = some (.int ((min N x : Nat) : Int)) := by
    unfold bMin2
    dsimp only
    split <;> congr 2 <;> omega
  refine ⟨min N x, c2, by omega, ?_⟩
  exact set_of (b_of (ds := [.int N, .int x]) (args_2 rfl (call_of (ds := [.cup, .lst [.int 0, .int 0, .int 1, .int 2, .int i]]) (args_2 rfl (lst_of (ds := [.int 0, .int 0, .int 1, .int 2, .int i]) (args_cons rfl (args_cons rfl (args_3 rfl rfl (call_of (ds := [.cup, .int (N + 1 : Nat)]) (args_2 rfl (add1 rfl)) r1)))))) r2)) hn)
theorem q3_ok {N K d k : Nat} {s3 s6 s7 s8 s9 s10 s11 s12 s13 s14 s15 : Slot} (c : C) (h : N ≤ 60) (hK : K ≤ N) (hd : d ≤ N) (hk : k ≤ N) : ∃ a b c', Chn a b ∧ q3 [.val .cup, .val (.int N), .val (.int K), s3, .val (.int d), .val (.int k), s6, s7, s8, s9, s10, s11, s12, s13, s14, s15] c =
    .nx [.val .cup, .val (.int N), .val (.int K), s3, .val (.int d), .val (.int k), .val (.tup [.int (a : Nat), .int (b : Nat)]), s7, s8, s9, s10, s11, s12, s13, s14, s15] c' := by
  obtain ⟨M, e⟩ : ∃ M, K + M = N := ⟨N - K, by omega⟩
  have hm : bMax2 [.int (d : Int), .int (k : Int)] = some (.int ((max d k : Nat) : Int)) := by
    unfold bMax2
    dsimp only
    split <;> congr 2 <;> omega
  have ch := chance_e (n := max d k) (k := k) e c h (by omega) (by omega)
  obtain ⟨a, b, c', r, hc⟩ := near_e (n := max d k) (k := k) e c h (by omega) (by omega)
  refine ⟨a, b, c', hc, ?_⟩
  exact set_of (call_of (ds := [.cup, .tup [.int (wN K M (max d k) k), .int (bin N (max d k))]]) (args_2 rfl (call_of (ds := [.int N, .int K, pr (max d k) k]) (args_3 rfl rfl (tup_of (ds := [.int (max d k : Nat), .int k]) (args_2 (b_of (ds := [.int d, .int k]) (args_2 rfl rfl) hm) rfl))) ch)) r)
theorem q4_ok {N K M k a b : Nat} {s3 s4 s7 s8 s9 s10 s11 s12 s13 s14 s15 : Slot} (c : C) (e : K + M = N) (h : N ≤ 60) (hk : k ≤ N) : q4 [.val .cup, .val (.int N), .val (.int K), s3, s4, .val (.int k), .val (.tup [.int a, .int b]), s7, s8, s9, s10, s11, s12, s13, s14, s15] c =
    .nx [.val .cup, .val (.int N), .val (.int K), s3, s4, .val (.int k), .val (.tup [.int a, .int b]), s7, .val (.lst (encN (filtN (fun n => sm K M n k a b) k (N + 1 - k)))), s9, s10, s11, s12, s13, s14, s15] c := by
  have hr := rng2_nat (dVar 5) (dO2 D.addA (dVar 1) (dC (.int 1))) [.val .cup, .val (.int N), .val (.int K), s3, s4, .val (.int k), .val (.tup [.int a, .int b]), s7, s8, s9, s10, s11, s12, s13, s14, s15] c c c k (N + 1) (by omega) (by omega) rfl (add1 rfl)
  refine set_of (comp_of hr (loop_filt _ _ _ _ _ c k (N + 1) (fun i h1 h2 => ⟨_, rfl, te_bl (call_of (ds := [.tup [.int (wN K M i k), .int (bin N i)], .tup [.int a, .int b]]) (args_2 (call_of (ds := [.int N, .int K, pr i k]) (args_3 rfl rfl (tup_of (ds := [.int i, .int k]) (args_2 rfl rfl))) (chance_e e c h (by omega) h1)) rfl) (at_most_e e h h1)), rfl⟩) _ k (by omega) (by omega)))
theorem q6_ok {N G d : Nat} {x : D} {s2 s5 s7 s8 s9 s10 s11 s12 s13 s14 s15 : Slot} (c : C) (h : N ≤ 60) (hG : G ≤ N) (hd : d ≤ N) : ∃ a b c', Chn a b ∧ q6 [.val .cup, .val (.int N), s2, .val (.int G), .val (.int d), s5, .val x, s7, s8, s9, s10, s11, s12, s13, s14, s15] c =
    .nx [.val .cup, .val (.int N), s2, .val (.int G), .val (.int d), s5, .val x, s7, s8, .val (.tup [.int (a : Nat), .int (b : Nat)]), .val x, s11, s12, s13, s14, s15] c' := by
  obtain ⟨M, e⟩ : ∃ M, G + M = N := ⟨N - G, by omega⟩
  have hf : D.fdiv (.int d) (.int 4) = some (.int ((d / 4 : Nat) : Int)) := by
    rw [fdiv_some (by decide) (small_wide (by decide) (by decide))]
    rfl
  have ch := chance_e (n := d) (k := d / 4) e c h (by omega) (by omega)
  obtain ⟨a, b, c', r, hc⟩ := near_e (n := d) (k := d / 4) e c h (by omega) (by omega)
  refine ⟨a, b, c', hc, ?_⟩
  exact par2_of (call_of (ds := [.cup, .tup [.int (wN G M d (d / 4)), .int (bin N d)]]) (args_2 rfl (call_of (ds := [.int N, .int G, pr d (d / 4)]) (args_3 rfl rfl (tup_of (ds := [.int d, .int (d / 4 : Nat)]) (args_2 rfl (o2_of rfl rfl hf)))) ch)) r) rfl
theorem least_right_spec {N : Nat} (c : C) (h0 : 1 ≤ N) (h : N ≤ 60) : ∃ c', sem__law_least_right [.cup, .int N] c = .ok (.bl true) c' := by
  obtain ⟨K, G, d, c1, hK, hG, hd, e1⟩ := q1_ok (s2 := .no) (s3 := .no) (s4 := .no) (s5 := .no) (s6 := .no) (s7 := .no) (s8 := .no) (s9 := .no) (s10 := .no) (s11 := .no) (s12 := .no) (s13 := .no) (s14 := .no) (s15 := .no) c h
  obtain ⟨k, c2, hk, e2⟩ := q2_ok (s2 := .val (.int K)) (s3 := .val (.int G)) (s4 := .val (.int d)) (s5 := .no) (s6 := .no) (s7 := .no) (s8 := .no) (s9 := .no) (s10 := .no) (s11 := .no) (s12 := .no) (s13 := .no) (s14 := .no) (s15 := .no) c1 h
  obtain ⟨a, b, c3, hc, e3⟩ := q3_ok (s3 := .val (.int G)) (s6 := .no) (s7 := .no) (s8 := .no) (s9 := .no) (s10 := .no) (s11 := .no) (s12 := .no) (s13 := .no) (s14 := .no) (s15 := .no) c2 h hK hd hk
  obtain ⟨M, eM⟩ : ∃ M, K + M = N := ⟨N - K, by omega⟩
  obtain ⟨MG, eG⟩ : ∃ M, G + M = N := ⟨N - G, by omega⟩
  have e4 := q4_ok (a := a) (b := b) (s3 := .val (.int G)) (s4 := .val (.int d)) (s7 := .no) (s8 := .no) (s9 := .no) (s10 := .no) (s11 := .no) (s12 := .no) (s13 := .no) (s14 := .no) (s15 := .no) c3 eM h hk
  generalize hs : filtN (fun n => sm K M n k a b) k (N + 1 - k) = s at e4
  have ld := least_e (c := c3) eM h0 h hk hc
  rw [hs] at ld
  have e5 : q5 [.val .cup, .val (.int N), .val (.int K), .val (.int G), .val (.int d), .val (.int k), .val (.tup [.int a, .int b]), .no, .val (.lst (encN s)), .no, .no, .no, .no, .no, .no, .no] c3 = .nx [.val .cup, .val (.int N), .val (.int K), .val (.int G), .val (.int d), .val (.int k), .val (.tup [.int a, .int b]), .no, .val (.lst (encN s)), .no, .no, .no, .no, .no, .no, .no] c3 :=
    like_ok (call_of (ds := [.int N, .int k, .int K, .tup [.int a, .int b]]) (args_cons rfl (args_3 rfl rfl rfl)) ld) (firstD_ok s rfl) (like_D _ (firstD_kind s))
  obtain ⟨a', b', c4, hc', e6⟩ := q6_ok (x := .tup [.int a, .int b]) (s2 := .val (.int K)) (s5 := .val (.int k)) (s7 := .no) (s8 := .val (.lst (encN s))) (s9 := .no) (s10 := .no) (s11 := .no) (s12 := .no) (s13 := .no) (s14 := .no) (s15 := .no) c3 h hG hd
  obtain ⟨t7, t12, t13, t14, e8⟩ := l_outer (v0 := .val .cup) (v4 := .val (.int d)) (v5 := .val (.int k)) (v6 := .val (.tup [.int a, .int b])) (v8 := .val (.lst (encN s))) (s15 := .no) (N := .int N) (G := .int G) (K := .int K) (ch1 := .tup [.int a', .int b']) (ch2 := .tup [.int a, .int b]) (top := N + 1) (by omega) (c := c4) (fun n k => gr G MG n k a' b' && sm K M n k a b)
    (fun n k s13 s14 L hn hk => l_step (chance_e eG c4 h (by omega) hk) (at_least_e eG h hk) (chance_e eM c4 h (by omega) hk) (at_most_e eM h hk)) (N + 1) 0 .no .no .no .no [] (by omega)
  have br := best_e (c := c4) eG eM h0 h hc' hc
  rw [List.nil_append] at e8
  generalize pairs (fun n k => gr G MG n k a' b' && sm K M n k a b) 0 (N + 1) = L at e8 br
  have hr := rng1_nat (dO2 D.addA (dVar 1) (dC (.int 1))) [.val .cup, .val (.int N), .val (.int K), .val (.int G), .val (.int d), .val (.int k), .val (.tup [.int a, .int b]), .no, .val (.lst (encN s)), .val (.tup [.int a', .int b']), .val (.tup [.int a, .int b]), .own [], .no, .no, .no, .no] c4 c4 (N + 1) (by omega) (add1 rfl)
  have ed : den__law_least_right = sSeq q1 (sSeq q2 (sSeq q3 (sSeq q4 (sSeq q5 (sSeq q6 (sSeq (sOwn 11 (dLst [])) (sSeq (sFor (iRng1 (dO2 D.addA (dVar 1) (dC (.int 1)))) (tgN 7) lOuter) q9))))))) := rfl
  refine ⟨c4, run_rt (env := [.val .cup, .val (.int N), .no, .no, .no, .no, .no, .no, .no, .no, .no, .no, .no, .no, .no, .no]) rfl ?_⟩
  rw [ed, seq_nx e1, seq_nx e2, seq_nx e3, seq_nx e4, seq_nx e5, seq_nx e6, seq_nx (own_of (xs := []) rfl)]
  dsimp only [List.set]
  rw [seq_nx ((sfor_of hr).trans e8)]
  exact ret_of (v := .pl (.bl true)) (call_of (ds := [firstP L, firstP L]) (args_2 (call_of (ds := [.int N, .int G, .tup [.int a', .int b'], .int K, .tup [.int a, .int b]]) (args_cons rfl (args_cons rfl (args_3 rfl rfl rfl))) br) (firstP_ok L rfl)) (like_D _ (firstP_kind L)))
end K68

set_option maxRecDepth 10000
set_option autoImplicit false
set_option exponentiation.threshold 5000
set_option linter.all false
namespace K68
open DL
/-! ### the two written rules of sixty crates -/
theorem filt_none (p : Nat → Bool) : ∀ j lo, (∀ i, lo ≤ i → i < lo + j → p i = false) → filtN p lo j = []
  | 0, lo, _ => rfl
  | j + 1, lo, h => by
    rw [filtN, if_neg (by rw [h lo (Nat.le_refl _) (by omega)]; decide)]
    exact filt_none p j (lo + 1) fun i h1 h2 => h i (by omega) (by omega)
theorem filt_first (p : Nat → Bool) (k : Nat) (hp : p k = true) : ∀ j lo, lo ≤ k → k < lo + j → (∀ i, lo ≤ i → i < k → p i = false) → ∃ r, filtN p lo j = k :: r
  | 0, lo, h1, h2, _ => by omega
  | j + 1, lo, h1, h2, h => by
    by_cases e : lo = k
    · subst e
      exact ⟨_, by rw [filtN, if_pos hp]⟩
    · rw [filtN, if_neg (by rw [h lo (Nat.le_refl _) (by omega)]; decide)]
      exact filt_first p k hp j (lo + 1) (by omega) (by omega) fun i h3 h4 => h i (by omega) h4
theorem pairs_first (P : Nat → Nat → Bool) (n k : Nat) (hk : k ≤ n) (hP : P n k = true) (h1 : ∀ i, i < k → P n i = false) (h2 : ∀ m i, m < n → i ≤ m → P m i = false) : ∀ j lo, lo ≤ n → n < lo + j → ∃ r, pairs P lo j = (n, k) :: r
  | 0, lo, a, b => by omega
  | j + 1, lo, a, b => by
    by_cases e : lo = n
    · subst e
      obtain ⟨r, hr⟩ := filt_first (P lo) k hP (lo + 1) 0 (by omega) (by omega) fun i _ h => h1 i h
      exact ⟨_, by rw [pairs, hr]; rfl⟩
    · obtain ⟨r, hr⟩ := pairs_first P n k hk hP h1 h2 j (lo + 1) (by omega) (by omega)
      exact ⟨r, by rw [pairs, filt_none (P lo) (lo + 1) 0 fun i _ h => h2 lo i (by omega) (by omega), hr]; rfl⟩
theorem ways_up (K M n : Nat) (c : Nat) : ∀ d, ways K M n c ≤ ways K M n (c + d)
  | 0 => Int.le_refl _
  | d + 1 => Int.le_trans (ways_up K M n c d) (ways_mono K M n (c + d))
theorem term_pos {K M n i : Nat} (h1 : i ≤ n) (h2 : i ≤ K) (h3 : n - i ≤ M) : 0 < term K M n i := by
  unfold term
  rw [if_pos h1]
  have a := bin_pos h2
  have b := bin_pos h3
  exact Int.mul_pos (by omega) (by omega)
theorem ways_term {K M n i c : Nat} (h : c < i) : ways K M n c + term K M n i ≤ ways K M n i := by
  obtain ⟨d, rfl⟩ := Nat.exists_eq_add_of_lt h
  have := ways_up K M n c d
  show _ ≤ ways K M n (c + d) + term K M n (c + d + 1)
  omega
theorem ways_pos {K M n i c : Nat} (h : i ≤ c) (ht : 0 < term K M n i) : 0 < ways K M n c := by
  obtain ⟨d, rfl⟩ := Nat.exists_eq_add_of_le h
  have u := ways_up K M n i d
  have v : term K M n i ≤ ways K M n i := by
    cases i with
    | zero => exact Int.le_refl _
    | succ i =>
      have := ways_nonneg K M n i
      show _ ≤ ways K M n i + term K M n (i + 1)
      omega
  omega
theorem gr_all {K M n k : Nat} : gr K M n k 1 1 = true ↔ (bin (K + M) n : Int) ≤ ways K M n k := by
  unfold gr
  rw [decide_eq_true_iff, Nat.one_mul, Nat.mul_one, ← wN_eq]
  omega
theorem sm_zero {K M n k : Nat} : sm K M n k 0 1 = true ↔ ways K M n k ≤ 0 := by
  unfold sm
  rw [decide_eq_true_iff, Nat.zero_mul, Nat.mul_one, ← wN_eq]
  omega
def P1 (n k : Nat) : Bool := gr 29 31 n k 1 1 && sm 30 30 n k 0 1
theorem P1_only {n k : Nat} (hn : n ≤ 60) (hk : k ≤ n) (h : P1 n k = true) : n = 60 ∧ k = 29 := by
  unfold P1 at h
  rw [Bool.and_eq_true] at h
  have g := gr_all.mp h.1
  have s := sm_zero.mp h.2
  have far : k + 31 ≤ n := by
    rcases Nat.lt_or_ge n (k + 31) with z | z
    · exfalso
      have t := term_pos (K := 30) (M := 30) (n := n) (i := n - 30) (by omega) (by omega) (by omega)
      have := ways_pos (c := k) (by omega) t
      omega
    · exact z
  have k29 : 29 ≤ k := by
    rcases Nat.lt_or_ge k 29 with z | z
    · exfalso
      have no : ∀ i, k < i → i ≤ n → i ≤ 29 → n - i ≤ 31 → False := fun i a b c d => by
        have t := term_pos (K := 29) (M := 31) (n := n) (i := i) b c d
        have u := ways_term (K := 29) (M := 31) (n := n) a
        have v := ways_le 29 31 n i b
        omega
      rcases Nat.lt_or_ge k (n - 31) with y | y
      · exact no (n - 31) y (by omega) (by omega) (by omega)
      · exact no (k + 1) (by omega) (by omega) (by omega) (by omega)
    · exact z
  omega
theorem P1_is : P1 60 29 = true := by
  unfold P1
  rw [Bool.and_eq_true]
  constructor
  · rw [gr_all, bin_self]
    have t := term_pos (K := 29) (M := 31) (n := 60) (i := 29) (by decide) (by decide) (by decide)
    have := ways_pos (c := 29) (Nat.le_refl _) t
    omega
  · rw [sm_zero]
    have z : ∀ c, c ≤ 29 → ways 30 30 60 c = 0 := by
      intro c
      induction c with
      | zero =>
        intro _
        show term 30 30 60 0 = 0
        unfold term
        rw [if_pos (by decide), bin_gt (show 30 < 60 - 0 by decide)]
        simp
      | succ c ih =>
        intro h
        show ways 30 30 60 c + term 30 30 60 (c + 1) = 0
        rw [ih (by omega)]
        unfold term
        rw [if_pos (by omega), bin_gt (show 30 < 60 - (c + 1) by omega)]
        simp
    rw [z 29 (by decide)]
    decide
theorem best_1 (c : C) : sem_best_rule [.int 60, .int 29, .tup [.int 1, .int 1], .int 30, .tup [.int 0, .int 1]] c = .ok (.tup [.int 60, .int 29]) c := by
  have e := best_e (G := 29) (MG := 31) (K := 30) (MK := 30) (N := 60) (a := 1) (b := 1) (a' := 0) (b' := 1) (c := c) rfl rfl (by decide) (by decide) ⟨by decide, by decide, by decide, by decide⟩ ⟨by decide, by decide, by decide, by decide⟩
  obtain ⟨r, hr⟩ := pairs_first P1 60 29 (by decide) P1_is
    (fun i hi => by cases h : P1 60 i with
      | false => rfl
      | true => have := P1_only (Nat.le_refl _) (by omega) h; omega)
    (fun m i hm hi => by cases h : P1 m i with
      | false => rfl
      | true => have := P1_only (by omega) hi h; omega) 61 0 (by decide) (by decide)
  have e2 : firstP (pairs (fun n k => gr 29 31 n k 1 1 && sm 30 30 n k 0 1) 0 (60 + 1)) = .tup [.int 60, .int 29] := by
    show firstP (pairs P1 0 61) = _
    rw [hr]
    rfl
  rw [e2] at e
  exact e
def P2 (n k : Nat) : Bool := gr 0 60 n k 1 1 && sm 1 59 n k 1 60
theorem bin_left : ∀ n k : Nat, bin (n + 1) k * (n + 1 - k) = (n + 1) * bin n k
  | n, 0 => by rw [bin_zero, bin_zero]; omega
  | n, k + 1 => by
    rcases Nat.lt_or_ge n (k + 1) with z | z
    · rw [bin_gt z, show n + 1 - (k + 1) = 0 by omega]
      simp
    · have e := bin_abs n k
      have e2 := bin_succ n k
      obtain ⟨d, rfl⟩ : ∃ d, n = k + 1 + d := ⟨n - (k + 1), by omega⟩
      rw [show k + 1 + d + 1 - (k + 1) = d + 1 by omega]
      have e3 : bin (k + 1 + d + 1) (k + 1) * (k + 1) + bin (k + 1 + d + 1) (k + 1) * (d + 1) = (k + 1 + d + 1) * bin (k + 1 + d + 1) (k + 1) := by grind
      have e4 : (k + 1 + d + 1) * bin (k + 1 + d + 1) (k + 1) = (k + 1 + d + 1) * bin (k + 1 + d) k + (k + 1 + d + 1) * bin (k + 1 + d) (k + 1) := by rw [e2]; grind
      omega
theorem gr_0 (n k : Nat) : gr 0 60 n k 1 1 = true := by
  rw [gr_all, ways_0, Nat.zero_add]
  exact Int.le_refl _
theorem sm_1k {n k : Nat} (hn : n ≤ 60) (hk : k ≤ n) (h : 1 ≤ k) : sm 1 59 n k 1 60 = false := by
  have hb := bin_pos (n := 60) hn
  have w : (bin 60 n : Int) ≤ ways 1 59 n k := by
    have e1 : ways 1 59 n n = bin 60 n := by rw [ways_shift, ways_0]
    have z : ∀ d, ways 1 59 n (1 + d) = ways 1 59 n 1 := by
      intro d
      induction d with
      | zero => rfl
      | succ d ih =>
        show ways 1 59 n (1 + d) + term 1 59 n (1 + d + 1) = _
        rw [ih]
        have : term 1 59 n (1 + d + 1) = 0 := by
          unfold term
          rw [bin_gt (show 1 < 1 + d + 1 by omega)]
          simp
        omega
    have a := z (k - 1)
    have b := z (n - 1)
    rw [show 1 + (k - 1) = k by omega] at a
    rw [show 1 + (n - 1) = n by omega] at b
    omega
  unfold sm
  rw [decide_eq_false_iff_not]
  rw [← wN_eq] at w
  show ¬ (wN 1 59 n k * 60 ≤ 1 * bin 60 n)
  omega
theorem sm_10 {n : Nat} (hn : n ≤ 60) : sm 1 59 n 0 1 60 = decide (59 ≤ n) := by
  have hb := bin_pos (n := 60) hn
  have e : wN 1 59 n 0 = bin 59 n := by
    have : (wN 1 59 n 0 : Int) = bin 59 n := by
      rw [wN_eq]
      show term 1 59 n 0 = _
      unfold term
      rw [if_pos (Nat.zero_le _), bin_zero, Nat.sub_zero]
      simp
    exact_mod_cast this
  have l := bin_left 59 n
  rw [Nat.mul_comm (59 + 1)] at l
  have l : bin 60 n * (60 - n) = bin 59 n * 60 := l
  unfold sm
  show decide (wN 1 59 n 0 * 60 ≤ 1 * bin 60 n) = _
  rw [e, ← l, Nat.one_mul, decide_eq_decide]
  constructor
  · intro h
    rcases Nat.lt_or_ge n 59 with z | z
    · exfalso
      have : bin 60 n * 2 ≤ bin 60 n * (60 - n) := Nat.mul_le_mul_left _ (by omega)
      omega
    · exact z
  · intro h
    have : bin 60 n * (60 - n) ≤ bin 60 n * 1 := Nat.mul_le_mul_left _ (by omega)
    omega
theorem best_2 (c : C) : sem_best_rule [.int 60, .int 0, .tup [.int 1, .int 1], .int 1, .tup [.int 1, .int 60]] c = .ok (.tup [.int 59, .int 0]) c := by
  have e := best_e (G := 0) (MG := 60) (K := 1) (MK := 59) (N := 60) (a := 1) (b := 1) (a' := 1) (b' := 60) (c := c) rfl rfl (by decide) (by decide) ⟨by decide, by decide, by decide, by decide⟩ ⟨by decide, by decide, by decide, by decide⟩
  obtain ⟨r, hr⟩ := pairs_first P2 59 0 (by decide) (by unfold P2; rw [gr_0, sm_10 (by decide)]; rfl)
    (fun i hi => by omega)
    (fun m i hm hi => by
      unfold P2
      rw [gr_0, Bool.true_and]
      cases i with
      | zero => rw [sm_10 (by omega), decide_eq_false (by omega)]
      | succ i => exact sm_1k (by omega) hi (by omega)) 61 0 (by decide) (by decide)
  have e2 : firstP (pairs (fun n k => gr 0 60 n k 1 1 && sm 1 59 n k 1 60) 0 (60 + 1)) = .tup [.int 59, .int 0] := by
    show firstP (pairs P2 0 61) = _
    rw [hr]
    rfl
  rw [e2] at e
  exact e
end K68

set_option maxRecDepth 100000
set_option autoImplicit false
set_option exponentiation.threshold 5000
set_option linter.all false
set_option maxHeartbeats 0
namespace K68
open DL
def w1 : DS := sSet 0 (dLst [dCall (sem_protects) [dC (.int 10), dTup [dC (.int 3), dC (.int 0)], dC (.int 2), dTup [dC (.int 1), dC (.int 2)]], dCall (sem_serves) [dC (.int 10), dTup [dC (.int 3), dC (.int 0)], dC (.int 1), dTup [dC (.int 7), dC (.int 10)]], dCall (sem_serves) [dC (.int 10), dTup [dC (.int 3), dC (.int 0)], dC (.int 2), dTup [dC (.int 1), dC (.int 2)]]])
def w2 : DS := sSet 0 (dO2 D.addA (dVar 0) (dLst [dCall (sem_least_drawn) [dC (.int 10), dC (.int 0), dC (.int 2), dTup [dC (.int 1), dC (.int 10)]]]))
def w3 : DS := sSet 0 (dO2 D.addA (dVar 0) (dLst [dCall (sem_best_rule) [dC (.int 10), dC (.int 1), dTup [dC (.int 1), dC (.int 2)], dC (.int 5), dTup [dC (.int 1), dC (.int 10)]], dCall (sem_best_rule) [dC (.int 10), dC (.int 1), dTup [dC (.int 1), dC (.int 1)], dC (.int 1), dTup [dC (.int 0), dC (.int 1)]], dCall (sem_least_drawn) [dC (.int 10), dC (.int 3), dC (.int 2), dTup [dC (.int 1), dC (.int 2)]]]))
def w4 : DS := sSet 0 (dO2 D.addA (dVar 0) (dLst [dCall (sem_protects) [dC (.int 10), dTup [dC (.int 3), dC (.int 0)], dC (.int 2), dTup [dC (.int 7), dC (.int 15)]], dCall (sem_protects) [dC (.int 10), dTup [dC (.int 3), dC (.int 0)], dC (.int 2), dTup [dC (.int 6), dC (.int 13)]], dCall (sem_protects) [dC (.int 10), dTup [dC (.int 3), dC (.int 0)], dC (.int 0), dTup [dC (.int 99), dC (.int 100)]]]))
def w5 : DS := sIf (tNot (tE (dCall (sem__law_like 40) [dVar 0, dLst [dC (.bl true), dC (.bl true), dC (.bl false), dC (.int 7), dTup [dC (.int 3), dC (.int 0)], dC .non, dC .non, dC (.bl true), dC (.bl false), dC (.bl false)]]))) (sRet (dC (.bl false))) (sNil)
def w6 : DS := sSet 0 (dLst [dCall (sem_least_drawn) [dC (.int 60), dC (.int 0), dC (.int 1), dTup [dC (.int 1), dC (.int 2)]], dCall (sem_least_drawn) [dC (.int 60), dC (.int 0), dC (.int 1), dTup [dC (.int 0), dC (.int 1)]], dCall (sem_least_drawn) [dC (.int 60), dC (.int 0), dC (.int 30), dTup [dC (.int 1), dC (.int 2)]]])
def w7 : DS := sSet 0 (dO2 D.addA (dVar 0) (dLst [dCall (sem_least_drawn) [dC (.int 60), dC (.int 59), dC (.int 60), dTup [dC (.int 0), dC (.int 1)]]]))
def w8 : DS := sSet 0 (dO2 D.addA (dVar 0) (dLst [dCall (sem_least_drawn) [dC (.int 60), dC (.int 60), dC (.int 60), dTup [dC (.int 0), dC (.int 1)]], dCall (sem_least_drawn) [dC (.int 60), dC (.int 0), dC (.int 0), dTup [dC (.int 1), dC (.int 1)]], dCall (sem_best_rule) [dC (.int 60), dC (.int 60), dTup [dC (.int 1), dC (.int 1)], dC (.int 60), dTup [dC (.int 1), dC (.int 1)]]]))
def w9 : DS := sSet 0 (dO2 D.addA (dVar 0) (dLst [dCall (sem_best_rule) [dC (.int 60), dC (.int 29), dTup [dC (.int 1), dC (.int 1)], dC (.int 30), dTup [dC (.int 0), dC (.int 1)]], dCall (sem_best_rule) [dC (.int 60), dC (.int 0), dTup [dC (.int 1), dC (.int 1)], dC (.int 1), dTup [dC (.int 1), dC (.int 60)]], dCall (sem_least_drawn) [dC (.int 60), dC (.int 1), dC (.int 2), dTup [dC (.int 1), dC (.int 30)]]]))
def w10 : DS := sRet (dCall (sem__law_like 40) [dVar 0, dLst [dC (.int 30), dC (.int 60), dC (.int 1), dC (.int 60), dC .non, dC (.int 0), dTup [dC (.int 0), dC (.int 0)], dTup [dC (.int 60), dC (.int 29)], dTup [dC (.int 59), dC (.int 0)], dC (.int 59)]])
def er1 : DS := sPar [(1, true), (2, false)] [dLst [], dLst [dC .non, dTup [dC (.int 2), dC (.int 4)], dTup [dC (.int 3), dC (.int 2)], dTup [dO1 D.neg (dC (.int 1)), dC (.int 2)], dTup [dC (.int 1), dC (.int 0)], dLst [dC (.int 1), dC (.int 2)], dTup [dC (.bl true), dC (.int 2)], dTup [dC (.int 1)], dC (.str (PySem.Str.ofString "1"))]]
def er2 : DS := sSet 5 (dCall (sem__law_some) [dVar 0, dLst [dC .non, dTup [dC (.int 10), dC (.int 0)], dTup [dC (.int 0), dC (.int 1)], dLst [dC (.int 1), dC (.int 0)], dTup [dC (.int 1)]]])
def er3 : DS := sSeq (sFor (iSeq true (dTup [dC (.fn 15), dC (.fn 16)])) (tgN 4) (sSeq (sOwn 1 (dO2 D.cat (dVar 1) (dComp (iSeq false (dTup [dC .non, dC (.int 0), dC (.int 61), dC (.bl true)])) (tgN 6) (tYes) (dLam sem__law_fails (dCallV (fun k => if k = 15 then some (sem_protects) else if k = 16 then some (sem_serves) else none) 4 [dVar 6, dC .non, dC .non, dC .non])) [6]))) (
  sSeq (sApp 1 (dLam sem__law_fails (dCallV (fun k => if k = 15 then some (sem_protects) else if k = 16 then some (sem_serves) else none) 4 [dC (.int 9), dVar 5, dC .non, dC .non]))) (
  sSeq (sOwn 1 (dO2 D.cat (dVar 1) (dComp (iSeq false (dTup [dC .non, dO1 D.neg (dC (.int 1)), dC (.int 10), dC (.bl false)])) (tgN 7) (tYes) (dLam sem__law_fails (dCallV (fun k => if k = 15 then some (sem_protects) else if k = 16 then some (sem_serves) else none) 4 [dC (.int 9), dTup [dC (.int 1), dC (.int 0)], dVar 7, dC .non])) [7]))) (
  sOwn 1 (dO2 D.cat (dVar 1) (dComp (iSeq false (dVar 2)) (tgN 8) (tYes) (dLam sem__law_fails (dCallV (fun k => if k = 15 then some (sem_protects) else if k = 16 then some (sem_serves) else none) 4 [dC (.int 9), dTup [dC (.int 1), dC (.int 0)], dC (.int 9), dVar 8])) [8]))))))) (sSeq (sOwn 1 (dO2 D.cat (dVar 1) (dComp (iSeq false (dTup [dC .non, dC (.int 0), dC (.int 61), dC (.bl true)])) (tgN 6) (tYes) (dLam sem__law_fails (dCall (sem_least_drawn) [dVar 6, dC .non, dC .non, dC .non])) [6]))) (sSeq (sOwn 1 (dO2 D.cat (dVar 1) (dComp (iSeq false (dTup [dC .non, dO1 D.neg (dC (.int 1)), dC (.int 10), dC (.bl false)])) (tgN 9) (tYes) (dLam sem__law_fails (dCall (sem_least_drawn) [dC (.int 9), dVar 9, dC .non, dC .non])) [9]))) (sSeq (sOwn 1 (dO2 D.cat (dVar 1) (dComp (iSeq false (dTup [dC .non, dO1 D.neg (dC (.int 1)), dC (.int 10), dC (.bl false)])) (tgN 7) (tYes) (dLam sem__law_fails (dCall (sem_least_drawn) [dC (.int 9), dC (.int 9), dVar 7, dC .non])) [7]))) (sSeq (sOwn 1 (dO2 D.cat (dVar 1) (dComp (iSeq false (dVar 2)) (tgN 8) (tYes) (dLam sem__law_fails (dCall (sem_least_drawn) [dC (.int 9), dC (.int 9), dC (.int 9), dVar 8])) [8]))) (sSeq (sOwn 1 (dO2 D.cat (dVar 1) (dComp (iSeq false (dTup [dC .non, dC (.int 0), dC (.int 61), dC (.bl true)])) (tgN 6) (tYes) (dLam sem__law_fails (dCall (sem_best_rule) [dVar 6, dC .non, dC .non, dC .non, dC .non])) [6]))) (sSeq (sOwn 1 (dO2 D.cat (dVar 1) (dComp (iSeq false (dTup [dC .non, dO1 D.neg (dC (.int 1)), dC (.int 10), dC (.bl false)])) (tgN 10) (tYes) (dLam sem__law_fails (dCall (sem_best_rule) [dC (.int 9), dVar 10, dC .non, dC .non, dC .non])) [10]))) (sSeq (sOwn 1 (dO2 D.cat (dVar 1) (dComp (iSeq false (dVar 2)) (tgN 8) (tYes) (dLam sem__law_fails (dCall (sem_best_rule) [dC (.int 9), dC (.int 0), dVar 8, dC .non, dC .non])) [8]))) (sSeq (sOwn 1 (dO2 D.cat (dVar 1) (dComp (iSeq false (dTup [dC .non, dO1 D.neg (dC (.int 1)), dC (.int 10), dC (.bl false)])) (tgN 7) (tYes) (dLam sem__law_fails (dCall (sem_best_rule) [dC (.int 9), dC (.int 0), dTup [dC (.int 1), dC (.int 2)], dVar 7, dC .non])) [7]))) (sSeq (sOwn 1 (dO2 D.cat (dVar 1) (dComp (iSeq false (dVar 2)) (tgN 8) (tYes) (dLam sem__law_fails (dCall (sem_best_rule) [dC (.int 9), dC (.int 0), dTup [dC (.int 1), dC (.int 2)], dC (.int 9), dVar 8])) [8]))) (sSeq (sSet 3 (dO2 D.addA (dO2 D.addA (dO2 D.addA (dO2 D.mulA (dLst [dC (.str (PySem.Str.ofString "number"))]) (dC (.int 4))) (dLst [dC (.str (PySem.Str.ofString "rule"))])) (dO2 D.mulA (dLst [dC (.str (PySem.Str.ofString "number"))]) (dC (.int 4)))) (dO2 D.mulA (dLst [dC (.str (PySem.Str.ofString "ratio"))]) (dC (.int 9))))) (sRet (dO2 D.eq (dVar 1) (dO2 D.addA (dO2 D.addA (dO2 D.addA (dO2 D.addA (dO2 D.addA (dO2 D.addA (dO2 D.mulA (dVar 3) (dC (.int 2))) (dO2 D.mulA (dLst [dC (.str (PySem.Str.ofString "number"))]) (dC (.int 12)))) (dO2 D.mulA (dLst [dC (.str (PySem.Str.ofString "ratio"))]) (dC (.int 9)))) (dO2 D.mulA (dLst [dC (.str (PySem.Str.ofString "number"))]) (dC (.int 8)))) (dO2 D.mulA (dLst [dC (.str (PySem.Str.ofString "ratio"))]) (dC (.int 9)))) (dO2 D.mulA (dLst [dC (.str (PySem.Str.ofString "number"))]) (dC (.int 4)))) (dO2 D.mulA (dLst [dC (.str (PySem.Str.ofString "ratio"))]) (dC (.int 9))))))))))))))))

def tA : List D := [.bl true, .bl true, .bl false]
def tB : List D := [.bl true, .bl true, .bl false, .int 7]
def tC : List D := [.bl true, .bl true, .bl false, .int 7, p2 3 0, .non, .non]
def tD : List D := [.bl true, .bl true, .bl false, .int 7, p2 3 0, .non, .non, .bl true, .bl false, .bl false]
def tE1 : List D := [.int 30, .int 60, .int 1]
def tF : List D := [.int 30, .int 60, .int 1, .int 60]
def tG : List D := [.int 30, .int 60, .int 1, .int 60, .non, .int 0, p2 0 0]
def tH : List D := [.int 30, .int 60, .int 1, .int 60, .non, .int 0, p2 0 0, p2 60 29, p2 59 0, .int 59]
theorem w1_ok (c : C) : w1 [.no] c = .nx [.val (.lst tA)] c := by kernel_rfl
theorem w2_ok (c : C) : w2 [.val (.lst tA)] c = .nx [.val (.lst tB)] c := by kernel_rfl
theorem w3_ok (c : C) : w3 [.val (.lst tB)] c = .nx [.val (.lst tC)] c := by kernel_rfl
theorem w4_ok (c : C) : w4 [.val (.lst tC)] c = .nx [.val (.lst tD)] c := by kernel_rfl
theorem w5_ok (c : C) : w5 [.val (.lst tD)] c = .nx [.val (.lst tD)] c := by kernel_rfl
theorem w6_ok (c : C) : w6 [.val (.lst tD)] c = .nx [.val (.lst tE1)] c := by kernel_rfl
theorem w7_ok (c : C) : w7 [.val (.lst tE1)] c = .nx [.val (.lst tF)] c := by kernel_rfl
theorem w8_ok (c : C) : w8 [.val (.lst tF)] c = .nx [.val (.lst tG)] c := by kernel_rfl
theorem least_59 (c : C) : sem_least_drawn [.int 60, .int 1, .int 2, .tup [.int 1, .int 30]] c = .ok (.int 59) c := by kernel_rfl
theorem w9_ok (c : C) : w9 [.val (.lst tG)] c = .nx [.val (.lst tH)] c := by
  have l : D.addA (.lst tG) (.lst [.tup [.int 60, .int 29], .tup [.int 59, .int 0], .int 59]) = some (.lst tH) := cat_lists (by decide)
  exact set_of (o2_of (u := .pl _) (v := .pl _) rfl (lst_of (ds := [.tup [.int 60, .int 29], .tup [.int 59, .int 0], .int 59]) (args_3
    (call_of (ds := [.int 60, .int 29, .tup [.int 1, .int 1], .int 30, .tup [.int 0, .int 1]]) rfl (best_1 c))
    (call_of (ds := [.int 60, .int 0, .tup [.int 1, .int 1], .int 1, .tup [.int 1, .int 60]]) rfl (best_2 c))
    (call_of (ds := [.int 60, .int 1, .int 2, .tup [.int 1, .int 30]]) rfl (least_59 c)))) l)
theorem w10_ok (c : C) : w10 [.val (.lst tH)] c = .rt (.bl true) c := by kernel_rfl
theorem written_spec (c : C) : sem__law_written [] c = .ok (.bl true) c := by
  refine run_rt (env := [.no]) rfl ?_
  have e : den__law_written = sSeq w1 (sSeq w2 (sSeq w3 (sSeq w4 (sSeq w5 (sSeq w6 (sSeq w7 (sSeq w8 (sSeq w9 w10)))))))) := rfl
  rw [e, seq_nx (w1_ok c), seq_nx (w2_ok c), seq_nx (w3_ok c), seq_nx (w4_ok c), seq_nx (w5_ok c), seq_nx (w6_ok c), seq_nx (w7_ok c), seq_nx (w8_ok c), seq_nx (w9_ok c)]
  exact w10_ok c
/-! ### errors -/
def eOdds : List D := [.non, p2 2 4, p2 3 2, p2 (-1) 2, p2 1 0, .lst [.int 1, .int 2], .tup [.bl true, .int 2], .tup [.int 1], .str (PySem.Str.ofString "1")]
def eOdd : List D := [.non, p2 10 0, p2 0 1, .lst [.int 1, .int 0], .tup [.int 1]]
theorem er1_ok (c : C) : er1 [.val .cup, .no, .no, .no, .no, .no, .no, .no, .no, .no, .no] c = .nx [.val .cup, .own [], .val (.lst eOdds), .no, .no, .no, .no, .no, .no, .no, .no] c := by kernel_rfl
theorem er3_0 (c : C) : er3 [.val .cup, .own [], .val (.lst eOdds), .no, .no, .val (eOdd.getD 0 .non), .no, .no, .no, .no, .no] c = .rt (.bl true) c := by kernel_rfl
theorem er3_1 (c : C) : er3 [.val .cup, .own [], .val (.lst eOdds), .no, .no, .val (eOdd.getD 1 .non), .no, .no, .no, .no, .no] c = .rt (.bl true) c := by kernel_rfl
theorem er3_2 (c : C) : er3 [.val .cup, .own [], .val (.lst eOdds), .no, .no, .val (eOdd.getD 2 .non), .no, .no, .no, .no, .no] c = .rt (.bl true) c := by kernel_rfl
theorem er3_3 (c : C) : er3 [.val .cup, .own [], .val (.lst eOdds), .no, .no, .val (eOdd.getD 3 .non), .no, .no, .no, .no, .no] c = .rt (.bl true) c := by kernel_rfl
theorem er3_4 (c : C) : er3 [.val .cup, .own [], .val (.lst eOdds), .no, .no, .val (eOdd.getD 4 .non), .no, .no, .no, .no, .no] c = .rt (.bl true) c := by kernel_rfl
theorem er3_all (c : C) : ∀ (v : Nat) (d : D), eOdd[v]? = some d → er3 [.val .cup, .own [], .val (.lst eOdds), .no, .no, .val d, .no, .no, .no, .no, .no] c = .rt (.bl true) c
  | 0, _, h => by cases h; exact er3_0 c
  | 1, _, h => by cases h; exact er3_1 c
  | 2, _, h => by cases h; exact er3_2 c
  | 3, _, h => by cases h; exact er3_3 c
  | 4, _, h => by cases h; exact er3_4 c
  | n + 5, _, h => by cases h
theorem errors_spec (c : C) : ∃ c', sem__law_errors [.cup] c = .ok (.bl true) c' := by
  obtain ⟨v, d, c', hv, r⟩ := some_spec c eOdd (by show 0 < 5; decide) (by show 5 ≤ 1000; decide)
  refine ⟨c', run_rt (env := [.val .cup, .no, .no, .no, .no, .no, .no, .no, .no, .no, .no]) rfl ?_⟩
  have e : den__law_errors = sSeq er1 (sSeq er2 er3) := rfl
  have q : er2 [.val .cup, .own [], .val (.lst eOdds), .no, .no, .no, .no, .no, .no, .no, .no] c = .nx [.val .cup, .own [], .val (.lst eOdds), .no, .no, .val d, .no, .no, .no, .no, .no] c' :=
    set_of (call_of (ds := [.cup, .lst eOdd]) rfl r)
  rw [e, seq_nx (er1_ok c), seq_nx q]
  exact er3_all c' v d hv
end K68

set_option maxRecDepth 100000
set_option autoImplicit false
set_option exponentiation.threshold 5000
set_option linter.all false
set_option maxHeartbeats 0
namespace K68
open DL

def lBody1 : DS := sSeq (sSet 3 (dCall (sem__law_some) [dVar 1, dLst [dO2 D.addA (dC (.int 1)) (dCall (sem__law_roll) [dVar 1, dC (.int 8)]), dC (.int 12), dO2 D.addA (dC (.int 1)) (dCall (sem__law_roll) [dVar 1, dC (.int 60)])]])) (
  sSeq (sSet 4 (dCall (sem__law_roll) [dVar 1, dO2 D.addA (dVar 3) (dC (.int 1))])) (
  sIf (tNot (tE (dCall (sem__law_rule_right) [dVar 1, dVar 3, dTup [dVar 4, dCall (sem__law_some) [dVar 1, dLst [dC (.int 0), dO2 D.fdiv (dVar 4) (dC (.int 3)), dVar 4]]]]))) (sRet (dC (.bl false))) (sNil)))
def lBody2 : DS := sIf (tNot (tE (dCall (sem__law_least_right) [dVar 1, dO2 D.addA (dC (.int 1)) (dCall (sem__law_roll) [dVar 1, dC (.int 16)])]))) (sRet (dC (.bl false))) (sNil)
theorem one_plus {e : DE} {env : Env} {x : Nat} {c c1 : C} (h : e env c = .ok (.pl (.int x)) c1) : dO2 D.addA (dC (.int 1)) e env c = .ok (.pl (.int (1 + x : Nat))) c1 := by
  refine o2_of (u := .pl _) (v := .pl _) rfl h ?_
  rw [ev_rvd, ev_rvd, addA_int]
  push_cast
  rfl
theorem lBody1_ok (s0 s2 s3 s4 : Slot) (c : C) : ∃ t3 t4 c', lBody1 [s0, .val .cup, s2, s3, s4] c = .nx [s0, .val .cup, s2, t3, t4] c' := by
  obtain ⟨i, c1, r1, i0, i1⟩ := roll_spec c 8 (by decide) (by decide)
  obtain ⟨j, c2, r2, j0, j1⟩ := roll_spec c1 60 (by decide) (by decide)
  obtain ⟨i, rfl⟩ := Int.eq_ofNat_of_zero_le i0
  obtain ⟨j, rfl⟩ := Int.eq_ofNat_of_zero_le j0
  obtain ⟨v, d, c3, hv, r3⟩ := some_spec c2 [.int (1 + i : Nat), .int 12, .int (1 + j : Nat)] (by show 0 < 3; decide) (by show 3 ≤ 1000; decide)
  have mem := List.mem_of_getElem? hv
  obtain ⟨N, rfl, N0, N1⟩ : ∃ N : Nat, d = .int N ∧ 1 ≤ N ∧ N ≤ 60 := by
    simp only [List.mem_cons, List.not_mem_nil, or_false] at mem
    rcases mem with rfl | rfl | rfl
    · exact ⟨_, rfl, by omega, by omega⟩
    · exact ⟨12, rfl, by decide, by decide⟩
    · exact ⟨_, rfl, by omega, by omega⟩
  obtain ⟨n, c4, r4, n0, n1⟩ := roll_spec c3 (N + 1 : Nat) (by omega) (by omega)
  obtain ⟨n, rfl⟩ := Int.eq_ofNat_of_zero_le n0
  obtain ⟨v2, d2, c5, hv2, r5⟩ := some_spec c4 [.int 0, .int (n / 3 : Nat), .int n] (by show 0 < 3; decide) (by show 3 ≤ 1000; decide)
  have mem2 := List.mem_of_getElem? hv2
  obtain ⟨k, rfl, hk⟩ : ∃ k : Nat, d2 = .int k ∧ k ≤ n := by
    simp only [List.mem_cons, List.not_mem_nil, or_false] at mem2
    rcases mem2 with rfl | rfl | rfl
    · exact ⟨0, rfl, by omega⟩
    · exact ⟨n / 3, rfl, by omega⟩
    · exact ⟨n, rfl, by omega⟩
  obtain ⟨c6, rr⟩ := rule_right_spec (N := N) (n := n) (k := k) c5 N0 N1 (by omega) hk
  have hf : D.fdiv (.int n) (.int 3) = some (.int ((n / 3 : Nat) : Int)) := by
    rw [fdiv_some (by decide) (small_wide (by decide) (by decide))]
    rfl
  refine ⟨.val (.int N), .val (.int n), c6, ?_⟩
  unfold lBody1
  rw [seq_nx (set_of (call_of (ds := [.cup, .lst [.int (1 + i : Nat), .int 12, .int (1 + j : Nat)]]) (args_2 rfl (lst_of (ds := [.int (1 + i : Nat), .int 12, .int (1 + j : Nat)]) (args_3 (one_plus (call_of (ds := [.cup, .int 8]) rfl r1)) rfl (one_plus (call_of (ds := [.cup, .int 60]) rfl r2))))) r3))]
  dsimp only [List.set]
  rw [seq_nx (set_of (call_of (ds := [.cup, .int (N + 1 : Nat)]) (args_2 rfl (add1 rfl)) r4))]
  dsimp only [List.set]
  exact if_f (tnot_of (te_bl (call_of (ds := [.cup, .int N, .tup [.int n, .int k]]) (args_3 rfl rfl (tup_of (ds := [.int n, .int k]) (args_2 rfl (call_of (ds := [.cup, .lst [.int 0, .int (n / 3 : Nat), .int n]]) (args_2 rfl (lst_of (ds := [.int 0, .int (n / 3 : Nat), .int n]) (args_3 rfl (o2_of (u := .pl _) (v := .pl _) rfl rfl hf) rfl))) r5)))) rr)))
theorem lLoop1 : ∀ (its : List D) (s0 s2 s3 s4 : Slot) (c : C), ∃ t2 t3 t4 c', sForL (tgN 2) lBody1 its [s0, .val .cup, s2, s3, s4] c = .nx [s0, .val .cup, t2, t3, t4] c'
  | [], s0, s2, s3, s4, c => ⟨s2, s3, s4, c, rfl⟩
  | x :: its, s0, s2, s3, s4, c => by
    obtain ⟨t3, t4, c1, e⟩ := lBody1_ok s0 (.val x) s3 s4 c
    obtain ⟨u2, u3, u4, c2, ih⟩ := lLoop1 its s0 (.val x) t3 t4 c1
    exact ⟨u2, u3, u4, c2, by rw [for_nx rfl e]; exact ih⟩
theorem lBody2_ok (s0 s2 s3 s4 : Slot) (c : C) : ∃ c', lBody2 [s0, .val .cup, s2, s3, s4] c = .nx [s0, .val .cup, s2, s3, s4] c' := by
  obtain ⟨i, c1, r1, i0, i1⟩ := roll_spec c 16 (by decide) (by decide)
  obtain ⟨i, rfl⟩ := Int.eq_ofNat_of_zero_le i0
  obtain ⟨c2, rr⟩ := least_right_spec (N := 1 + i) c1 (by omega) (by omega)
  refine ⟨c2, ?_⟩
  exact if_f (tnot_of (te_bl (call_of (ds := [.cup, .int (1 + i : Nat)]) (args_2 rfl (one_plus (call_of (ds := [.cup, .int 16]) rfl r1))) rr)))
theorem lLoop2 : ∀ (its : List D) (s0 s2 s3 s4 : Slot) (c : C), ∃ t2 c', sForL (tgN 2) lBody2 its [s0, .val .cup, s2, s3, s4] c = .nx [s0, .val .cup, t2, s3, s4] c'
  | [], s0, s2, s3, s4, c => ⟨s2, c, rfl⟩
  | x :: its, s0, s2, s3, s4, c => by
    obtain ⟨c1, e⟩ := lBody2_ok s0 (.val x) s3 s4 c
    obtain ⟨u2, c2, ih⟩ := lLoop2 its s0 (.val x) s3 s4 c1
    exact ⟨u2, c2, by rw [for_nx rfl e]; exact ih⟩
theorem law_true (ns : List Int) : ∃ c, run_law (cup0 ns) = .rt (.bl true) c := by
  obtain ⟨t2, t3, t4, c1, e1⟩ := lLoop1 (rng 0 5) .no .no .no .no (cup0 ns)
  obtain ⟨u2, c2, e2⟩ := lLoop2 (rng 0 3) .no t2 t3 t4 c1
  obtain ⟨c3, e3⟩ := errors_spec c2
  refine ⟨c3, ?_⟩
  have e : run_law (cup0 ns) = sSeq (sFor (iRng1 (dC (.int 5))) (tgN 2) lBody1) (sSeq (sFor (iRng1 (dC (.int 3))) (tgN 2) lBody2) (sRet (dAnd (dCall (sem__law_written) []) (dCall (sem__law_errors) [dVar 1])))) [.no, .val .cup, .no, .no, .no] (cup0 ns) := rfl
  rw [e, seq_nx ((sfor_of (rng1_nat (dC (.int 5)) _ _ _ 5 (by decide) rfl)).trans e1), seq_nx ((sfor_of (rng1_nat (dC (.int 3)) _ _ _ 3 (by decide) rfl)).trans e2)]
  exact ret_of (v := .pl (.bl true)) (and_t (call_of (ds := []) rfl (written_spec c2)) (call_of (ds := [.cup]) rfl e3))
end K68

set_option Elab.async false
set_option linter.all false
set_option maxRecDepth 100000
set_option maxHeartbeats 4000000
set_option autoImplicit false
namespace K68
open PySem PySem.Spec PyProof.Rows L2 LamX DL
def topS (i : Nat) : Stmt := PySem.Challenge.pw_lotsatdawn_k68_whole_rules_that_protect.main.body.getD i (.Pass ⟨0, 0, 0, 0⟩)
theorem nm_CRATES : (("CRATES" : Str) == ("__debug__" : Str)) = false ∧ (("CRATES" : Str) == ("__classdict__" : Str)) = false ∧ ("CRATES" : Str) ≠ "__name__" := by decide +kernel
theorem nm_GREAT : (("GREAT" : Str) == ("__debug__" : Str)) = false ∧ (("GREAT" : Str) == ("__classdict__" : Str)) = false ∧ ("GREAT" : Str) ≠ "__name__" := by decide +kernel
theorem nm_HallError : (("HallError" : Str) == ("__debug__" : Str)) = false ∧ (("HallError" : Str) == ("__classdict__" : Str)) = false ∧ ("HallError" : Str) ≠ "__name__" := by decide +kernel
theorem nm_InvalidNumber : (("InvalidNumber" : Str) == ("__debug__" : Str)) = false ∧ (("InvalidNumber" : Str) == ("__classdict__" : Str)) = false ∧ ("InvalidNumber" : Str) ≠ "__name__" := by decide +kernel
theorem nm_InvalidRatio : (("InvalidRatio" : Str) == ("__debug__" : Str)) = false ∧ (("InvalidRatio" : Str) == ("__classdict__" : Str)) = false ∧ ("InvalidRatio" : Str) ≠ "__name__" := by decide +kernel
theorem nm_InvalidRule : (("InvalidRule" : Str) == ("__debug__" : Str)) = false ∧ (("InvalidRule" : Str) == ("__classdict__" : Str)) = false ∧ ("InvalidRule" : Str) ≠ "__name__" := by decide +kernel
theorem nm__law_at_least : (("_law_at_least" : Str) == ("__debug__" : Str)) = false ∧ (("_law_at_least" : Str) == ("__classdict__" : Str)) = false ∧ ("_law_at_least" : Str) ≠ "__name__" := by decide +kernel
theorem nm__law_at_most : (("_law_at_most" : Str) == ("__debug__" : Str)) = false ∧ (("_law_at_most" : Str) == ("__classdict__" : Str)) = false ∧ ("_law_at_most" : Str) ≠ "__name__" := by decide +kernel
theorem nm__law_chance : (("_law_chance" : Str) == ("__debug__" : Str)) = false ∧ (("_law_chance" : Str) == ("__classdict__" : Str)) = false ∧ ("_law_chance" : Str) ≠ "__name__" := by decide +kernel
theorem nm__law_choose : (("_law_choose" : Str) == ("__debug__" : Str)) = false ∧ (("_law_choose" : Str) == ("__classdict__" : Str)) = false ∧ ("_law_choose" : Str) ≠ "__name__" := by decide +kernel
theorem nm__law_errors : (("_law_errors" : Str) == ("__debug__" : Str)) = false ∧ (("_law_errors" : Str) == ("__classdict__" : Str)) = false ∧ ("_law_errors" : Str) ≠ "__name__" := by decide +kernel
theorem nm__law_fails : (("_law_fails" : Str) == ("__debug__" : Str)) = false ∧ (("_law_fails" : Str) == ("__classdict__" : Str)) = false ∧ ("_law_fails" : Str) ≠ "__name__" := by decide +kernel
theorem nm__law_gcd : (("_law_gcd" : Str) == ("__debug__" : Str)) = false ∧ (("_law_gcd" : Str) == ("__classdict__" : Str)) = false ∧ ("_law_gcd" : Str) ≠ "__name__" := by decide +kernel
theorem nm__law_least_right : (("_law_least_right" : Str) == ("__debug__" : Str)) = false ∧ (("_law_least_right" : Str) == ("__classdict__" : Str)) = false ∧ ("_law_least_right" : Str) ≠ "__name__" := by decide +kernel
theorem nm__law_like : (("_law_like" : Str) == ("__debug__" : Str)) = false ∧ (("_law_like" : Str) == ("__classdict__" : Str)) = false ∧ ("_law_like" : Str) ≠ "__name__" := by decide +kernel
theorem nm__law_near : (("_law_near" : Str) == ("__debug__" : Str)) = false ∧ (("_law_near" : Str) == ("__classdict__" : Str)) = false ∧ ("_law_near" : Str) ≠ "__name__" := by decide +kernel
theorem nm__law_ratio : (("_law_ratio" : Str) == ("__debug__" : Str)) = false ∧ (("_law_ratio" : Str) == ("__classdict__" : Str)) = false ∧ ("_law_ratio" : Str) ≠ "__name__" := by decide +kernel
theorem nm__law_roll : (("_law_roll" : Str) == ("__debug__" : Str)) = false ∧ (("_law_roll" : Str) == ("__classdict__" : Str)) = false ∧ ("_law_roll" : Str) ≠ "__name__" := by decide +kernel
theorem nm__law_rule_right : (("_law_rule_right" : Str) == ("__debug__" : Str)) = false ∧ (("_law_rule_right" : Str) == ("__classdict__" : Str)) = false ∧ ("_law_rule_right" : Str) ≠ "__name__" := by decide +kernel
theorem nm__law_some : (("_law_some" : Str) == ("__debug__" : Str)) = false ∧ (("_law_some" : Str) == ("__classdict__" : Str)) = false ∧ ("_law_some" : Str) ≠ "__name__" := by decide +kernel
theorem nm__law_sort : (("_law_sort" : Str) == ("__debug__" : Str)) = false ∧ (("_law_sort" : Str) == ("__classdict__" : Str)) = false ∧ ("_law_sort" : Str) ≠ "__name__" := by decide +kernel
theorem nm__law_written : (("_law_written" : Str) == ("__debug__" : Str)) = false ∧ (("_law_written" : Str) == ("__classdict__" : Str)) = false ∧ ("_law_written" : Str) ≠ "__name__" := by decide +kernel
theorem nm_at : (("at" : Str) == ("__debug__" : Str)) = false ∧ (("at" : Str) == ("__classdict__" : Str)) = false ∧ ("at" : Str) ≠ "__name__" := by decide +kernel
theorem nm_bad : (("bad" : Str) == ("__debug__" : Str)) = false ∧ (("bad" : Str) == ("__classdict__" : Str)) = false ∧ ("bad" : Str) ≠ "__name__" := by decide +kernel
theorem nm_best_rule : (("best_rule" : Str) == ("__debug__" : Str)) = false ∧ (("best_rule" : Str) == ("__classdict__" : Str)) = false ∧ ("best_rule" : Str) ≠ "__name__" := by decide +kernel
theorem nm_bool : (("bool" : Str) == ("__debug__" : Str)) = false ∧ (("bool" : Str) == ("__classdict__" : Str)) = false ∧ ("bool" : Str) ≠ "__name__" := by decide +kernel
theorem nm_bottom : (("bottom" : Str) == ("__debug__" : Str)) = false ∧ (("bottom" : Str) == ("__classdict__" : Str)) = false ∧ ("bottom" : Str) ≠ "__name__" := by decide +kernel
theorem nm_call : (("call" : Str) == ("__debug__" : Str)) = false ∧ (("call" : Str) == ("__classdict__" : Str)) = false ∧ ("call" : Str) ≠ "__name__" := by decide +kernel
theorem nm_chance : (("chance" : Str) == ("__debug__" : Str)) = false ∧ (("chance" : Str) == ("__classdict__" : Str)) = false ∧ ("chance" : Str) ≠ "__name__" := by decide +kernel
theorem nm_chance_in : (("chance_in" : Str) == ("__debug__" : Str)) = false ∧ (("chance_in" : Str) == ("__classdict__" : Str)) = false ∧ ("chance_in" : Str) ≠ "__name__" := by decide +kernel
theorem nm_chances : (("chances" : Str) == ("__debug__" : Str)) = false ∧ (("chances" : Str) == ("__classdict__" : Str)) = false ∧ ("chances" : Str) ≠ "__name__" := by decide +kernel
theorem nm_checked : (("checked" : Str) == ("__debug__" : Str)) = false ∧ (("checked" : Str) == ("__classdict__" : Str)) = false ∧ ("checked" : Str) ≠ "__name__" := by decide +kernel
theorem nm_comb : (("comb" : Str) == ("__debug__" : Str)) = false ∧ (("comb" : Str) == ("__classdict__" : Str)) = false ∧ ("comb" : Str) ≠ "__name__" := by decide +kernel
theorem nm_crates : (("crates" : Str) == ("__debug__" : Str)) = false ∧ (("crates" : Str) == ("__classdict__" : Str)) = false ∧ ("crates" : Str) ≠ "__name__" := by decide +kernel
theorem nm_cup : (("cup" : Str) == ("__debug__" : Str)) = false ∧ (("cup" : Str) == ("__classdict__" : Str)) = false ∧ ("cup" : Str) ≠ "__name__" := by decide +kernel
theorem nm_deep : (("deep" : Str) == ("__debug__" : Str)) = false ∧ (("deep" : Str) == ("__classdict__" : Str)) = false ∧ ("deep" : Str) ≠ "__name__" := by decide +kernel
theorem nm_does : (("does" : Str) == ("__debug__" : Str)) = false ∧ (("does" : Str) == ("__classdict__" : Str)) = false ∧ ("does" : Str) ≠ "__name__" := by decide +kernel
theorem nm_drawn : (("drawn" : Str) == ("__debug__" : Str)) = false ∧ (("drawn" : Str) == ("__classdict__" : Str)) = false ∧ ("drawn" : Str) ≠ "__name__" := by decide +kernel
theorem nm_due : (("due" : Str) == ("__debug__" : Str)) = false ∧ (("due" : Str) == ("__classdict__" : Str)) = false ∧ ("due" : Str) ≠ "__name__" := by decide +kernel
theorem nm_e : (("e" : Str) == ("__debug__" : Str)) = false ∧ (("e" : Str) == ("__classdict__" : Str)) = false ∧ ("e" : Str) ≠ "__name__" := by decide +kernel
theorem nm_first : (("first" : Str) == ("__debug__" : Str)) = false ∧ (("first" : Str) == ("__classdict__" : Str)) = false ∧ ("first" : Str) ≠ "__name__" := by decide +kernel
theorem nm_found : (("found" : Str) == ("__debug__" : Str)) = false ∧ (("found" : Str) == ("__classdict__" : Str)) = false ∧ ("found" : Str) ≠ "__name__" := by decide +kernel
theorem nm_found_ways : (("found_ways" : Str) == ("__debug__" : Str)) = false ∧ (("found_ways" : Str) == ("__classdict__" : Str)) = false ∧ ("found_ways" : Str) ≠ "__name__" := by decide +kernel
theorem nm_gcd : (("gcd" : Str) == ("__debug__" : Str)) = false ∧ (("gcd" : Str) == ("__classdict__" : Str)) = false ∧ ("gcd" : Str) ≠ "__name__" := by decide +kernel
theorem nm_good : (("good" : Str) == ("__debug__" : Str)) = false ∧ (("good" : Str) == ("__classdict__" : Str)) = false ∧ ("good" : Str) ≠ "__name__" := by decide +kernel
theorem nm_high : (("high" : Str) == ("__debug__" : Str)) = false ∧ (("high" : Str) == ("__classdict__" : Str)) = false ∧ ("high" : Str) ≠ "__name__" := by decide +kernel
theorem nm_int : (("int" : Str) == ("__debug__" : Str)) = false ∧ (("int" : Str) == ("__classdict__" : Str)) = false ∧ ("int" : Str) ≠ "__name__" := by decide +kernel
theorem nm_is_great : (("is_great" : Str) == ("__debug__" : Str)) = false ∧ (("is_great" : Str) == ("__classdict__" : Str)) = false ∧ ("is_great" : Str) ≠ "__name__" := by decide +kernel
theorem nm_is_ratio : (("is_ratio" : Str) == ("__debug__" : Str)) = false ∧ (("is_ratio" : Str) == ("__classdict__" : Str)) = false ∧ ("is_ratio" : Str) ≠ "__name__" := by decide +kernel
theorem nm_is_rule_for : (("is_rule_for" : Str) == ("__debug__" : Str)) = false ∧ (("is_rule_for" : Str) == ("__classdict__" : Str)) = false ∧ ("is_rule_for" : Str) ≠ "__name__" := by decide +kernel
theorem nm_is_small : (("is_small" : Str) == ("__debug__" : Str)) = false ∧ (("is_small" : Str) == ("__classdict__" : Str)) = false ∧ ("is_small" : Str) ≠ "__name__" := by decide +kernel
theorem nm_is_tuple_of : (("is_tuple_of" : Str) == ("__debug__" : Str)) = false ∧ (("is_tuple_of" : Str) == ("__classdict__" : Str)) = false ∧ ("is_tuple_of" : Str) ≠ "__name__" := by decide +kernel
theorem nm_is_whole : (("is_whole" : Str) == ("__debug__" : Str)) = false ∧ (("is_whole" : Str) == ("__classdict__" : Str)) = false ∧ ("is_whole" : Str) ≠ "__name__" := by decide +kernel
theorem nm_isinstance : (("isinstance" : Str) == ("__debug__" : Str)) = false ∧ (("isinstance" : Str) == ("__classdict__" : Str)) = false ∧ ("isinstance" : Str) ≠ "__name__" := by decide +kernel
theorem nm_least_drawn : (("least_drawn" : Str) == ("__debug__" : Str)) = false ∧ (("least_drawn" : Str) == ("__classdict__" : Str)) = false ∧ ("least_drawn" : Str) ≠ "__name__" := by decide +kernel
theorem nm_left : (("left" : Str) == ("__debug__" : Str)) = false ∧ (("left" : Str) == ("__classdict__" : Str)) = false ∧ ("left" : Str) ≠ "__name__" := by decide +kernel
theorem nm_len : (("len" : Str) == ("__debug__" : Str)) = false ∧ (("len" : Str) == ("__classdict__" : Str)) = false ∧ ("len" : Str) ≠ "__name__" := by decide +kernel
theorem nm_limit : (("limit" : Str) == ("__debug__" : Str)) = false ∧ (("limit" : Str) == ("__classdict__" : Str)) = false ∧ ("limit" : Str) ≠ "__name__" := by decide +kernel
theorem nm_list : (("list" : Str) == ("__debug__" : Str)) = false ∧ (("list" : Str) == ("__classdict__" : Str)) = false ∧ ("list" : Str) ≠ "__name__" := by decide +kernel
theorem nm_low : (("low" : Str) == ("__debug__" : Str)) = false ∧ (("low" : Str) == ("__classdict__" : Str)) = false ∧ ("low" : Str) ≠ "__name__" := by decide +kernel
theorem nm_lowest : (("lowest" : Str) == ("__debug__" : Str)) = false ∧ (("lowest" : Str) == ("__classdict__" : Str)) = false ∧ ("lowest" : Str) ≠ "__name__" := by decide +kernel
theorem nm_many : (("many" : Str) == ("__debug__" : Str)) = false ∧ (("many" : Str) == ("__classdict__" : Str)) = false ∧ ("many" : Str) ≠ "__name__" := by decide +kernel
theorem nm_max : (("max" : Str) == ("__debug__" : Str)) = false ∧ (("max" : Str) == ("__classdict__" : Str)) = false ∧ ("max" : Str) ≠ "__name__" := by decide +kernel
theorem nm_min : (("min" : Str) == ("__debug__" : Str)) = false ∧ (("min" : Str) == ("__classdict__" : Str)) = false ∧ ("min" : Str) ≠ "__name__" := by decide +kernel
theorem nm_most : (("most" : Str) == ("__debug__" : Str)) = false ∧ (("most" : Str) == ("__classdict__" : Str)) = false ∧ ("most" : Str) ≠ "__name__" := by decide +kernel
theorem nm_need_chance : (("need_chance" : Str) == ("__debug__" : Str)) = false ∧ (("need_chance" : Str) == ("__classdict__" : Str)) = false ∧ ("need_chance" : Str) ≠ "__name__" := by decide +kernel
theorem nm_need_lot : (("need_lot" : Str) == ("__debug__" : Str)) = false ∧ (("need_lot" : Str) == ("__classdict__" : Str)) = false ∧ ("need_lot" : Str) ≠ "__name__" := by decide +kernel
theorem nm_need_rule : (("need_rule" : Str) == ("__debug__" : Str)) = false ∧ (("need_rule" : Str) == ("__classdict__" : Str)) = false ∧ ("need_rule" : Str) ≠ "__name__" := by decide +kernel
theorem nm_need_whole : (("need_whole" : Str) == ("__debug__" : Str)) = false ∧ (("need_whole" : Str) == ("__classdict__" : Str)) = false ∧ ("need_whole" : Str) ≠ "__name__" := by decide +kernel
theorem nm_number : (("number" : Str) == ("__debug__" : Str)) = false ∧ (("number" : Str) == ("__classdict__" : Str)) = false ∧ ("number" : Str) ≠ "__name__" := by decide +kernel
theorem nm_odd : (("odd" : Str) == ("__debug__" : Str)) = false ∧ (("odd" : Str) == ("__classdict__" : Str)) = false ∧ ("odd" : Str) ≠ "__name__" := by decide +kernel
theorem nm_odds : (("odds" : Str) == ("__debug__" : Str)) = false ∧ (("odds" : Str) == ("__classdict__" : Str)) = false ∧ ("odds" : Str) ≠ "__name__" := by decide +kernel
theorem nm_one : (("one" : Str) == ("__debug__" : Str)) = false ∧ (("one" : Str) == ("__classdict__" : Str)) = false ∧ ("one" : Str) ≠ "__name__" := by decide +kernel
theorem nm_order_in : (("order_in" : Str) == ("__debug__" : Str)) = false ∧ (("order_in" : Str) == ("__classdict__" : Str)) = false ∧ ("order_in" : Str) ≠ "__name__" := by decide +kernel
theorem nm_other : (("other" : Str) == ("__debug__" : Str)) = false ∧ (("other" : Str) == ("__classdict__" : Str)) = false ∧ ("other" : Str) ≠ "__name__" := by decide +kernel
theorem nm_other_chance : (("other_chance" : Str) == ("__debug__" : Str)) = false ∧ (("other_chance" : Str) == ("__classdict__" : Str)) = false ∧ ("other_chance" : Str) ≠ "__name__" := by decide +kernel
theorem nm_pair : (("pair" : Str) == ("__debug__" : Str)) = false ∧ (("pair" : Str) == ("__classdict__" : Str)) = false ∧ ("pair" : Str) ≠ "__name__" := by decide +kernel
theorem nm_protects : (("protects" : Str) == ("__debug__" : Str)) = false ∧ (("protects" : Str) == ("__classdict__" : Str)) = false ∧ ("protects" : Str) ≠ "__name__" := by decide +kernel
theorem nm_right : (("right" : Str) == ("__debug__" : Str)) = false ∧ (("right" : Str) == ("__classdict__" : Str)) = false ∧ ("right" : Str) ≠ "__name__" := by decide +kernel
theorem nm_rule : (("rule" : Str) == ("__debug__" : Str)) = false ∧ (("rule" : Str) == ("__classdict__" : Str)) = false ∧ ("rule" : Str) ≠ "__name__" := by decide +kernel
theorem nm_rules : (("rules" : Str) == ("__debug__" : Str)) = false ∧ (("rules" : Str) == ("__classdict__" : Str)) = false ∧ ("rules" : Str) ≠ "__name__" := by decide +kernel
theorem nm_second : (("second" : Str) == ("__debug__" : Str)) = false ∧ (("second" : Str) == ("__classdict__" : Str)) = false ∧ ("second" : Str) ≠ "__name__" := by decide +kernel
theorem nm_serves : (("serves" : Str) == ("__debug__" : Str)) = false ∧ (("serves" : Str) == ("__classdict__" : Str)) = false ∧ ("serves" : Str) ≠ "__name__" := by decide +kernel
theorem nm_shared : (("shared" : Str) == ("__debug__" : Str)) = false ∧ (("shared" : Str) == ("__classdict__" : Str)) = false ∧ ("shared" : Str) ≠ "__name__" := by decide +kernel
theorem nm_some : (("some" : Str) == ("__debug__" : Str)) = false ∧ (("some" : Str) == ("__classdict__" : Str)) = false ∧ ("some" : Str) ≠ "__name__" := by decide +kernel
theorem nm_sort : (("sort" : Str) == ("__debug__" : Str)) = false ∧ (("sort" : Str) == ("__classdict__" : Str)) = false ∧ ("sort" : Str) ≠ "__name__" := by decide +kernel
theorem nm_str : (("str" : Str) == ("__debug__" : Str)) = false ∧ (("str" : Str) == ("__classdict__" : Str)) = false ∧ ("str" : Str) ≠ "__name__" := by decide +kernel
theorem nm_sum : (("sum" : Str) == ("__debug__" : Str)) = false ∧ (("sum" : Str) == ("__classdict__" : Str)) = false ∧ ("sum" : Str) ≠ "__name__" := by decide +kernel
theorem nm_things : (("things" : Str) == ("__debug__" : Str)) = false ∧ (("things" : Str) == ("__classdict__" : Str)) = false ∧ ("things" : Str) ≠ "__name__" := by decide +kernel
theorem nm_told : (("told" : Str) == ("__debug__" : Str)) = false ∧ (("told" : Str) == ("__classdict__" : Str)) = false ∧ ("told" : Str) ≠ "__name__" := by decide +kernel
theorem nm_top : (("top" : Str) == ("__debug__" : Str)) = false ∧ (("top" : Str) == ("__classdict__" : Str)) = false ∧ ("top" : Str) ≠ "__name__" := by decide +kernel
theorem nm_tuple : (("tuple" : Str) == ("__debug__" : Str)) = false ∧ (("tuple" : Str) == ("__classdict__" : Str)) = false ∧ ("tuple" : Str) ≠ "__name__" := by decide +kernel
theorem nm_value : (("value" : Str) == ("__debug__" : Str)) = false ∧ (("value" : Str) == ("__classdict__" : Str)) = false ∧ ("value" : Str) ≠ "__name__" := by decide +kernel
theorem nm_ways : (("ways" : Str) == ("__debug__" : Str)) = false ∧ (("ways" : Str) == ("__classdict__" : Str)) = false ∧ ("ways" : Str) ≠ "__name__" := by decide +kernel
theorem nm_word : (("word" : Str) == ("__debug__" : Str)) = false ∧ (("word" : Str) == ("__classdict__" : Str)) = false ∧ ("word" : Str) ≠ "__name__" := by decide +kernel
theorem nm_words : (("words" : Str) == ("__debug__" : Str)) = false ∧ (("words" : Str) == ("__classdict__" : Str)) = false ∧ ("words" : Str) ≠ "__name__" := by decide +kernel
theorem sub_lt (k j : Nat) (h : sub_ k j = true) : k < 4 := by
  rcases Nat.lt_or_ge k 4 with z | z
  · exact z
  · exfalso
    have e : tbl_.getD k [] = [] := by rw [List.getD_eq_getElem?_getD, List.getElem?_eq_none (show tbl_.length ≤ k from z)]; rfl
    unfold sub_ at h
    rw [e] at h
    cases h
abbrev st_is_whole : Stmt := topS 7
abbrev Nm_is_whole : List Str := ["value", "low", "high"]
theorem sc_is_whole : FnScope Nm_is_whole ["value", "low", "high"] (defScope st_is_whole) := ⟨rfl, rfl, rfl, by decide +kernel, rfl, by decide +kernel, by decide +kernel⟩
abbrev st_is_tuple_of : Stmt := topS 9
abbrev Nm_is_tuple_of : List Str := ["value", "low", "high"]
theorem sc_is_tuple_of : FnScope Nm_is_tuple_of ["value", "low", "high"] (defScope st_is_tuple_of) := ⟨rfl, rfl, rfl, by decide +kernel, rfl, by decide +kernel, by decide +kernel⟩
abbrev st_lowest : Stmt := topS 13
abbrev Nm_lowest : List Str := ["top", "bottom", "shared"]
theorem sc_lowest : FnScope Nm_lowest ["top", "bottom"] (defScope st_lowest) := ⟨rfl, rfl, rfl, by decide +kernel, rfl, by decide +kernel, by decide +kernel⟩
abbrev st_order_in : Stmt := topS 14
abbrev Nm_order_in : List Str := ["one", "other", "left", "right"]
theorem sc_order_in : FnScope Nm_order_in ["one", "other"] (defScope st_order_in) := ⟨rfl, rfl, rfl, by decide +kernel, rfl, by decide +kernel, by decide +kernel⟩
abbrev st_found_ways : Stmt := topS 21
abbrev Nm_found_ways : List Str := ["crates", "bad", "drawn", "number"]
theorem sc_found_ways : FnScope Nm_found_ways ["crates", "bad", "drawn", "number"] (defScope st_found_ways) := ⟨rfl, rfl, rfl, by decide +kernel, rfl, by decide +kernel, by decide +kernel⟩
abbrev st__law_cup : Stmt := topS 31
abbrev Nm__law_cup : List Str := ["script", "cell"]
theorem sc__law_cup : FnScope Nm__law_cup ["script"] (defScope st__law_cup) := ⟨rfl, rfl, rfl, by decide +kernel, rfl, by decide +kernel, by decide +kernel⟩
abbrev st__law_roll : Stmt := topS 32
abbrev Nm__law_roll : List Str := ["cup", "many", "found", "deep"]
theorem sc__law_roll : FnScope Nm__law_roll ["cup", "many"] (defScope st__law_roll) := ⟨rfl, rfl, rfl, by decide +kernel, rfl, by decide +kernel, by decide +kernel⟩
abbrev st__law_sort : Stmt := topS 34
abbrev Nm__law_sort : List Str := ["value"]
theorem sc__law_sort : FnScope Nm__law_sort ["value"] (defScope st__law_sort) := ⟨rfl, rfl, rfl, by decide +kernel, rfl, by decide +kernel, by decide +kernel⟩
abbrev st__law_gcd : Stmt := topS 36
abbrev Nm__law_gcd : List Str := ["one", "other", "turn"]
theorem sc__law_gcd : FnScope Nm__law_gcd ["one", "other"] (defScope st__law_gcd) := ⟨rfl, rfl, rfl, by decide +kernel, rfl, by decide +kernel, by decide +kernel⟩
abbrev st__law_choose : Stmt := topS 38
abbrev Nm__law_choose : List Str := ["many", "some", "found", "at"]
theorem sc__law_choose : FnScope Nm__law_choose ["many", "some"] (defScope st__law_choose) := ⟨rfl, rfl, rfl, by decide +kernel, rfl, by decide +kernel, by decide +kernel⟩
abbrev st__law_fails : Stmt := topS 39
abbrev Nm__law_fails : List Str := ["call", "e", "some", "words", "word", "good"]
theorem sc__law_fails : FnScope Nm__law_fails ["call"] (defScope st__law_fails) := ⟨rfl, rfl, rfl, by decide +kernel, rfl, by decide +kernel, by decide +kernel⟩
def cs__law_fails_0 : Scope := { kind := .function, names := [(PySem.Str.ofString ".0", .«local»), (PySem.Str.ofString "word", .«local»), (PySem.Str.ofString "good", .«local»)], isGenerator := false, isCoroutine := false, more := [] }
abbrev st__law_at_most : Stmt := topS 41
abbrev Nm__law_at_most : List Str := ["one", "other"]
theorem sc__law_at_most : FnScope Nm__law_at_most ["one", "other"] (defScope st__law_at_most) := ⟨rfl, rfl, rfl, by decide +kernel, rfl, by decide +kernel, by decide +kernel⟩
abbrev st__law_at_least : Stmt := topS 42
abbrev Nm__law_at_least : List Str := ["one", "other"]
theorem sc__law_at_least : FnScope Nm__law_at_least ["one", "other"] (defScope st__law_at_least) := ⟨rfl, rfl, rfl, by decide +kernel, rfl, by decide +kernel, by decide +kernel⟩
abbrev st_need_whole : Stmt := topS 8
abbrev Nm_need_whole : List Str := ["value", "low", "high"]
theorem sc_need_whole : FnScope Nm_need_whole ["value", "low", "high"] (defScope st_need_whole) := ⟨rfl, rfl, rfl, by decide +kernel, rfl, by decide +kernel, by decide +kernel⟩
abbrev st_is_ratio : Stmt := topS 12
abbrev Nm_is_ratio : List Str := ["value"]
theorem sc_is_ratio : FnScope Nm_is_ratio ["value"] (defScope st_is_ratio) := ⟨rfl, rfl, rfl, by decide +kernel, rfl, by decide +kernel, by decide +kernel⟩
abbrev st_is_rule_for : Stmt := topS 18
abbrev Nm_is_rule_for : List Str := ["crates", "value"]
theorem sc_is_rule_for : FnScope Nm_is_rule_for ["crates", "value"] (defScope st_is_rule_for) := ⟨rfl, rfl, rfl, by decide +kernel, rfl, by decide +kernel, by decide +kernel⟩
abbrev st_chance_in : Stmt := topS 22
abbrev Nm_chance_in : List Str := ["crates", "bad", "drawn", "most", "ways", "number"]
theorem sc_chance_in : FnScope Nm_chance_in ["crates", "bad", "drawn", "most"] (defScope st_chance_in) := ⟨rfl, rfl, rfl, by decide +kernel, rfl, by decide +kernel, by decide +kernel⟩
def cs_chance_in_0 : Scope := { kind := .function, names := [(PySem.Str.ofString ".0", .«local»), (PySem.Str.ofString "number", .«local»), (PySem.Str.ofString "found_ways", .globalImplicit), (PySem.Str.ofString "bad", .free), (PySem.Str.ofString "crates", .free), (PySem.Str.ofString "drawn", .free)], isGenerator := false, isCoroutine := false, more := [] }
abbrev st__law_some : Stmt := topS 33
abbrev Nm__law_some : List Str := ["cup", "things"]
theorem sc__law_some : FnScope Nm__law_some ["cup", "things"] (defScope st__law_some) := ⟨rfl, rfl, rfl, by decide +kernel, rfl, by decide +kernel, by decide +kernel⟩
abbrev st__law_like : Stmt := topS 35
abbrev Nm__law_like : List Str := ["one", "other", "sort", "first", "second"]
theorem sc__law_like : FnScope Nm__law_like ["one", "other"] (defScope st__law_like) := ⟨rfl, rfl, rfl, by decide +kernel, rfl, by decide +kernel, by decide +kernel⟩
def cs__law_like_0 : Scope := { kind := .function, names := [(PySem.Str.ofString ".0", .«local»), (PySem.Str.ofString "first", .«local»), (PySem.Str.ofString "second", .«local»), (PySem.Str.ofString "_law_like", .globalImplicit)], isGenerator := false, isCoroutine := false, more := [] }
abbrev st__law_ratio : Stmt := topS 37
abbrev Nm__law_ratio : List Str := ["top", "bottom", "shared"]
theorem sc__law_ratio : FnScope Nm__law_ratio ["top", "bottom"] (defScope st__law_ratio) := ⟨rfl, rfl, rfl, by decide +kernel, rfl, by decide +kernel, by decide +kernel⟩
abbrev st__law_chance : Stmt := topS 40
abbrev Nm__law_chance : List Str := ["crates", "bad", "rule", "ways", "number"]
theorem sc__law_chance : FnScope Nm__law_chance ["crates", "bad", "rule"] (defScope st__law_chance) := ⟨rfl, rfl, rfl, by decide +kernel, rfl, by decide +kernel, by decide +kernel⟩
abbrev st_need_lot : Stmt := topS 17
abbrev Nm_need_lot : List Str := ["crates", "bad"]
theorem sc_need_lot : FnScope Nm_need_lot ["crates", "bad"] (defScope st_need_lot) := ⟨rfl, rfl, rfl, by decide +kernel, rfl, by decide +kernel, by decide +kernel⟩
abbrev st_need_rule : Stmt := topS 19
abbrev Nm_need_rule : List Str := ["crates", "value"]
theorem sc_need_rule : FnScope Nm_need_rule ["crates", "value"] (defScope st_need_rule) := ⟨rfl, rfl, rfl, by decide +kernel, rfl, by decide +kernel, by decide +kernel⟩
abbrev st_need_chance : Stmt := topS 20
abbrev Nm_need_chance : List Str := ["value"]
theorem sc_need_chance : FnScope Nm_need_chance ["value"] (defScope st_need_chance) := ⟨rfl, rfl, rfl, by decide +kernel, rfl, by decide +kernel, by decide +kernel⟩
abbrev st_is_small : Stmt := topS 23
abbrev Nm_is_small : List Str := ["crates", "bad", "rule", "chance"]
theorem sc_is_small : FnScope Nm_is_small ["crates", "bad", "rule", "chance"] (defScope st_is_small) := ⟨rfl, rfl, rfl, by decide +kernel, rfl, by decide +kernel, by decide +kernel⟩
abbrev st_is_great : Stmt := topS 24
abbrev Nm_is_great : List Str := ["crates", "good", "rule", "chance"]
theorem sc_is_great : FnScope Nm_is_great ["crates", "good", "rule", "chance"] (defScope st_is_great) := ⟨rfl, rfl, rfl, by decide +kernel, rfl, by decide +kernel, by decide +kernel⟩
abbrev st__law_near : Stmt := topS 43
abbrev Nm__law_near : List Str := ["cup", "pair", "top", "bottom", "some", "found"]
theorem sc__law_near : FnScope Nm__law_near ["cup", "pair"] (defScope st__law_near) := ⟨rfl, rfl, rfl, by decide +kernel, rfl, by decide +kernel, by decide +kernel⟩
abbrev st_checked : Stmt := topS 25
abbrev Nm_checked : List Str := ["crates", "rule", "bad", "chance"]
theorem sc_checked : FnScope Nm_checked ["crates", "rule", "bad", "chance"] (defScope st_checked) := ⟨rfl, rfl, rfl, by decide +kernel, rfl, by decide +kernel, by decide +kernel⟩
abbrev st_least_drawn : Stmt := topS 28
abbrev Nm_least_drawn : List Str := ["crates", "most", "bad", "chance", "found", "drawn"]
theorem sc_least_drawn : FnScope Nm_least_drawn ["crates", "most", "bad", "chance"] (defScope st_least_drawn) := ⟨rfl, rfl, rfl, by decide +kernel, rfl, by decide +kernel, by decide +kernel⟩
def cs_least_drawn_0 : Scope := { kind := .function, names := [(PySem.Str.ofString ".0", .«local»), (PySem.Str.ofString "drawn", .«local»), (PySem.Str.ofString "is_small", .globalImplicit), (PySem.Str.ofString "bad", .free), (PySem.Str.ofString "chance", .free), (PySem.Str.ofString "crates", .free), (PySem.Str.ofString "most", .free)], isGenerator := false, isCoroutine := false, more := [] }
abbrev st_best_rule : Stmt := topS 29
abbrev Nm_best_rule : List Str := ["crates", "good", "chance", "bad", "other_chance", "drawn", "most", "rule"]
theorem sc_best_rule : FnScope Nm_best_rule ["crates", "good", "chance", "bad", "other_chance"] (defScope st_best_rule) := ⟨rfl, rfl, rfl, by decide +kernel, rfl, by decide +kernel, by decide +kernel⟩
abbrev st_protects : Stmt := topS 26
abbrev Nm_protects : List Str := ["crates", "rule", "bad", "chance"]
theorem sc_protects : FnScope Nm_protects ["crates", "rule", "bad", "chance"] (defScope st_protects) := ⟨rfl, rfl, rfl, by decide +kernel, rfl, by decide +kernel, by decide +kernel⟩
abbrev st_serves : Stmt := topS 27
abbrev Nm_serves : List Str := ["crates", "rule", "good", "chance"]
theorem sc_serves : FnScope Nm_serves ["crates", "rule", "good", "chance"] (defScope st_serves) := ⟨rfl, rfl, rfl, by decide +kernel, rfl, by decide +kernel, by decide +kernel⟩
abbrev st__law_least_right : Stmt := topS 45
abbrev Nm__law_least_right : List Str := ["cup", "crates", "bad", "good", "drawn", "most", "chance", "many", "due", "first", "second", "rules", "limit", "rule", "does", "turn"]
theorem sc__law_least_right : FnScope Nm__law_least_right ["cup", "crates"] (defScope st__law_least_right) := ⟨rfl, rfl, rfl, by decide +kernel, rfl, by decide +kernel, by decide +kernel⟩
def cs__law_least_right_0 : Scope := { kind := .function, names := [(PySem.Str.ofString ".0", .«local»), (PySem.Str.ofString "turn", .«local»), (PySem.Str.ofString "_law_roll", .globalImplicit), (PySem.Str.ofString "crates", .free), (PySem.Str.ofString "cup", .free)], isGenerator := false, isCoroutine := false, more := [] }
def cs__law_least_right_1 : Scope := { kind := .function, names := [(PySem.Str.ofString ".0", .«local»), (PySem.Str.ofString "many", .«local»), (PySem.Str.ofString "_law_at_most", .globalImplicit), (PySem.Str.ofString "_law_chance", .globalImplicit), (PySem.Str.ofString "bad", .free), (PySem.Str.ofString "chance", .free), (PySem.Str.ofString "crates", .free), (PySem.Str.ofString "most", .free)], isGenerator := false, isCoroutine := false, more := [] }
abbrev st__law_rule_right : Stmt := topS 44
abbrev Nm__law_rule_right : List Str := ["cup", "crates", "rule", "bad", "chances", "turn", "chance", "due", "one"]
theorem sc__law_rule_right : FnScope Nm__law_rule_right ["cup", "crates", "rule"] (defScope st__law_rule_right) := ⟨rfl, rfl, rfl, by decide +kernel, rfl, by decide +kernel, by decide +kernel⟩
def cs__law_rule_right_0 : Scope := { kind := .function, names := [(PySem.Str.ofString ".0", .«local»), (PySem.Str.ofString "bad", .«local»), (PySem.Str.ofString "_law_chance", .globalImplicit), (PySem.Str.ofString "crates", .free), (PySem.Str.ofString "rule", .free)], isGenerator := false, isCoroutine := false, more := [] }
def cs__law_rule_right_1 : Scope := { kind := .function, names := [(PySem.Str.ofString ".0", .«local»), (PySem.Str.ofString "one", .«local»), (PySem.Str.ofString "_law_at_most", .globalImplicit), (PySem.Str.ofString "chance", .free)], isGenerator := false, isCoroutine := false, more := [] }
def cs__law_rule_right_2 : Scope := { kind := .function, names := [(PySem.Str.ofString ".0", .«local»), (PySem.Str.ofString "one", .«local»), (PySem.Str.ofString "_law_at_least", .globalImplicit), (PySem.Str.ofString "chance", .free)], isGenerator := false, isCoroutine := false, more := [] }
abbrev st__law_written : Stmt := topS 46
abbrev Nm__law_written : List Str := ["told"]
theorem sc__law_written : FnScope Nm__law_written [] (defScope st__law_written) := ⟨rfl, rfl, rfl, by decide +kernel, rfl, by decide +kernel, by decide +kernel⟩
abbrev st__law_errors : Stmt := topS 47
abbrev Nm__law_errors : List Str := ["cup", "words", "odds", "first", "call", "odd", "crates", "bad", "chance", "most", "good"]
theorem sc__law_errors : FnScope Nm__law_errors ["cup"] (defScope st__law_errors) := ⟨rfl, rfl, rfl, by decide +kernel, rfl, by decide +kernel, by decide +kernel⟩
def cs__law_errors_0 : Scope := { kind := .function, names := [(PySem.Str.ofString ".0", .«local»), (PySem.Str.ofString "crates", .cell), (PySem.Str.ofString "_law_fails", .globalImplicit), (PySem.Str.ofString "call", .free)], isGenerator := false, isCoroutine := false, more := [] }
def cs__law_errors_1 : Scope := { kind := .function, names := [(PySem.Str.ofString "call", .free), (PySem.Str.ofString "crates", .free)], isGenerator := false, isCoroutine := false, more := [] }
def cs__law_errors_2 : Scope := { kind := .function, names := [(PySem.Str.ofString "call", .free), (PySem.Str.ofString "odd", .free)], isGenerator := false, isCoroutine := false, more := [] }
def cs__law_errors_3 : Scope := { kind := .function, names := [(PySem.Str.ofString "call", .free), (PySem.Str.ofString "odd", .free)], isGenerator := false, isCoroutine := false, more := [] }
def cs__law_errors_4 : Scope := { kind := .function, names := [(PySem.Str.ofString ".0", .«local»), (PySem.Str.ofString "bad", .cell), (PySem.Str.ofString "_law_fails", .globalImplicit), (PySem.Str.ofString "call", .free)], isGenerator := false, isCoroutine := false, more := [] }
def cs__law_errors_5 : Scope := { kind := .function, names := [(PySem.Str.ofString "bad", .free), (PySem.Str.ofString "call", .free)], isGenerator := false, isCoroutine := false, more := [] }
def cs__law_errors_6 : Scope := { kind := .function, names := [(PySem.Str.ofString ".0", .«local»), (PySem.Str.ofString "chance", .cell), (PySem.Str.ofString "_law_fails", .globalImplicit), (PySem.Str.ofString "call", .free)], isGenerator := false, isCoroutine := false, more := [] }
def cs__law_errors_7 : Scope := { kind := .function, names := [(PySem.Str.ofString "call", .free), (PySem.Str.ofString "chance", .free)], isGenerator := false, isCoroutine := false, more := [] }
def cs__law_errors_8 : Scope := { kind := .function, names := [(PySem.Str.ofString ".0", .«local»), (PySem.Str.ofString "crates", .cell), (PySem.Str.ofString "_law_fails", .globalImplicit)], isGenerator := false, isCoroutine := false, more := [] }
def cs__law_errors_9 : Scope := { kind := .function, names := [(PySem.Str.ofString "crates", .free), (PySem.Str.ofString "least_drawn", .globalImplicit)], isGenerator := false, isCoroutine := false, more := [] }
def cs__law_errors_10 : Scope := { kind := .function, names := [(PySem.Str.ofString ".0", .«local»), (PySem.Str.ofString "most", .cell), (PySem.Str.ofString "_law_fails", .globalImplicit)], isGenerator := false, isCoroutine := false, more := [] }
def cs__law_errors_11 : Scope := { kind := .function, names := [(PySem.Str.ofString "most", .free), (PySem.Str.ofString "least_drawn", .globalImplicit)], isGenerator := false, isCoroutine := false, more := [] }
def cs__law_errors_12 : Scope := { kind := .function, names := [(PySem.Str.ofString ".0", .«local»), (PySem.Str.ofString "bad", .cell), (PySem.Str.ofString "_law_fails", .globalImplicit)], isGenerator := false, isCoroutine := false, more := [] }
def cs__law_errors_13 : Scope := { kind := .function, names := [(PySem.Str.ofString "bad", .free), (PySem.Str.ofString "least_drawn", .globalImplicit)], isGenerator := false, isCoroutine := false, more := [] }
def cs__law_errors_14 : Scope := { kind := .function, names := [(PySem.Str.ofString ".0", .«local»), (PySem.Str.ofString "chance", .cell), (PySem.Str.ofString "_law_fails", .globalImplicit)], isGenerator := false, isCoroutine := false, more := [] }
def cs__law_errors_15 : Scope := { kind := .function, names := [(PySem.Str.ofString "chance", .free), (PySem.Str.ofString "least_drawn", .globalImplicit)], isGenerator := false, isCoroutine := false, more := [] }
def cs__law_errors_16 : Scope := { kind := .function, names := [(PySem.Str.ofString ".0", .«local»), (PySem.Str.ofString "crates", .cell), (PySem.Str.ofString "_law_fails", .globalImplicit)], isGenerator := false, isCoroutine := false, more := [] }
def cs__law_errors_17 : Scope := { kind := .function, names := [(PySem.Str.ofString "crates", .free), (PySem.Str.ofString "best_rule", .globalImplicit)], isGenerator := false, isCoroutine := false, more := [] }
def cs__law_errors_18 : Scope := { kind := .function, names := [(PySem.Str.ofString ".0", .«local»), (PySem.Str.ofString "good", .cell), (PySem.Str.ofString "_law_fails", .globalImplicit)], isGenerator := false, isCoroutine := false, more := [] }
def cs__law_errors_19 : Scope := { kind := .function, names := [(PySem.Str.ofString "good", .free), (PySem.Str.ofString "best_rule", .globalImplicit)], isGenerator := false, isCoroutine := false, more := [] }
def cs__law_errors_20 : Scope := { kind := .function, names := [(PySem.Str.ofString ".0", .«local»), (PySem.Str.ofString "chance", .cell), (PySem.Str.ofString "_law_fails", .globalImplicit)], isGenerator := false, isCoroutine := false, more := [] }
def cs__law_errors_21 : Scope := { kind := .function, names := [(PySem.Str.ofString "chance", .free), (PySem.Str.ofString "best_rule", .globalImplicit)], isGenerator := false, isCoroutine := false, more := [] }
def cs__law_errors_22 : Scope := { kind := .function, names := [(PySem.Str.ofString ".0", .«local»), (PySem.Str.ofString "bad", .cell), (PySem.Str.ofString "_law_fails", .globalImplicit)], isGenerator := false, isCoroutine := false, more := [] }
def cs__law_errors_23 : Scope := { kind := .function, names := [(PySem.Str.ofString "bad", .free), (PySem.Str.ofString "best_rule", .globalImplicit)], isGenerator := false, isCoroutine := false, more := [] }
def cs__law_errors_24 : Scope := { kind := .function, names := [(PySem.Str.ofString ".0", .«local»), (PySem.Str.ofString "chance", .cell), (PySem.Str.ofString "_law_fails", .globalImplicit)], isGenerator := false, isCoroutine := false, more := [] }
def cs__law_errors_25 : Scope := { kind := .function, names := [(PySem.Str.ofString "chance", .free), (PySem.Str.ofString "best_rule", .globalImplicit)], isGenerator := false, isCoroutine := false, more := [] }
abbrev st_law : Stmt := topS 48
abbrev Nm_law : List Str := ["script", "cup", "turn", "crates", "drawn"]
theorem sc_law : FnScope Nm_law ["script"] (defScope st_law) := ⟨rfl, rfl, rfl, by decide +kernel, rfl, by decide +kernel, by decide +kernel⟩
def zp (TT : List (Addr × Str)) : Zp := ⟨TT, fun k => ((["is_whole", "need_whole", "is_tuple_of", "is_ratio", "lowest", "order_in", "need_lot", "is_rule_for", "need_rule", "need_chance", "found_ways", "chance_in", "is_small", "is_great", "checked", "protects", "serves", "least_drawn", "best_rule", "_law_cup", "_law_roll", "_law_some", "_law_sort", "_law_like", "_law_gcd", "_law_ratio", "_law_choose", "_law_fails", "_law_chance", "_law_at_most"] : List Str) ++ (["_law_at_least", "_law_near", "_law_rule_right", "_law_least_right", "_law_written", "_law_errors", "law"] : List Str) : List Str).getD k Str.empty, fun k => (["HallError", "InvalidNumber", "InvalidRatio", "InvalidRule"] : List Str).getD k Str.empty, fun _ => Str.empty, none⟩
structure Tp (K : PySem.W.Frag) (mg : Str → Option Value) : Prop where
  n__ : True
  n_abs : mg "abs" = none
  n_bool : mg "bool" = none
  n_int : mg "int" = none
  n_isinstance : mg "isinstance" = none
  n_len : mg "len" = none
  n_list : mg "list" = none
  n_max : mg "max" = none
  n_min : mg "min" = none
  n_range : mg "range" = none
  n_str : mg "str" = none
  n_sum : mg "sum" = none
  n_tuple : mg "tuple" = none
  n_zip : mg "zip" = none
  x_HallError : ∃ C, Xc K mg "HallError" C
  x_InvalidNumber : ∃ C, Xc K mg "InvalidNumber" C
  x_InvalidRatio : ∃ C, Xc K mg "InvalidRatio" C
  x_InvalidRule : ∃ C, Xc K mg "InvalidRule" C
  k_CRATES : ∃ u, mg "CRATES" = some u ∧ RelV (.int 60) u
  k_GREAT : ∃ u, mg "GREAT" = some u ∧ RelV (.int (1000000000000000000000000000000000000000000000000000000000000)) u
  i_comb : mg "comb" = some (.builtin "math.comb")
  i_gcd : mg "gcd" = some (.builtin "math.gcd")
structure Df (K : PySem.W.Frag) (mg : Str → Option Value) : Prop where
  d_is_whole : ∃ (f : Addr) (fd : FuncData), mg "is_whole" = some (.ref f) ∧ L2.Fun K "is_whole" "is_whole" st_is_whole f fd ∧ L2.Binds K fd ["value", "low", "high"] []
  d_is_tuple_of : ∃ (f : Addr) (fd : FuncData), mg "is_tuple_of" = some (.ref f) ∧ L2.Fun K "is_tuple_of" "is_tuple_of" st_is_tuple_of f fd ∧ L2.Binds K fd ["value", "low", "high"] []
  d_lowest : ∃ (f : Addr) (fd : FuncData), mg "lowest" = some (.ref f) ∧ L2.Fun K "lowest" "lowest" st_lowest f fd ∧ L2.Binds K fd ["top", "bottom"] []
  d_order_in : ∃ (f : Addr) (fd : FuncData), mg "order_in" = some (.ref f) ∧ L2.Fun K "order_in" "order_in" st_order_in f fd ∧ L2.Binds K fd ["one", "other"] []
  d_found_ways : ∃ (f : Addr) (fd : FuncData), mg "found_ways" = some (.ref f) ∧ L2.Fun K "found_ways" "found_ways" st_found_ways f fd ∧ L2.Binds K fd ["crates", "bad", "drawn", "number"] []
  d__law_cup : ∃ (f : Addr) (fd : FuncData), mg "_law_cup" = some (.ref f) ∧ L2.Fun K "_law_cup" "_law_cup" st__law_cup f fd ∧ L2.Binds K fd ["script"] []
  d__law_roll : ∃ (f : Addr) (fd : FuncData), mg "_law_roll" = some (.ref f) ∧ L2.Fun K "_law_roll" "_law_roll" st__law_roll f fd ∧ L2.Binds K fd ["cup", "many"] []
  d__law_sort : ∃ (f : Addr) (fd : FuncData), mg "_law_sort" = some (.ref f) ∧ L2.Fun K "_law_sort" "_law_sort" st__law_sort f fd ∧ L2.Binds K fd ["value"] []
  d__law_gcd : ∃ (f : Addr) (fd : FuncData), mg "_law_gcd" = some (.ref f) ∧ L2.Fun K "_law_gcd" "_law_gcd" st__law_gcd f fd ∧ L2.Binds K fd ["one", "other"] []
  d__law_choose : ∃ (f : Addr) (fd : FuncData), mg "_law_choose" = some (.ref f) ∧ L2.Fun K "_law_choose" "_law_choose" st__law_choose f fd ∧ L2.Binds K fd ["many", "some"] []
  d__law_fails : ∃ (f : Addr) (fd : FuncData), mg "_law_fails" = some (.ref f) ∧ L2.Fun K "_law_fails" "_law_fails" st__law_fails f fd ∧ L2.Binds K fd ["call"] []
  d__law_at_most : ∃ (f : Addr) (fd : FuncData), mg "_law_at_most" = some (.ref f) ∧ L2.Fun K "_law_at_most" "_law_at_most" st__law_at_most f fd ∧ L2.Binds K fd ["one", "other"] []
  d__law_at_least : ∃ (f : Addr) (fd : FuncData), mg "_law_at_least" = some (.ref f) ∧ L2.Fun K "_law_at_least" "_law_at_least" st__law_at_least f fd ∧ L2.Binds K fd ["one", "other"] []
  d_need_whole : ∃ (f : Addr) (fd : FuncData), mg "need_whole" = some (.ref f) ∧ L2.Fun K "need_whole" "need_whole" st_need_whole f fd ∧ L2.Binds K fd ["value", "low", "high"] []
  d_is_ratio : ∃ (f : Addr) (fd : FuncData), mg "is_ratio" = some (.ref f) ∧ L2.Fun K "is_ratio" "is_ratio" st_is_ratio f fd ∧ L2.Binds K fd ["value"] []
  d_is_rule_for : ∃ (f : Addr) (fd : FuncData), mg "is_rule_for" = some (.ref f) ∧ L2.Fun K "is_rule_for" "is_rule_for" st_is_rule_for f fd ∧ L2.Binds K fd ["crates", "value"] []
  d_chance_in : ∃ (f : Addr) (fd : FuncData), mg "chance_in" = some (.ref f) ∧ L2.Fun K "chance_in" "chance_in" st_chance_in f fd ∧ L2.Binds K fd ["crates", "bad", "drawn", "most"] []
  d__law_some : ∃ (f : Addr) (fd : FuncData), mg "_law_some" = some (.ref f) ∧ L2.Fun K "_law_some" "_law_some" st__law_some f fd ∧ L2.Binds K fd ["cup", "things"] []
  d__law_like : ∃ (f : Addr) (fd : FuncData), mg "_law_like" = some (.ref f) ∧ L2.Fun K "_law_like" "_law_like" st__law_like f fd ∧ L2.Binds K fd ["one", "other"] []
  d__law_ratio : ∃ (f : Addr) (fd : FuncData), mg "_law_ratio" = some (.ref f) ∧ L2.Fun K "_law_ratio" "_law_ratio" st__law_ratio f fd ∧ L2.Binds K fd ["top", "bottom"] []
  d__law_chance : ∃ (f : Addr) (fd : FuncData), mg "_law_chance" = some (.ref f) ∧ L2.Fun K "_law_chance" "_law_chance" st__law_chance f fd ∧ L2.Binds K fd ["crates", "bad", "rule"] []
  d_need_lot : ∃ (f : Addr) (fd : FuncData), mg "need_lot" = some (.ref f) ∧ L2.Fun K "need_lot" "need_lot" st_need_lot f fd ∧ L2.Binds K fd ["crates", "bad"] []
  d_need_rule : ∃ (f : Addr) (fd : FuncData), mg "need_rule" = some (.ref f) ∧ L2.Fun K "need_rule" "need_rule" st_need_rule f fd ∧ L2.Binds K fd ["crates", "value"] []
  d_need_chance : ∃ (f : Addr) (fd : FuncData), mg "need_chance" = some (.ref f) ∧ L2.Fun K "need_chance" "need_chance" st_need_chance f fd ∧ L2.Binds K fd ["value"] []
  d_is_small : ∃ (f : Addr) (fd : FuncData), mg "is_small" = some (.ref f) ∧ L2.Fun K "is_small" "is_small" st_is_small f fd ∧ L2.Binds K fd ["crates", "bad", "rule", "chance"] []
  d_is_great : ∃ (f : Addr) (fd : FuncData), mg "is_great" = some (.ref f) ∧ L2.Fun K "is_great" "is_great" st_is_great f fd ∧ L2.Binds K fd ["crates", "good", "rule", "chance"] []
  d__law_near : ∃ (f : Addr) (fd : FuncData), mg "_law_near" = some (.ref f) ∧ L2.Fun K "_law_near" "_law_near" st__law_near f fd ∧ L2.Binds K fd ["cup", "pair"] []
  d_checked : ∃ (f : Addr) (fd : FuncData), mg "checked" = some (.ref f) ∧ L2.Fun K "checked" "checked" st_checked f fd ∧ L2.Binds K fd ["crates", "rule", "bad", "chance"] []
  d_least_drawn : ∃ (f : Addr) (fd : FuncData), mg "least_drawn" = some (.ref f) ∧ L2.Fun K "least_drawn" "least_drawn" st_least_drawn f fd ∧ L2.Binds K fd ["crates", "most", "bad", "chance"] []
  d_best_rule : ∃ (f : Addr) (fd : FuncData), mg "best_rule" = some (.ref f) ∧ L2.Fun K "best_rule" "best_rule" st_best_rule f fd ∧ L2.Binds K fd ["crates", "good", "chance", "bad", "other_chance"] []
  d_protects : ∃ (f : Addr) (fd : FuncData), mg "protects" = some (.ref f) ∧ L2.Fun K "protects" "protects" st_protects f fd ∧ L2.Binds K fd ["crates", "rule", "bad", "chance"] []
  d_serves : ∃ (f : Addr) (fd : FuncData), mg "serves" = some (.ref f) ∧ L2.Fun K "serves" "serves" st_serves f fd ∧ L2.Binds K fd ["crates", "rule", "good", "chance"] []
  d__law_least_right : ∃ (f : Addr) (fd : FuncData), mg "_law_least_right" = some (.ref f) ∧ L2.Fun K "_law_least_right" "_law_least_right" st__law_least_right f fd ∧ L2.Binds K fd ["cup", "crates"] []
  d__law_rule_right : ∃ (f : Addr) (fd : FuncData), mg "_law_rule_right" = some (.ref f) ∧ L2.Fun K "_law_rule_right" "_law_rule_right" st__law_rule_right f fd ∧ L2.Binds K fd ["cup", "crates", "rule"] []
  d__law_written : ∃ (f : Addr) (fd : FuncData), mg "_law_written" = some (.ref f) ∧ L2.Fun K "_law_written" "_law_written" st__law_written f fd ∧ L2.Binds K fd [] []
def lamQ (x : Str) (st : Stmt) : Str := (envOfC x (defScope st) 0 0 .none).qual ++ "<lambda>"
structure Lms (base : Heap) (K : PySem.W.Frag) (mg : Str → Option Value) (TT : List (Addr × Str)) : Prop where
  l__ : True
  l__law_errors : ∃ (f : Addr) (fd : FuncData) (c Pt : Addr), mg "_law_errors" = some (.ref f) ∧ FunC K "_law_errors" st__law_errors f fd c ∧ L2.Binds K fd ["cup"] [] ∧ TabB base mg c Pt ∧ (Pt, lamQ "_law_errors" st__law_errors) ∈ TT ∧ ∀ p ∈ TT, p.1 = Pt → p.2 = lamQ "_law_errors" st__law_errors
section
variable {P : Program} {w : World} {K : PySem.W.Frag} {mg : Str → Option Value} {base : Heap} {TT : List (Addr × Str)}
theorem ok_is_whole (T : Tp K mg) (Dd : Df K mg) (S : XcK K mg (zp TT) sub_ 4) (Lm : Lms base K mg TT) : FnD P w K mg base (zp TT) 1 "is_whole" 3 sem_is_whole := by
  obtain ⟨f, fd, hm, F, hb⟩ := Dd.d_is_whole
  refine fnD (k := 0) (Nm := Nm_is_whole) F sc_is_whole hm hb rfl (SemLe.refl _ _) (den := den_is_whole) fun cdv A outer s H E N hr => ?_
  exact pssd_one (psd_ret (pd_and (pd_callB cd_isi (by rfl) T.n_isinstance boot_isinstance nm_isinstance.2.2 nm_isinstance.1 (pda_cons (pd_var (i := 0) rfl (.inl rfl) nm_value.1 nm_value.2.1) (pda_cons (pd_ty (by rfl) T.n_int (boot_int) nm_int.2.2 nm_int.1 rfl) (pda_nil)))) (pd_and (pd_notV (pd_callB cd_isi (by rfl) T.n_isinstance boot_isinstance nm_isinstance.2.2 nm_isinstance.1 (pda_cons (pd_var (i := 0) rfl (.inl rfl) nm_value.1 nm_value.2.1) (pda_cons (pd_ty (by rfl) T.n_bool (boot_bool) nm_bool.2.2 nm_bool.1 rfl) (pda_nil))))) (pd_one (pd_chain od_le od_le (pd_var (i := 1) rfl (.inl rfl) nm_low.1 nm_low.2.1) (pd_var (i := 0) rfl (.inl rfl) nm_value.1 nm_value.2.1) (pd_var (i := 2) rfl (.inl rfl) nm_high.1 nm_high.2.1))))))
theorem ok_is_tuple_of (T : Tp K mg) (Dd : Df K mg) (S : XcK K mg (zp TT) sub_ 4) (Lm : Lms base K mg TT) : FnD P w K mg base (zp TT) 1 "is_tuple_of" 3 sem_is_tuple_of := by
  obtain ⟨f, fd, hm, F, hb⟩ := Dd.d_is_tuple_of
  refine fnD (k := 0) (Nm := Nm_is_tuple_of) F sc_is_tuple_of hm hb rfl (SemLe.refl _ _) (den := den_is_tuple_of) fun cdv A outer s H E N hr => ?_
  exact pssd_one (psd_ret (pd_and (pd_callB cd_isi (by rfl) T.n_isinstance boot_isinstance nm_isinstance.2.2 nm_isinstance.1 (pda_cons (pd_var (i := 0) rfl (.inl rfl) nm_value.1 nm_value.2.1) (pda_cons (pd_ty (by rfl) T.n_tuple (boot_tuple) nm_tuple.2.2 nm_tuple.1 rfl) (pda_nil)))) (pd_one (pd_chain od_le od_le (pd_var (i := 1) rfl (.inl rfl) nm_low.1 nm_low.2.1) (pd_callB cd_len (by rfl) T.n_len boot_len nm_len.2.2 nm_len.1 (pda_cons (pd_var (i := 0) rfl (.inl rfl) nm_value.1 nm_value.2.1) (pda_nil))) (pd_var (i := 2) rfl (.inl rfl) nm_high.1 nm_high.2.1)))))
theorem ok_lowest (T : Tp K mg) (Dd : Df K mg) (S : XcK K mg (zp TT) sub_ 4) (Lm : Lms base K mg TT) : FnD P w K mg base (zp TT) 1 "lowest" 2 sem_lowest := by
  obtain ⟨f, fd, hm, F, hb⟩ := Dd.d_lowest
  refine fnD (k := 0) (Nm := Nm_lowest) F sc_lowest hm hb rfl (SemLe.refl _ _) (den := den_lowest) fun cdv A outer s H E N hr => ?_
  exact pssd_cons (psd_set (i := 2) sc_lowest.nd rfl (.inl rfl) (pd_if (pdt_cmp od_gt (pd_var (i := 1) rfl (.inl rfl) nm_bottom.1 nm_bottom.2.1) (pd_int) (nomark _)) (pd_callI cd_gcd (by rfl) T.i_gcd (pda_cons (pd_var (i := 0) rfl (.inl rfl) nm_top.1 nm_top.2.1) (pda_cons (pd_var (i := 1) rfl (.inl rfl) nm_bottom.1 nm_bottom.2.1) (pda_nil))) nm_gcd.1) (pd_un ud_neg (pd_callI cd_gcd (by rfl) T.i_gcd (pda_cons (pd_var (i := 0) rfl (.inl rfl) nm_top.1 nm_top.2.1) (pda_cons (pd_var (i := 1) rfl (.inl rfl) nm_bottom.1 nm_bottom.2.1) (pda_nil))) nm_gcd.1))) rfl (.inr rfl)) (
  pssd_one (psd_ret (pd_tup (pda_cons (pd_bin od_fdiv (pd_var (i := 0) rfl (.inl rfl) nm_top.1 nm_top.2.1) (pd_var (i := 2) rfl (.inl rfl) nm_shared.1 nm_shared.2.1)) (pda_cons (pd_bin od_fdiv (pd_var (i := 1) rfl (.inl rfl) nm_bottom.1 nm_bottom.2.1) (pd_var (i := 2) rfl (.inl rfl) nm_shared.1 nm_shared.2.1)) (pda_nil))))))
theorem ok_order_in (T : Tp K mg) (Dd : Df K mg) (S : XcK K mg (zp TT) sub_ 4) (Lm : Lms base K mg TT) : FnD P w K mg base (zp TT) 1 "order_in" 2 sem_order_in := by
  obtain ⟨f, fd, hm, F, hb⟩ := Dd.d_order_in
  refine fnD (k := 0) (Nm := Nm_order_in) F sc_order_in hm hb rfl (SemLe.refl _ _) (den := den_order_in) fun cdv A outer s H E N hr => ?_
  exact pssd_cons (psd_par2 rfl sc_order_in.nd rfl rfl (by decide) rfl rfl (pdm_val (pd_bin od_mulA (pd_ix xd_ix (pd_var (i := 0) rfl (.inl rfl) nm_one.1 nm_one.2.1) (pd_int)) (pd_ix xd_ix (pd_var (i := 1) rfl (.inl rfl) nm_other.1 nm_other.2.1) (pd_int))) (pdm_val (pd_bin od_mulA (pd_ix xd_ix (pd_var (i := 1) rfl (.inl rfl) nm_other.1 nm_other.2.1) (pd_int)) (pd_ix xd_ix (pd_var (i := 0) rfl (.inl rfl) nm_one.1 nm_one.2.1) (pd_int))) (pdm_nil))) rfl) (
  pssd_one (psd_ret (pd_bin od_subA (pd_cmp od_gt (pd_var (i := 2) rfl (.inl rfl) nm_left.1 nm_left.2.1) (pd_var (i := 3) rfl (.inl rfl) nm_right.1 nm_right.2.1) (nomark _)) (pd_cmp od_lt (pd_var (i := 2) rfl (.inl rfl) nm_left.1 nm_left.2.1) (pd_var (i := 3) rfl (.inl rfl) nm_right.1 nm_right.2.1) (nomark _)))))
theorem ok_found_ways (T : Tp K mg) (Dd : Df K mg) (S : XcK K mg (zp TT) sub_ 4) (Lm : Lms base K mg TT) : FnD P w K mg base (zp TT) 1 "found_ways" 4 sem_found_ways := by
  obtain ⟨f, fd, hm, F, hb⟩ := Dd.d_found_ways
  refine fnD (k := 0) (Nm := Nm_found_ways) F sc_found_ways hm hb rfl (SemLe.refl _ _) (den := den_found_ways) fun cdv A outer s H E N hr => ?_
  exact pssd_one (psd_ret (pd_if (pdt_chain od_le od_le (pd_int) (pd_var (i := 3) rfl (.inl rfl) nm_number.1 nm_number.2.1) (pd_var (i := 2) rfl (.inl rfl) nm_drawn.1 nm_drawn.2.1)) (pd_bin od_mulA (pd_callI cd_comb (by rfl) T.i_comb (pda_cons (pd_var (i := 1) rfl (.inl rfl) nm_bad.1 nm_bad.2.1) (pda_cons (pd_var (i := 3) rfl (.inl rfl) nm_number.1 nm_number.2.1) (pda_nil))) nm_comb.1) (pd_callI cd_comb (by rfl) T.i_comb (pda_cons (pd_bin od_subA (pd_var (i := 0) rfl (.inl rfl) nm_crates.1 nm_crates.2.1) (pd_var (i := 1) rfl (.inl rfl) nm_bad.1 nm_bad.2.1)) (pda_cons (pd_bin od_subA (pd_var (i := 2) rfl (.inl rfl) nm_drawn.1 nm_drawn.2.1) (pd_var (i := 3) rfl (.inl rfl) nm_number.1 nm_number.2.1)) (pda_nil))) nm_comb.1)) (pd_int)))
theorem ok__law_cup (T : Tp K mg) {f : Addr} {fd : FuncData} (F : L2.Fun K "_law_cup" "_law_cup" st__law_cup f fd) : FnOk P w K mg base (L2N.CX P w) 1 f fd ["script"] (spCup K) := by
  refine okN F sc__law_cup (fun vs H Q E h => ?_) (fun cdv A outer s H vs Q E hr h => ?_)
  · obtain ⟨a, ns, rfl, _⟩ := h
    rfl
  · obtain ⟨a, ns, rfl, hS, hlen, q⟩ := h
    refine ⟨_, pss_cons (ps_set (i := 1) sc__law_cup.nd rfl (.inl rfl) (pe_callB call_abs (by rfl) T.n_abs boot_abs (pa_cons (pe_ix ix_list (pe_op op_cat (pe_callTy call_list_of (by rfl) T.n_list boot_list (pa_cons (pe_var (i := 0) rfl (.inl rfl)) pa_nil)) (pe_lst (pa_cons pe_int pa_nil))) pe_int (fun _ _ => rfl)) pa_nil)))
      (pss_one (ps_ret (pe_lst (pa_cons (pe_ifExp (pt_cmpR op_ge (pe_var (i := 1) rfl (.inl rfl)) (pe_op op_pow pe_int pe_int) (nomark _)) (pe_op op_fdiv (pe_var (i := 1) rfl (.inl rfl)) pe_int) pe_int)
        (pa_cons (pe_op op_add (pe_op op_mod (pe_callTy call_int1 (by rfl) T.n_int boot_int (pa_cons (pe_op op_add (pe_op op_mul (pe_var (i := 1) rfl (.inl rfl)) pe_int) pe_int) pa_nil)) pe_int) pe_int) pa_nil))))), ?_⟩
    exact cup_made hS hlen q
theorem ok__law_roll (T : Tp K mg) (Dd : Df K mg) (S : XcK K mg (zp TT) sub_ 4) (Lm : Lms base K mg TT) : FnD P w K mg base (zp TT) 1 "_law_roll" 2 sem__law_roll := by
  obtain ⟨f, fd, hm, F, hb⟩ := Dd.d__law_roll
  refine fnD (k := 0) (Nm := Nm__law_roll) F sc__law_roll hm hb rfl (SemLe.refl _ _) (den := den__law_roll) fun cdv A outer s H E N hr => ?_
  exact pssd_cons (psd_if (pdt_cmp od_gt (pd_cup (i := 0) (k := 0) rfl (.inl rfl) nm_cup.1 nm_cup.2.1 (by decide)) (pd_int) (nomark _)) (pssd_cons (psd_set (i := 2) sc__law_roll.nd rfl (.inl rfl) (pd_bin od_mod (pd_callTy cd_int (by rfl) T.n_int boot_int nm_int.2.2 nm_int.1 (pda_cons (pd_cup (i := 0) (k := 0) rfl (.inl rfl) nm_cup.1 nm_cup.2.1 (by decide)) (pda_nil))) (pd_var (i := 1) rfl (.inl rfl) nm_many.1 nm_many.2.1)) rfl (.inr rfl)) (
  pssd_cons (psd_cup (i := 0) (k := 0) rfl (.inl rfl) nm_cup.1 nm_cup.2.1 (by decide) (pd_bin od_fdiv (pd_cup (i := 0) (k := 0) rfl (.inl rfl) nm_cup.1 nm_cup.2.1 (by decide)) (pd_var (i := 1) rfl (.inl rfl) nm_many.1 nm_many.2.1))) (
  pssd_one (psd_ret (pd_var (i := 2) rfl (.inl rfl) nm_found.1 nm_found.2.1))))) (pssd_nil)) (
  pssd_cons (psd_cup (i := 0) (k := 1) rfl (.inl rfl) nm_cup.1 nm_cup.2.1 (by decide) (pd_bin od_mod (pd_callTy cd_int (by rfl) T.n_int boot_int nm_int.2.2 nm_int.1 (pda_cons (pd_bin od_addA (pd_bin od_mulA (pd_cup (i := 0) (k := 1) rfl (.inl rfl) nm_cup.1 nm_cup.2.1 (by decide)) (pd_int)) (pd_int)) (pda_nil))) (pd_int))) (
  pssd_cons (psd_set (i := 3) sc__law_roll.nd rfl (.inl rfl) (pd_bin od_mod (pd_callTy cd_int (by rfl) T.n_int boot_int nm_int.2.2 nm_int.1 (pda_cons (pd_bin od_mulA (pd_cup (i := 0) (k := 1) rfl (.inl rfl) nm_cup.1 nm_cup.2.1 (by decide)) (pd_bin od_addA (pd_cup (i := 0) (k := 1) rfl (.inl rfl) nm_cup.1 nm_cup.2.1 (by decide)) (pd_int))) (pda_nil))) (pd_int)) rfl (.inr rfl)) (
  pssd_one (psd_ret (pd_bin od_mod (pd_callTy cd_int (by rfl) T.n_int boot_int nm_int.2.2 nm_int.1 (pda_cons (pd_bin od_fdiv (pd_var (i := 3) rfl (.inl rfl) nm_deep.1 nm_deep.2.1) (pd_int)) (pda_nil))) (pd_var (i := 1) rfl (.inl rfl) nm_many.1 nm_many.2.1))))))
theorem ok__law_sort (T : Tp K mg) (Dd : Df K mg) (S : XcK K mg (zp TT) sub_ 4) (Lm : Lms base K mg TT) : FnD P w K mg base (zp TT) 1 "_law_sort" 1 sem__law_sort := by
  obtain ⟨f, fd, hm, F, hb⟩ := Dd.d__law_sort
  refine fnD (k := 0) (Nm := Nm__law_sort) F sc__law_sort hm hb rfl (SemLe.refl _ _) (den := den__law_sort) fun cdv A outer s H E N hr => ?_
  exact pssd_cons (psd_if (pdw_pt (pdw_or (pdt_cmp od_isN (pd_var (i := 0) rfl (.inl rfl) nm_value.1 nm_value.2.1) (pd_non) (nomark _)) (pdw_or1 (pdt_e (pd_callB cd_isi (by rfl) T.n_isinstance boot_isinstance nm_isinstance.2.2 nm_isinstance.1 (pda_cons (pd_var (i := 0) rfl (.inl rfl) nm_value.1 nm_value.2.1) (pda_cons (pd_ty (by rfl) T.n_bool (boot_bool) nm_bool.2.2 nm_bool.1 rfl) (pda_nil)))))))) (pssd_one (psd_ret (pd_if (pdt_cmp od_isN (pd_var (i := 0) rfl (.inl rfl) nm_value.1 nm_value.2.1) (pd_non) (nomark _)) (pd_int) (pd_int)))) (pssd_nil)) (
  pssd_cons (psd_if (pdw_pt (pdw_or (pdt_e (pd_callB cd_isi (by rfl) T.n_isinstance boot_isinstance nm_isinstance.2.2 nm_isinstance.1 (pda_cons (pd_var (i := 0) rfl (.inl rfl) nm_value.1 nm_value.2.1) (pda_cons (pd_ty (by rfl) T.n_int (boot_int) nm_int.2.2 nm_int.1 rfl) (pda_nil))))) (pdw_or1 (pdt_e (pd_callB cd_isi (by rfl) T.n_isinstance boot_isinstance nm_isinstance.2.2 nm_isinstance.1 (pda_cons (pd_var (i := 0) rfl (.inl rfl) nm_value.1 nm_value.2.1) (pda_cons (pd_ty (by rfl) T.n_str (boot_str) nm_str.2.2 nm_str.1 rfl) (pda_nil)))))))) (pssd_one (psd_ret (pd_if (pdt_e (pd_callB cd_isi (by rfl) T.n_isinstance boot_isinstance nm_isinstance.2.2 nm_isinstance.1 (pda_cons (pd_var (i := 0) rfl (.inl rfl) nm_value.1 nm_value.2.1) (pda_cons (pd_ty (by rfl) T.n_int (boot_int) nm_int.2.2 nm_int.1 rfl) (pda_nil))))) (pd_int) (pd_int)))) (pssd_nil)) (
  pssd_one (psd_ret (pd_if (pdt_e (pd_callB cd_isi (by rfl) T.n_isinstance boot_isinstance nm_isinstance.2.2 nm_isinstance.1 (pda_cons (pd_var (i := 0) rfl (.inl rfl) nm_value.1 nm_value.2.1) (pda_cons (pd_ty (by rfl) T.n_tuple (boot_tuple) nm_tuple.2.2 nm_tuple.1 rfl) (pda_nil))))) (pd_int) (pd_if (pdt_e (pd_callB cd_isi (by rfl) T.n_isinstance boot_isinstance nm_isinstance.2.2 nm_isinstance.1 (pda_cons (pd_var (i := 0) rfl (.inl rfl) nm_value.1 nm_value.2.1) (pda_cons (pd_ty (by rfl) T.n_list (boot_list) nm_list.2.2 nm_list.1 rfl) (pda_nil))))) (pd_int) (pd_int))))))
theorem ok__law_gcd (T : Tp K mg) (Dd : Df K mg) (S : XcK K mg (zp TT) sub_ 4) (Lm : Lms base K mg TT) : FnD P w K mg base (zp TT) 1 "_law_gcd" 2 sem__law_gcd := by
  obtain ⟨f, fd, hm, F, hb⟩ := Dd.d__law_gcd
  refine fnD (k := 0) (Nm := Nm__law_gcd) F sc__law_gcd hm hb rfl (SemLe.refl _ _) (den := den__law_gcd) fun cdv A outer s H E N hr => ?_
  exact pssd_cons (psd_for (is := [2]) (passes_of rfl) rfl (pdi_rng1 (by rfl) T.n_range (pda_cons (pd_int) (pda_nil))) (pgd_name (i := 2) sc__law_gcd.nd rfl (.inl rfl) (.inr rfl)) (pssd_cons (psd_if (pdt_cmp (od_eq hr.units) (pd_var (i := 1) rfl (.inl rfl) nm_other.1 nm_other.2.1) (pd_int) (nomark _)) (pssd_one (psd_ret (pd_var (i := 0) rfl (.inl rfl) nm_one.1 nm_one.2.1))) (pssd_nil)) (
  pssd_one (psd_par2 rfl sc__law_gcd.nd rfl rfl (by decide) rfl rfl (pdm_val (pd_var (i := 1) rfl (.inl rfl) nm_other.1 nm_other.2.1) (pdm_val (pd_bin od_mod (pd_callTy cd_int (by rfl) T.n_int boot_int nm_int.2.2 nm_int.1 (pda_cons (pd_var (i := 0) rfl (.inl rfl) nm_one.1 nm_one.2.1) (pda_nil))) (pd_var (i := 1) rfl (.inl rfl) nm_other.1 nm_other.2.1)) (pdm_nil))) rfl)))) (
  pssd_one (psd_ret (pd_var (i := 0) rfl (.inl rfl) nm_one.1 nm_one.2.1)))
theorem ok__law_choose (T : Tp K mg) (Dd : Df K mg) (S : XcK K mg (zp TT) sub_ 4) (Lm : Lms base K mg TT) : FnD P w K mg base (zp TT) 1 "_law_choose" 2 sem__law_choose := by
  obtain ⟨f, fd, hm, F, hb⟩ := Dd.d__law_choose
  refine fnD (k := 0) (Nm := Nm__law_choose) F sc__law_choose hm hb rfl (SemLe.refl _ _) (den := den__law_choose) fun cdv A outer s H E N hr => ?_
  exact pssd_cons (psd_set (i := 2) sc__law_choose.nd rfl (.inl rfl) (pd_int) rfl (.inr rfl)) (
  pssd_cons (psd_for (is := [3]) (passes_of rfl) rfl (pdi_rng1 (by rfl) T.n_range (pda_cons (pd_var (i := 1) rfl (.inl rfl) nm_some.1 nm_some.2.1) (pda_nil))) (pgd_name (i := 3) sc__law_choose.nd rfl (.inl rfl) (.inr rfl)) (pssd_one (psd_set (i := 2) sc__law_choose.nd rfl (.inl rfl) (pd_bin od_fdiv (pd_bin od_mulA (pd_var (i := 2) rfl (.inl rfl) nm_found.1 nm_found.2.1) (pd_bin od_subA (pd_var (i := 0) rfl (.inl rfl) nm_many.1 nm_many.2.1) (pd_var (i := 3) rfl (.inl rfl) nm_at.1 nm_at.2.1))) (pd_bin od_addA (pd_var (i := 3) rfl (.inl rfl) nm_at.1 nm_at.2.1) (pd_int))) rfl (.inr rfl)))) (
  pssd_one (psd_ret (pd_if (pdt_chain od_le od_le (pd_int) (pd_var (i := 1) rfl (.inl rfl) nm_some.1 nm_some.2.1) (pd_var (i := 0) rfl (.inl rfl) nm_many.1 nm_many.2.1)) (pd_var (i := 2) rfl (.inl rfl) nm_found.1 nm_found.2.1) (pd_int)))))
theorem get__law_fails (T : Tp K mg) (Dd : Df K mg) (S : XcK K mg (zp TT) sub_ 4) (Lm : Lms base K mg TT) : GetD K mg (zp TT) "_law_fails" "call" sem__law_fails := by
  obtain ⟨g, fd, hm, F, hb⟩ := Dd.d__law_fails
  obtain ⟨oc, od, kV, doc, pm, an, cdv, ct, osl, rfl, lk, hcd⟩ := F.ex
  obtain ⟨C_HallError, x_HallError⟩ := T.x_HallError
  obtain ⟨C_InvalidNumber, x_InvalidNumber⟩ := T.x_InvalidNumber
  obtain ⟨C_InvalidRatio, x_InvalidRatio⟩ := T.x_InvalidRatio
  obtain ⟨C_InvalidRule, x_InvalidRule⟩ := T.x_InvalidRule
  refine ⟨g, _, _, _, _, kV, doc, pm, cdv, ct, oc, an, od, osl, Nm__law_fails, hm, F.kp, lk, hcd, hb, sc__law_fails, rfl, .inl rfl, fun X hK hmg q => ?_⟩
  subst hK hmg
  exact gets_try (n := 6) (ie := 1) (fun _ => rfl) (fun _ => rfl) sc__law_fails.nd rfl (by decide) (fun _ _ => rfl) (fun _ _ => rfl) nm_HallError.1 x_HallError.gm (catch_of S (by decide) x_HallError.gm fun k hk => sub_lt k _ hk)
    (fun N s H a C oe pn x_ hx hC zn hf room => by
      have hlt := sub_lt _ _ hx
      exact pssd_cons (psd_own (i := 2) sc__law_fails.nd rfl (.inl rfl) (pdo_lst (pda_nil)) rfl (.inr rfl)) (
  pssd_cons (psd_app (i := 2) rfl (.inl rfl) nm_some.1 nm_some.2.1 (pda_cons (pd_tup (pda_cons (pd_str) (pda_cons (pd_isx (i := 1) (k := 1) S hlt (by decide) hC zn hf (by rfl) T.n_isinstance rfl (.inl rfl) nm_e.1 nm_e.2.1 (by rfl) x_InvalidNumber.gm rfl nm_InvalidNumber.1) (pda_nil)))) (pda_nil))) (
  pssd_cons (psd_app (i := 2) rfl (.inl rfl) nm_some.1 nm_some.2.1 (pda_cons (pd_tup (pda_cons (pd_str) (pda_cons (pd_isx (i := 1) (k := 3) S hlt (by decide) hC zn hf (by rfl) T.n_isinstance rfl (.inl rfl) nm_e.1 nm_e.2.1 (by rfl) x_InvalidRule.gm rfl nm_InvalidRule.1) (pda_nil)))) (pda_nil))) (
  pssd_cons (psd_app (i := 2) rfl (.inl rfl) nm_some.1 nm_some.2.1 (pda_cons (pd_tup (pda_cons (pd_str) (pda_cons (pd_isx (i := 1) (k := 2) S hlt (by decide) hC zn hf (by rfl) T.n_isinstance rfl (.inl rfl) nm_e.1 nm_e.2.1 (by rfl) x_InvalidRatio.gm rfl nm_InvalidRatio.1) (pda_nil)))) (pda_nil))) (
  pssd_cons (psd_setLcX (i := 3) (own := [("word", 4), ("good", 5)]) (is := [4, 5]) (hot_suite zn hf) sc__law_fails.nd rfl rfl (sw_true rfl rfl rfl (by decide +kernel)) (pix_lst (pd_var (i := 2) rfl (.inl rfl) nm_some.1 nm_some.2.1)) (blkOk_by (N := Nm__law_fails) (sc := (defScope st__law_fails)) (by decide +kernel)) (fun s H C cl fp HB => pgd_tupX HB (pgsd_cons (pgd_name (i := 4) sc__law_fails.nd rfl (.inl rfl) (.inr rfl)) (pgsd_cons (pgd_name (i := 5) sc__law_fails.nd rfl (.inl rfl) (.inr rfl)) (pgsd_nil))) rfl) (fun s H C cl fp HB => pts_one (pdt_e (pd_var (i := 5) rfl (.inl rfl) nm_good.1 nm_good.2.1))) (fun s H C cl fp HB => pd_var (i := 4) rfl (.inl rfl) nm_word.1 nm_word.2.1) (by decide)) (
  pssd_one (psd_ret (pd_if (pdt_cmp (od_ne (un64H room)) (pd_var (i := 3) rfl (.inl rfl) nm_words.1 nm_words.2.1) (pdo_pd (pdo_lst (pda_nil)) dLst_lst) (nomark _)) (pd_join (pda_cons (pd_var (i := 3) rfl (.inl rfl) nm_words.1 nm_words.2.1) (pda_nil))) (pd_str)))))))))
    (fun N s H => pssd_one (psd_ret (pd_str)))
theorem ok__law_at_most (T : Tp K mg) (Dd : Df K mg) (S : XcK K mg (zp TT) sub_ 4) (Lm : Lms base K mg TT) : FnD P w K mg base (zp TT) 1 "_law_at_most" 2 sem__law_at_most := by
  obtain ⟨f, fd, hm, F, hb⟩ := Dd.d__law_at_most
  refine fnD (k := 0) (Nm := Nm__law_at_most) F sc__law_at_most hm hb rfl (SemLe.refl _ _) (den := den__law_at_most) fun cdv A outer s H E N hr => ?_
  exact pssd_one (psd_ret (pd_cmp od_le (pd_bin od_mulA (pd_ix xd_ix (pd_var (i := 0) rfl (.inl rfl) nm_one.1 nm_one.2.1) (pd_int)) (pd_ix xd_ix (pd_var (i := 1) rfl (.inl rfl) nm_other.1 nm_other.2.1) (pd_int))) (pd_bin od_mulA (pd_ix xd_ix (pd_var (i := 1) rfl (.inl rfl) nm_other.1 nm_other.2.1) (pd_int)) (pd_ix xd_ix (pd_var (i := 0) rfl (.inl rfl) nm_one.1 nm_one.2.1) (pd_int))) (nomark _)))
theorem ok__law_at_least (T : Tp K mg) (Dd : Df K mg) (S : XcK K mg (zp TT) sub_ 4) (Lm : Lms base K mg TT) : FnD P w K mg base (zp TT) 1 "_law_at_least" 2 sem__law_at_least := by
  obtain ⟨f, fd, hm, F, hb⟩ := Dd.d__law_at_least
  refine fnD (k := 0) (Nm := Nm__law_at_least) F sc__law_at_least hm hb rfl (SemLe.refl _ _) (den := den__law_at_least) fun cdv A outer s H E N hr => ?_
  exact pssd_one (psd_ret (pd_cmp od_ge (pd_bin od_mulA (pd_ix xd_ix (pd_var (i := 0) rfl (.inl rfl) nm_one.1 nm_one.2.1) (pd_int)) (pd_ix xd_ix (pd_var (i := 1) rfl (.inl rfl) nm_other.1 nm_other.2.1) (pd_int))) (pd_bin od_mulA (pd_ix xd_ix (pd_var (i := 1) rfl (.inl rfl) nm_other.1 nm_other.2.1) (pd_int)) (pd_ix xd_ix (pd_var (i := 0) rfl (.inl rfl) nm_one.1 nm_one.2.1) (pd_int))) (nomark _)))
theorem ok_need_whole (T : Tp K mg) (Dd : Df K mg) (S : XcK K mg (zp TT) sub_ 4) (Lm : Lms base K mg TT) : FnD P w K mg base (zp TT) 2 "need_whole" 3 sem_need_whole := by
  obtain ⟨f, fd, hm, F, hb⟩ := Dd.d_need_whole
  refine fnD (k := 1) (Nm := Nm_need_whole) F sc_need_whole hm hb rfl (SemLe.refl _ _) (den := den_need_whole) fun cdv A outer s H E N hr => ?_
  exact pssd_one (psd_if (pdt_not (pdt_e (pd_call (ok_is_whole T Dd S Lm) (hr.mono (by decide)) (by rfl) (L2N.takes_of rfl rfl rfl rfl) (pda_cons (pd_var (i := 0) rfl (.inl rfl) nm_value.1 nm_value.2.1) (pda_cons (pd_var (i := 1) rfl (.inl rfl) nm_low.1 nm_low.2.1) (pda_cons (pd_var (i := 2) rfl (.inl rfl) nm_high.1 nm_high.2.1) (pda_nil)))) rfl nm_is_whole.1))) (pssd_one ((T.x_InvalidNumber).elim fun _ z => psd_raise rfl (L2N.takes_of rfl rfl rfl rfl) z (by rfl) rfl nm_InvalidNumber.1)) (pssd_nil))
theorem ok_is_ratio (T : Tp K mg) (Dd : Df K mg) (S : XcK K mg (zp TT) sub_ 4) (Lm : Lms base K mg TT) : FnD P w K mg base (zp TT) 2 "is_ratio" 1 sem_is_ratio := by
  obtain ⟨f, fd, hm, F, hb⟩ := Dd.d_is_ratio
  refine fnD (k := 1) (Nm := Nm_is_ratio) F sc_is_ratio hm hb rfl (SemLe.refl _ _) (den := den_is_ratio) fun cdv A outer s H E N hr => ?_
  exact pssd_cons (psd_if (pdw_pt (pdw_or (pdt_not (pdt_e (pd_call (ok_is_tuple_of T Dd S Lm) (hr.mono (by decide)) (by rfl) (L2N.takes_of rfl rfl rfl rfl) (pda_cons (pd_var (i := 0) rfl (.inl rfl) nm_value.1 nm_value.2.1) (pda_cons (pd_int) (pda_cons (pd_int) (pda_nil)))) rfl nm_is_tuple_of.1))) (pdw_or (pdt_not (pdt_e (pd_call (ok_is_whole T Dd S Lm) (hr.mono (by decide)) (by rfl) (L2N.takes_of rfl rfl rfl rfl) (pda_cons (pd_ix xd_ix (pd_var (i := 0) rfl (.inl rfl) nm_value.1 nm_value.2.1) (pd_int)) (pda_cons (pd_un ud_neg (pd_gk (by rfl) T.k_GREAT (fun _ _ => .int _) nm_GREAT.1)) (pda_cons (pd_gk (by rfl) T.k_GREAT (fun _ _ => .int _) nm_GREAT.1) (pda_nil)))) rfl nm_is_whole.1))) (pdw_or1 (pdt_not (pdt_e (pd_call (ok_is_whole T Dd S Lm) (hr.mono (by decide)) (by rfl) (L2N.takes_of rfl rfl rfl rfl) (pda_cons (pd_ix xd_ix (pd_var (i := 0) rfl (.inl rfl) nm_value.1 nm_value.2.1) (pd_int)) (pda_cons (pd_int) (pda_cons (pd_gk (by rfl) T.k_GREAT (fun _ _ => .int _) nm_GREAT.1) (pda_nil)))) rfl nm_is_whole.1))))))) (pssd_one (psd_ret (pd_bl))) (pssd_nil)) (
  pssd_one (psd_ret (pd_cmp (od_eq hr.units) (pd_callI cd_gcd (by rfl) T.i_gcd (pda_cons (pd_ix xd_ix (pd_var (i := 0) rfl (.inl rfl) nm_value.1 nm_value.2.1) (pd_int)) (pda_cons (pd_ix xd_ix (pd_var (i := 0) rfl (.inl rfl) nm_value.1 nm_value.2.1) (pd_int)) (pda_nil))) nm_gcd.1) (pd_int) (nomark _))))
theorem ok_is_rule_for (T : Tp K mg) (Dd : Df K mg) (S : XcK K mg (zp TT) sub_ 4) (Lm : Lms base K mg TT) : FnD P w K mg base (zp TT) 2 "is_rule_for" 2 sem_is_rule_for := by
  obtain ⟨f, fd, hm, F, hb⟩ := Dd.d_is_rule_for
  refine fnD (k := 1) (Nm := Nm_is_rule_for) F sc_is_rule_for hm hb rfl (SemLe.refl _ _) (den := den_is_rule_for) fun cdv A outer s H E N hr => ?_
  exact pssd_one (psd_ret (pd_and (pd_call (ok_is_tuple_of T Dd S Lm) (hr.mono (by decide)) (by rfl) (L2N.takes_of rfl rfl rfl rfl) (pda_cons (pd_var (i := 1) rfl (.inl rfl) nm_value.1 nm_value.2.1) (pda_cons (pd_int) (pda_cons (pd_int) (pda_nil)))) rfl nm_is_tuple_of.1) (pd_and (pd_call (ok_is_whole T Dd S Lm) (hr.mono (by decide)) (by rfl) (L2N.takes_of rfl rfl rfl rfl) (pda_cons (pd_ix xd_ix (pd_var (i := 1) rfl (.inl rfl) nm_value.1 nm_value.2.1) (pd_int)) (pda_cons (pd_int) (pda_cons (pd_var (i := 0) rfl (.inl rfl) nm_crates.1 nm_crates.2.1) (pda_nil)))) rfl nm_is_whole.1) (pd_one (pd_call (ok_is_whole T Dd S Lm) (hr.mono (by decide)) (by rfl) (L2N.takes_of rfl rfl rfl rfl) (pda_cons (pd_ix xd_ix (pd_var (i := 1) rfl (.inl rfl) nm_value.1 nm_value.2.1) (pd_int)) (pda_cons (pd_int) (pda_cons (pd_ix xd_ix (pd_var (i := 1) rfl (.inl rfl) nm_value.1 nm_value.2.1) (pd_int)) (pda_nil)))) rfl nm_is_whole.1)))))
theorem ok_chance_in (T : Tp K mg) (Dd : Df K mg) (S : XcK K mg (zp TT) sub_ 4) (Lm : Lms base K mg TT) : FnD P w K mg base (zp TT) 2 "chance_in" 4 sem_chance_in := by
  obtain ⟨f, fd, hm, F, hb⟩ := Dd.d_chance_in
  refine fnD (k := 1) (Nm := Nm_chance_in) F sc_chance_in hm hb rfl (SemLe.refl _ _) (den := den_chance_in) fun cdv A outer s H E N hr => ?_
  exact pssd_cons (psd_set (i := 4) sc_chance_in.nd rfl (.inl rfl) (pd_callB (cd_sum rfl) (by rfl) T.n_sum boot_sum nm_sum.2.2 nm_sum.1 (pda_cons (pdo_pd (pdo_lc (own := [("number", 5)]) (is := [5]) rfl sc_chance_in.nd (pdi_rng1 (by rfl) T.n_range (pda_cons (pd_bin od_addA (pd_var (i := 3) rfl (.inl rfl) nm_most.1 nm_most.2.1) (pd_int)) (pda_nil))) (blkOk_by (N := Nm_chance_in) (sc := (defScope st_chance_in)) (by decide +kernel)) (fun s H C cl fp => pgd_name (i := 5) sc_chance_in.nd rfl (.inl rfl) (.inr rfl)) (fun s H C cl fp => pts_yes) (fun s H C cl fp => pd_call (ok_found_ways T Dd S Lm) (hr.mono (by decide)) (by rfl) takesN0 (pda_cons (pd_var (i := 0) rfl (by first | exact .inr (.inl rfl) | exact .inr (.inr rfl)) nm_crates.1 nm_crates.2.1) (pda_cons (pd_var (i := 1) rfl (by first | exact .inr (.inl rfl) | exact .inr (.inr rfl)) nm_bad.1 nm_bad.2.1) (pda_cons (pd_var (i := 2) rfl (by first | exact .inr (.inl rfl) | exact .inr (.inr rfl)) nm_drawn.1 nm_drawn.2.1) (pda_cons (pd_var (i := 5) rfl (.inl rfl) nm_number.1 nm_number.2.1) (pda_nil))))) rfl nm_found_ways.1) (by decide)) dComp_lst) (pda_nil))) rfl (.inr rfl)) (
  pssd_one (psd_ret (pd_call (ok_lowest T Dd S Lm) (hr.mono (by decide)) (by rfl) (L2N.takes_of rfl rfl rfl rfl) (pda_cons (pd_var (i := 4) rfl (.inl rfl) nm_ways.1 nm_ways.2.1) (pda_cons (pd_callI cd_comb (by rfl) T.i_comb (pda_cons (pd_var (i := 0) rfl (.inr (.inl rfl)) nm_crates.1 nm_crates.2.1) (pda_cons (pd_var (i := 2) rfl (.inr (.inl rfl)) nm_drawn.1 nm_drawn.2.1) (pda_nil))) nm_comb.1) (pda_nil))) rfl nm_lowest.1)))
theorem ok__law_some (T : Tp K mg) (Dd : Df K mg) (S : XcK K mg (zp TT) sub_ 4) (Lm : Lms base K mg TT) : FnD P w K mg base (zp TT) 2 "_law_some" 2 sem__law_some := by
  obtain ⟨f, fd, hm, F, hb⟩ := Dd.d__law_some
  refine fnD (k := 1) (Nm := Nm__law_some) F sc__law_some hm hb rfl (SemLe.refl _ _) (den := den__law_some) fun cdv A outer s H E N hr => ?_
  exact pssd_one (psd_ret (pd_ix xd_ix (pd_var (i := 1) rfl (.inl rfl) nm_things.1 nm_things.2.1) (pd_call (ok__law_roll T Dd S Lm) (hr.mono (by decide)) (by rfl) (L2N.takes_of rfl rfl rfl rfl) (pda_cons (pd_var (i := 0) rfl (.inl rfl) nm_cup.1 nm_cup.2.1) (pda_cons (pd_callB cd_len (by rfl) T.n_len boot_len nm_len.2.2 nm_len.1 (pda_cons (pd_var (i := 1) rfl (.inl rfl) nm_things.1 nm_things.2.1) (pda_nil))) (pda_nil))) rfl nm__law_roll.1)))
theorem ok__law_like (T : Tp K mg) (Dd : Df K mg) (S : XcK K mg (zp TT) sub_ 4) (Lm : Lms base K mg TT) : ∀ k : Nat, FnD P w K mg base (zp TT) (1 + k) "_law_like" 2 (sem__law_like k)
  | 0 => by
    obtain ⟨f, fd, hm, F, hb⟩ := Dd.d__law_like
    exact fnD_none F sc__law_like hm hb rfl
  | k + 1 => by
    have Fself := ok__law_like T Dd S Lm k
    obtain ⟨f, fd, hm, F, hb⟩ := Dd.d__law_like
    refine fnD (k := 1 + k) (Nm := Nm__law_like) F sc__law_like hm hb rfl (SemLe.refl _ _) (den := den__law_like (sem__law_like k)) fun cdv A outer s H E N hr => ?_
    exact pssd_cons (psd_set (i := 2) sc__law_like.nd rfl (.inl rfl) (pd_call (ok__law_sort T Dd S Lm) (hr.mono (by omega)) (by rfl) (L2N.takes_of rfl rfl rfl rfl) (pda_cons (pd_var (i := 1) rfl (.inl rfl) nm_other.1 nm_other.2.1) (pda_nil)) rfl nm__law_sort.1) rfl (.inr rfl)) (
  pssd_cons (psd_if (pdw_pt (pdw_or (pdt_cmp (od_ne hr.units) (pd_call (ok__law_sort T Dd S Lm) (hr.mono (by omega)) (by rfl) (L2N.takes_of rfl rfl rfl rfl) (pda_cons (pd_var (i := 0) rfl (.inl rfl) nm_one.1 nm_one.2.1) (pda_nil)) rfl nm__law_sort.1) (pd_var (i := 2) rfl (.inl rfl) nm_sort.1 nm_sort.2.1) (nomark _)) (pdw_or1 (pdt_cmp (od_eq hr.units) (pd_var (i := 2) rfl (.inl rfl) nm_sort.1 nm_sort.2.1) (pd_int) (nomark _))))) (pssd_one (psd_ret (pd_bl))) (pssd_nil)) (
  pssd_cons (psd_if (pdt_cmp (od_mem (units65 hr)) (pd_var (i := 2) rfl (.inl rfl) nm_sort.1 nm_sort.2.1) (pd_tup (pda_cons (pd_int) (pda_cons (pd_int) (pda_nil)))) (by rfl)) (pssd_one (psd_ret (pd_and (pd_cmp (od_eq hr.units) (pd_callB cd_len (by rfl) T.n_len boot_len nm_len.2.2 nm_len.1 (pda_cons (pd_var (i := 0) rfl (.inl rfl) nm_one.1 nm_one.2.1) (pda_nil))) (pd_callB cd_len (by rfl) T.n_len boot_len nm_len.2.2 nm_len.1 (pda_cons (pd_var (i := 1) rfl (.inl rfl) nm_other.1 nm_other.2.1) (pda_nil))) (nomark _)) (pd_one (pd_cmp (od_eq hr.units) (pdo_pd (pdo_lc (own := [("first", 3), ("second", 4)]) (is := [3, 4]) rfl sc__law_like.nd (pdi_zip (by rfl) T.n_zip (pda_cons (pd_var (i := 0) rfl (.inl rfl) nm_one.1 nm_one.2.1) (pda_cons (pd_var (i := 1) rfl (.inl rfl) nm_other.1 nm_other.2.1) (pda_nil)))) (blkOk_by (N := Nm__law_like) (sc := (defScope st__law_like)) (by decide +kernel)) (fun s H C cl fp => pgd_tup rfl (pgsd_cons (pgd_name (i := 3) sc__law_like.nd rfl (.inl rfl) (.inr rfl)) (pgsd_cons (pgd_name (i := 4) sc__law_like.nd rfl (.inl rfl) (.inr rfl)) (pgsd_nil))) rfl) (fun s H C cl fp => pts_one (pdt_not (pdt_e (pd_call Fself (hr.mono (by omega)) (by rfl) takesN0 (pda_cons (pd_var (i := 3) rfl (.inl rfl) nm_first.1 nm_first.2.1) (pda_cons (pd_var (i := 4) rfl (.inl rfl) nm_second.1 nm_second.2.1) (pda_nil))) rfl nm__law_like.1)))) (fun s H C cl fp => pd_int) (by decide)) dComp_lst) (pdo_pd (pdo_lst (pda_nil)) dLst_lst) (nomark _)))))) (pssd_nil)) (
  pssd_one (psd_ret (pd_cmp (od_eq hr.units) (pd_var (i := 0) rfl (.inl rfl) nm_one.1 nm_one.2.1) (pd_var (i := 1) rfl (.inl rfl) nm_other.1 nm_other.2.1) (nomark _))))))
theorem ok__law_ratio (T : Tp K mg) (Dd : Df K mg) (S : XcK K mg (zp TT) sub_ 4) (Lm : Lms base K mg TT) : FnD P w K mg base (zp TT) 2 "_law_ratio" 2 sem__law_ratio := by
  obtain ⟨f, fd, hm, F, hb⟩ := Dd.d__law_ratio
  refine fnD (k := 1) (Nm := Nm__law_ratio) F sc__law_ratio hm hb rfl (SemLe.refl _ _) (den := den__law_ratio) fun cdv A outer s H E N hr => ?_
  exact pssd_cons (psd_set (i := 2) sc__law_ratio.nd rfl (.inl rfl) (pd_call (ok__law_gcd T Dd S Lm) (hr.mono (by decide)) (by rfl) (L2N.takes_of rfl rfl rfl rfl) (pda_cons (pd_var (i := 0) rfl (.inl rfl) nm_top.1 nm_top.2.1) (pda_cons (pd_var (i := 1) rfl (.inl rfl) nm_bottom.1 nm_bottom.2.1) (pda_nil))) rfl nm__law_gcd.1) rfl (.inr rfl)) (
  pssd_one (psd_ret (pd_tup (pda_cons (pd_bin od_fdiv (pd_var (i := 0) rfl (.inl rfl) nm_top.1 nm_top.2.1) (pd_var (i := 2) rfl (.inl rfl) nm_shared.1 nm_shared.2.1)) (pda_cons (pd_bin od_fdiv (pd_var (i := 1) rfl (.inl rfl) nm_bottom.1 nm_bottom.2.1) (pd_var (i := 2) rfl (.inl rfl) nm_shared.1 nm_shared.2.1)) (pda_nil))))))
theorem ok__law_chance (T : Tp K mg) (Dd : Df K mg) (S : XcK K mg (zp TT) sub_ 4) (Lm : Lms base K mg TT) : FnD P w K mg base (zp TT) 2 "_law_chance" 3 sem__law_chance := by
  obtain ⟨f, fd, hm, F, hb⟩ := Dd.d__law_chance
  refine fnD (k := 1) (Nm := Nm__law_chance) F sc__law_chance hm hb rfl (SemLe.refl _ _) (den := den__law_chance) fun cdv A outer s H E N hr => ?_
  exact pssd_cons (psd_set (i := 3) sc__law_chance.nd rfl (.inl rfl) (pd_int) rfl (.inr rfl)) (
  pssd_cons (psd_for (is := [4]) (passes_of rfl) rfl (pdi_rng1 (by rfl) T.n_range (pda_cons (pd_bin od_addA (pd_ix xd_ix (pd_var (i := 2) rfl (.inl rfl) nm_rule.1 nm_rule.2.1) (pd_int)) (pd_int)) (pda_nil))) (pgd_name (i := 4) sc__law_chance.nd rfl (.inl rfl) (.inr rfl)) (pssd_one (psd_set (i := 3) sc__law_chance.nd rfl (.inl rfl) (pd_bin od_addA (pd_var (i := 3) rfl (.inl rfl) nm_ways.1 nm_ways.2.1) (pd_bin od_mulA (pd_call (ok__law_choose T Dd S Lm) (hr.mono (by decide)) (by rfl) (L2N.takes_of rfl rfl rfl rfl) (pda_cons (pd_var (i := 1) rfl (.inl rfl) nm_bad.1 nm_bad.2.1) (pda_cons (pd_var (i := 4) rfl (.inl rfl) nm_number.1 nm_number.2.1) (pda_nil))) rfl nm__law_choose.1) (pd_call (ok__law_choose T Dd S Lm) (hr.mono (by decide)) (by rfl) (L2N.takes_of rfl rfl rfl rfl) (pda_cons (pd_bin od_subA (pd_var (i := 0) rfl (.inl rfl) nm_crates.1 nm_crates.2.1) (pd_var (i := 1) rfl (.inl rfl) nm_bad.1 nm_bad.2.1)) (pda_cons (pd_bin od_subA (pd_ix xd_ix (pd_var (i := 2) rfl (.inl rfl) nm_rule.1 nm_rule.2.1) (pd_int)) (pd_var (i := 4) rfl (.inl rfl) nm_number.1 nm_number.2.1)) (pda_nil))) rfl nm__law_choose.1))) rfl (.inr rfl)))) (
  pssd_one (psd_ret (pd_tup (pda_cons (pd_var (i := 3) rfl (.inl rfl) nm_ways.1 nm_ways.2.1) (pda_cons (pd_call (ok__law_choose T Dd S Lm) (hr.mono (by decide)) (by rfl) (L2N.takes_of rfl rfl rfl rfl) (pda_cons (pd_var (i := 0) rfl (.inl rfl) nm_crates.1 nm_crates.2.1) (pda_cons (pd_ix xd_ix (pd_var (i := 2) rfl (.inl rfl) nm_rule.1 nm_rule.2.1) (pd_int)) (pda_nil))) rfl nm__law_choose.1) (pda_nil)))))))
theorem ok_need_lot (T : Tp K mg) (Dd : Df K mg) (S : XcK K mg (zp TT) sub_ 4) (Lm : Lms base K mg TT) : FnD P w K mg base (zp TT) 3 "need_lot" 2 sem_need_lot := by
  obtain ⟨f, fd, hm, F, hb⟩ := Dd.d_need_lot
  refine fnD (k := 2) (Nm := Nm_need_lot) F sc_need_lot hm hb rfl (SemLe.refl _ _) (den := den_need_lot) fun cdv A outer s H E N hr => ?_
  exact pssd_cons (psd_expr (pd_call (ok_need_whole T Dd S Lm) (hr.mono (by decide)) (by rfl) (L2N.takes_of rfl rfl rfl rfl) (pda_cons (pd_var (i := 0) rfl (.inl rfl) nm_crates.1 nm_crates.2.1) (pda_cons (pd_int) (pda_cons (pd_gk (by rfl) T.k_CRATES (fun _ _ => .int _) nm_CRATES.1) (pda_nil)))) rfl nm_need_whole.1)) (
  pssd_one (psd_expr (pd_call (ok_need_whole T Dd S Lm) (hr.mono (by decide)) (by rfl) (L2N.takes_of rfl rfl rfl rfl) (pda_cons (pd_var (i := 1) rfl (.inl rfl) nm_bad.1 nm_bad.2.1) (pda_cons (pd_int) (pda_cons (pd_var (i := 0) rfl (.inl rfl) nm_crates.1 nm_crates.2.1) (pda_nil)))) rfl nm_need_whole.1)))
theorem ok_need_rule (T : Tp K mg) (Dd : Df K mg) (S : XcK K mg (zp TT) sub_ 4) (Lm : Lms base K mg TT) : FnD P w K mg base (zp TT) 3 "need_rule" 2 sem_need_rule := by
  obtain ⟨f, fd, hm, F, hb⟩ := Dd.d_need_rule
  refine fnD (k := 2) (Nm := Nm_need_rule) F sc_need_rule hm hb rfl (SemLe.refl _ _) (den := den_need_rule) fun cdv A outer s H E N hr => ?_
  exact pssd_one (psd_if (pdt_not (pdt_e (pd_call (ok_is_rule_for T Dd S Lm) (hr.mono (by decide)) (by rfl) (L2N.takes_of rfl rfl rfl rfl) (pda_cons (pd_var (i := 0) rfl (.inl rfl) nm_crates.1 nm_crates.2.1) (pda_cons (pd_var (i := 1) rfl (.inl rfl) nm_value.1 nm_value.2.1) (pda_nil))) rfl nm_is_rule_for.1))) (pssd_one ((T.x_InvalidRule).elim fun _ z => psd_raise rfl (L2N.takes_of rfl rfl rfl rfl) z (by rfl) rfl nm_InvalidRule.1)) (pssd_nil))
theorem ok_need_chance (T : Tp K mg) (Dd : Df K mg) (S : XcK K mg (zp TT) sub_ 4) (Lm : Lms base K mg TT) : FnD P w K mg base (zp TT) 3 "need_chance" 1 sem_need_chance := by
  obtain ⟨f, fd, hm, F, hb⟩ := Dd.d_need_chance
  refine fnD (k := 2) (Nm := Nm_need_chance) F sc_need_chance hm hb rfl (SemLe.refl _ _) (den := den_need_chance) fun cdv A outer s H E N hr => ?_
  exact pssd_one (psd_if (pdw_pt (pdw_or (pdt_not (pdt_e (pd_call (ok_is_ratio T Dd S Lm) (hr.mono (by decide)) (by rfl) (L2N.takes_of rfl rfl rfl rfl) (pda_cons (pd_var (i := 0) rfl (.inl rfl) nm_value.1 nm_value.2.1) (pda_nil)) rfl nm_is_ratio.1))) (pdw_or1 (pdt_not (pdt_chain od_le od_le (pd_int) (pd_ix xd_ix (pd_var (i := 0) rfl (.inl rfl) nm_value.1 nm_value.2.1) (pd_int)) (pd_ix xd_ix (pd_var (i := 0) rfl (.inl rfl) nm_value.1 nm_value.2.1) (pd_int))))))) (pssd_one ((T.x_InvalidRatio).elim fun _ z => psd_raise rfl (L2N.takes_of rfl rfl rfl rfl) z (by rfl) rfl nm_InvalidRatio.1)) (pssd_nil))
theorem ok_is_small (T : Tp K mg) (Dd : Df K mg) (S : XcK K mg (zp TT) sub_ 4) (Lm : Lms base K mg TT) : FnD P w K mg base (zp TT) 3 "is_small" 4 sem_is_small := by
  obtain ⟨f, fd, hm, F, hb⟩ := Dd.d_is_small
  refine fnD (k := 2) (Nm := Nm_is_small) F sc_is_small hm hb rfl (SemLe.refl _ _) (den := den_is_small) fun cdv A outer s H E N hr => ?_
  exact pssd_one (psd_ret (pd_cmp od_le (pd_call (ok_order_in T Dd S Lm) (hr.mono (by decide)) (by rfl) (L2N.takes_of rfl rfl rfl rfl) (pda_cons (pd_call (ok_chance_in T Dd S Lm) (hr.mono (by decide)) (by rfl) (L2N.takes_of rfl rfl rfl rfl) (pda_cons (pd_var (i := 0) rfl (.inl rfl) nm_crates.1 nm_crates.2.1) (pda_cons (pd_var (i := 1) rfl (.inl rfl) nm_bad.1 nm_bad.2.1) (pda_cons (pd_ix xd_ix (pd_var (i := 2) rfl (.inl rfl) nm_rule.1 nm_rule.2.1) (pd_int)) (pda_cons (pd_ix xd_ix (pd_var (i := 2) rfl (.inl rfl) nm_rule.1 nm_rule.2.1) (pd_int)) (pda_nil))))) rfl nm_chance_in.1) (pda_cons (pd_var (i := 3) rfl (.inl rfl) nm_chance.1 nm_chance.2.1) (pda_nil))) rfl nm_order_in.1) (pd_int) (nomark _)))
theorem ok_is_great (T : Tp K mg) (Dd : Df K mg) (S : XcK K mg (zp TT) sub_ 4) (Lm : Lms base K mg TT) : FnD P w K mg base (zp TT) 3 "is_great" 4 sem_is_great := by
  obtain ⟨f, fd, hm, F, hb⟩ := Dd.d_is_great
  refine fnD (k := 2) (Nm := Nm_is_great) F sc_is_great hm hb rfl (SemLe.refl _ _) (den := den_is_great) fun cdv A outer s H E N hr => ?_
  exact pssd_one (psd_ret (pd_cmp od_ge (pd_call (ok_order_in T Dd S Lm) (hr.mono (by decide)) (by rfl) (L2N.takes_of rfl rfl rfl rfl) (pda_cons (pd_call (ok_chance_in T Dd S Lm) (hr.mono (by decide)) (by rfl) (L2N.takes_of rfl rfl rfl rfl) (pda_cons (pd_var (i := 0) rfl (.inl rfl) nm_crates.1 nm_crates.2.1) (pda_cons (pd_var (i := 1) rfl (.inl rfl) nm_good.1 nm_good.2.1) (pda_cons (pd_ix xd_ix (pd_var (i := 2) rfl (.inl rfl) nm_rule.1 nm_rule.2.1) (pd_int)) (pda_cons (pd_ix xd_ix (pd_var (i := 2) rfl (.inl rfl) nm_rule.1 nm_rule.2.1) (pd_int)) (pda_nil))))) rfl nm_chance_in.1) (pda_cons (pd_var (i := 3) rfl (.inl rfl) nm_chance.1 nm_chance.2.1) (pda_nil))) rfl nm_order_in.1) (pd_int) (nomark _)))
theorem ok__law_near (T : Tp K mg) (Dd : Df K mg) (S : XcK K mg (zp TT) sub_ 4) (Lm : Lms base K mg TT) : FnD P w K mg base (zp TT) 3 "_law_near" 2 sem__law_near := by
  obtain ⟨f, fd, hm, F, hb⟩ := Dd.d__law_near
  refine fnD (k := 2) (Nm := Nm__law_near) F sc__law_near hm hb rfl (SemLe.refl _ _) (den := den__law_near) fun cdv A outer s H E N hr => ?_
  exact pssd_cons (psd_tgt (is := [2, 3]) (pd_var (i := 1) rfl (.inl rfl) nm_pair.1 nm_pair.2.1) (pgd_tup rfl (pgsd_cons (pgd_name (i := 2) sc__law_near.nd rfl (.inl rfl) (.inr rfl)) (pgsd_cons (pgd_name (i := 3) sc__law_near.nd rfl (.inl rfl) (.inr rfl)) (pgsd_nil))) rfl)) (
  pssd_cons (psd_set (i := 4) sc__law_near.nd rfl (.inl rfl) (pdo_pd (pdo_lst (pda_cons (pd_var (i := 1) rfl (.inl rfl) nm_pair.1 nm_pair.2.1) (pda_cons (pd_tup (pda_cons (pd_bin od_addA (pd_bin od_mulA (pd_var (i := 2) rfl (.inl rfl) nm_top.1 nm_top.2.1) (pd_int)) (pd_int)) (pda_cons (pd_bin od_mulA (pd_var (i := 3) rfl (.inl rfl) nm_bottom.1 nm_bottom.2.1) (pd_int)) (pda_nil)))) (pda_cons (pd_tup (pda_cons (pd_callB (cd_max2 rfl) (by rfl) T.n_max boot_max nm_max.2.2 nm_max.1 (pda_cons (pd_int) (pda_cons (pd_bin od_subA (pd_bin od_mulA (pd_var (i := 2) rfl (.inl rfl) nm_top.1 nm_top.2.1) (pd_int)) (pd_int)) (pda_nil)))) (pda_cons (pd_bin od_mulA (pd_var (i := 3) rfl (.inl rfl) nm_bottom.1 nm_bottom.2.1) (pd_int)) (pda_nil)))) (pda_nil))))) dLst_lst) rfl (.inr rfl)) (
  pssd_cons (psd_set (i := 5) sc__law_near.nd rfl (.inl rfl) (pd_call (ok__law_some T Dd S Lm) (hr.mono (by decide)) (by rfl) (L2N.takes_of rfl rfl rfl rfl) (pda_cons (pd_var (i := 0) rfl (.inl rfl) nm_cup.1 nm_cup.2.1) (pda_cons (pd_bin od_addA (pd_var (i := 4) rfl (.inl rfl) nm_some.1 nm_some.2.1) (pdo_pd (pdo_lst (pda_cons (pd_tup (pda_cons (pd_int) (pda_cons (pd_int) (pda_nil)))) (pda_cons (pd_tup (pda_cons (pd_int) (pda_cons (pd_int) (pda_nil)))) (pda_cons (pd_tup (pda_cons (pd_int) (pda_cons (pd_int) (pda_nil)))) (pda_cons (pd_tup (pda_cons (pd_int) (pda_cons (pd_int) (pda_nil)))) (pda_cons (pd_tup (pda_cons (pd_int) (pda_cons (pd_int) (pda_nil)))) (pda_nil))))))) dLst_lst)) (pda_nil))) rfl nm__law_some.1) rfl (.inr rfl)) (
  pssd_one (psd_ret (pd_call (ok__law_ratio T Dd S Lm) (hr.mono (by decide)) (by rfl) (L2N.takes_of rfl rfl rfl rfl) (pda_cons (pd_callB (cd_min2 rfl) (by rfl) T.n_min boot_min nm_min.2.2 nm_min.1 (pda_cons (pd_ix xd_ix (pd_var (i := 5) rfl (.inl rfl) nm_found.1 nm_found.2.1) (pd_int)) (pda_cons (pd_ix xd_ix (pd_var (i := 5) rfl (.inl rfl) nm_found.1 nm_found.2.1) (pd_int)) (pda_nil)))) (pda_cons (pd_ix xd_ix (pd_var (i := 5) rfl (.inl rfl) nm_found.1 nm_found.2.1) (pd_int)) (pda_nil))) rfl nm__law_ratio.1)))))
theorem ok_checked (T : Tp K mg) (Dd : Df K mg) (S : XcK K mg (zp TT) sub_ 4) (Lm : Lms base K mg TT) : FnD P w K mg base (zp TT) 4 "checked" 4 sem_checked := by
  obtain ⟨f, fd, hm, F, hb⟩ := Dd.d_checked
  refine fnD (k := 3) (Nm := Nm_checked) F sc_checked hm hb rfl (SemLe.refl _ _) (den := den_checked) fun cdv A outer s H E N hr => ?_
  exact pssd_cons (psd_expr (pd_call (ok_need_whole T Dd S Lm) (hr.mono (by decide)) (by rfl) (L2N.takes_of rfl rfl rfl rfl) (pda_cons (pd_var (i := 0) rfl (.inl rfl) nm_crates.1 nm_crates.2.1) (pda_cons (pd_int) (pda_cons (pd_gk (by rfl) T.k_CRATES (fun _ _ => .int _) nm_CRATES.1) (pda_nil)))) rfl nm_need_whole.1)) (
  pssd_cons (psd_expr (pd_call (ok_need_rule T Dd S Lm) (hr.mono (by decide)) (by rfl) (L2N.takes_of rfl rfl rfl rfl) (pda_cons (pd_var (i := 0) rfl (.inl rfl) nm_crates.1 nm_crates.2.1) (pda_cons (pd_var (i := 1) rfl (.inl rfl) nm_rule.1 nm_rule.2.1) (pda_nil))) rfl nm_need_rule.1)) (
  pssd_cons (psd_expr (pd_call (ok_need_whole T Dd S Lm) (hr.mono (by decide)) (by rfl) (L2N.takes_of rfl rfl rfl rfl) (pda_cons (pd_var (i := 2) rfl (.inl rfl) nm_bad.1 nm_bad.2.1) (pda_cons (pd_int) (pda_cons (pd_var (i := 0) rfl (.inl rfl) nm_crates.1 nm_crates.2.1) (pda_nil)))) rfl nm_need_whole.1)) (
  pssd_one (psd_expr (pd_call (ok_need_chance T Dd S Lm) (hr.mono (by decide)) (by rfl) (L2N.takes_of rfl rfl rfl rfl) (pda_cons (pd_var (i := 3) rfl (.inl rfl) nm_chance.1 nm_chance.2.1) (pda_nil)) rfl nm_need_chance.1)))))
theorem ok_least_drawn (T : Tp K mg) (Dd : Df K mg) (S : XcK K mg (zp TT) sub_ 4) (Lm : Lms base K mg TT) : FnD P w K mg base (zp TT) 4 "least_drawn" 4 sem_least_drawn := by
  obtain ⟨f, fd, hm, F, hb⟩ := Dd.d_least_drawn
  refine fnD (k := 3) (Nm := Nm_least_drawn) F sc_least_drawn hm hb rfl (SemLe.refl _ _) (den := den_least_drawn) fun cdv A outer s H E N hr => ?_
  exact pssd_cons (psd_expr (pd_call (ok_need_whole T Dd S Lm) (hr.mono (by decide)) (by rfl) (L2N.takes_of rfl rfl rfl rfl) (pda_cons (pd_var (i := 0) rfl (.inr (.inl rfl)) nm_crates.1 nm_crates.2.1) (pda_cons (pd_int) (pda_cons (pd_gk (by rfl) T.k_CRATES (fun _ _ => .int _) nm_CRATES.1) (pda_nil)))) rfl nm_need_whole.1)) (
  pssd_cons (psd_expr (pd_call (ok_need_whole T Dd S Lm) (hr.mono (by decide)) (by rfl) (L2N.takes_of rfl rfl rfl rfl) (pda_cons (pd_var (i := 1) rfl (.inr (.inl rfl)) nm_most.1 nm_most.2.1) (pda_cons (pd_int) (pda_cons (pd_var (i := 0) rfl (.inr (.inl rfl)) nm_crates.1 nm_crates.2.1) (pda_nil)))) rfl nm_need_whole.1)) (
  pssd_cons (psd_expr (pd_call (ok_need_whole T Dd S Lm) (hr.mono (by decide)) (by rfl) (L2N.takes_of rfl rfl rfl rfl) (pda_cons (pd_var (i := 2) rfl (.inr (.inl rfl)) nm_bad.1 nm_bad.2.1) (pda_cons (pd_int) (pda_cons (pd_var (i := 0) rfl (.inr (.inl rfl)) nm_crates.1 nm_crates.2.1) (pda_nil)))) rfl nm_need_whole.1)) (
  pssd_cons (psd_expr (pd_call (ok_need_chance T Dd S Lm) (hr.mono (by decide)) (by rfl) (L2N.takes_of rfl rfl rfl rfl) (pda_cons (pd_var (i := 3) rfl (.inr (.inl rfl)) nm_chance.1 nm_chance.2.1) (pda_nil)) rfl nm_need_chance.1)) (
  pssd_cons (psd_setLc (i := 4) (own := [("drawn", 5)]) (is := [5]) rfl sc_least_drawn.nd rfl rfl (sw_true rfl rfl rfl (by decide +kernel)) (pdi_rng2 (by rfl) T.n_range (pda_cons (pd_var (i := 1) rfl (.inr (.inl rfl)) nm_most.1 nm_most.2.1) (pda_cons (pd_bin od_addA (pd_var (i := 0) rfl (.inr (.inl rfl)) nm_crates.1 nm_crates.2.1) (pd_int)) (pda_nil)))) (blkOk_by (N := Nm_least_drawn) (sc := (defScope st_least_drawn)) (by decide +kernel)) (fun s H C cl fp => pgd_name (i := 5) sc_least_drawn.nd rfl (.inl rfl) (.inr rfl)) (fun s H C cl fp => pts_one (pdt_e (pd_call (ok_is_small T Dd S Lm) (hr.mono (by decide)) (by rfl) takesN0 (pda_cons (pd_var (i := 0) rfl (by first | exact .inr (.inl rfl) | exact .inr (.inr rfl)) nm_crates.1 nm_crates.2.1) (pda_cons (pd_var (i := 2) rfl (by first | exact .inr (.inl rfl) | exact .inr (.inr rfl)) nm_bad.1 nm_bad.2.1) (pda_cons (pd_tup (pda_cons (pd_var (i := 5) rfl (.inl rfl) nm_drawn.1 nm_drawn.2.1) (pda_cons (pd_var (i := 1) rfl (by first | exact .inr (.inl rfl) | exact .inr (.inr rfl)) nm_most.1 nm_most.2.1) (pda_nil)))) (pda_cons (pd_var (i := 3) rfl (by first | exact .inr (.inl rfl) | exact .inr (.inr rfl)) nm_chance.1 nm_chance.2.1) (pda_nil))))) rfl nm_is_small.1))) (fun s H C cl fp => pd_var (i := 5) rfl (.inl rfl) nm_drawn.1 nm_drawn.2.1) (by decide)) (
  pssd_one (psd_ret (pd_if (pdt_cmp (od_ne hr.units) (pd_var (i := 4) rfl (.inl rfl) nm_found.1 nm_found.2.1) (pdo_pd (pdo_lst (pda_nil)) dLst_lst) (nomark _)) (pd_ix xd_ix (pd_var (i := 4) rfl (.inl rfl) nm_found.1 nm_found.2.1) (pd_int)) (pd_non))))))))
theorem ok_best_rule (T : Tp K mg) (Dd : Df K mg) (S : XcK K mg (zp TT) sub_ 4) (Lm : Lms base K mg TT) : FnD P w K mg base (zp TT) 4 "best_rule" 5 sem_best_rule := by
  obtain ⟨f, fd, hm, F, hb⟩ := Dd.d_best_rule
  refine fnD (k := 3) (Nm := Nm_best_rule) F sc_best_rule hm hb rfl (SemLe.refl _ _) (den := den_best_rule) fun cdv A outer s H E N hr => ?_
  exact pssd_cons (psd_expr (pd_call (ok_need_lot T Dd S Lm) (hr.mono (by decide)) (by rfl) (L2N.takes_of rfl rfl rfl rfl) (pda_cons (pd_var (i := 0) rfl (.inl rfl) nm_crates.1 nm_crates.2.1) (pda_cons (pd_var (i := 1) rfl (.inl rfl) nm_good.1 nm_good.2.1) (pda_nil))) rfl nm_need_lot.1)) (
  pssd_cons (psd_expr (pd_call (ok_need_chance T Dd S Lm) (hr.mono (by decide)) (by rfl) (L2N.takes_of rfl rfl rfl rfl) (pda_cons (pd_var (i := 2) rfl (.inl rfl) nm_chance.1 nm_chance.2.1) (pda_nil)) rfl nm_need_chance.1)) (
  pssd_cons (psd_expr (pd_call (ok_need_whole T Dd S Lm) (hr.mono (by decide)) (by rfl) (L2N.takes_of rfl rfl rfl rfl) (pda_cons (pd_var (i := 3) rfl (.inl rfl) nm_bad.1 nm_bad.2.1) (pda_cons (pd_int) (pda_cons (pd_var (i := 0) rfl (.inl rfl) nm_crates.1 nm_crates.2.1) (pda_nil)))) rfl nm_need_whole.1)) (
  pssd_cons (psd_expr (pd_call (ok_need_chance T Dd S Lm) (hr.mono (by decide)) (by rfl) (L2N.takes_of rfl rfl rfl rfl) (pda_cons (pd_var (i := 4) rfl (.inl rfl) nm_other_chance.1 nm_other_chance.2.1) (pda_nil)) rfl nm_need_chance.1)) (
  pssd_cons (psd_for (is := [5]) (passes_of rfl) rfl (pdi_rng1 (by rfl) T.n_range (pda_cons (pd_bin od_addA (pd_var (i := 0) rfl (.inl rfl) nm_crates.1 nm_crates.2.1) (pd_int)) (pda_nil))) (pgd_name (i := 5) sc_best_rule.nd rfl (.inl rfl) (.inr rfl)) (pssd_one (psd_for (is := [6]) (passes_of rfl) rfl (pdi_rng1 (by rfl) T.n_range (pda_cons (pd_bin od_addA (pd_var (i := 5) rfl (.inl rfl) nm_drawn.1 nm_drawn.2.1) (pd_int)) (pda_nil))) (pgd_name (i := 6) sc_best_rule.nd rfl (.inl rfl) (.inr rfl)) (pssd_cons (psd_set (i := 7) sc_best_rule.nd rfl (.inl rfl) (pd_tup (pda_cons (pd_var (i := 5) rfl (.inl rfl) nm_drawn.1 nm_drawn.2.1) (pda_cons (pd_var (i := 6) rfl (.inl rfl) nm_most.1 nm_most.2.1) (pda_nil)))) rfl (.inr rfl)) (
  pssd_one (psd_if (pdw_pt (pdw_and (pdt_e (pd_call (ok_is_great T Dd S Lm) (hr.mono (by decide)) (by rfl) (L2N.takes_of rfl rfl rfl rfl) (pda_cons (pd_var (i := 0) rfl (.inl rfl) nm_crates.1 nm_crates.2.1) (pda_cons (pd_var (i := 1) rfl (.inl rfl) nm_good.1 nm_good.2.1) (pda_cons (pd_var (i := 7) rfl (.inl rfl) nm_rule.1 nm_rule.2.1) (pda_cons (pd_var (i := 2) rfl (.inl rfl) nm_chance.1 nm_chance.2.1) (pda_nil))))) rfl nm_is_great.1)) (pdw_and1 (pdt_e (pd_call (ok_is_small T Dd S Lm) (hr.mono (by decide)) (by rfl) (L2N.takes_of rfl rfl rfl rfl) (pda_cons (pd_var (i := 0) rfl (.inl rfl) nm_crates.1 nm_crates.2.1) (pda_cons (pd_var (i := 3) rfl (.inl rfl) nm_bad.1 nm_bad.2.1) (pda_cons (pd_var (i := 7) rfl (.inl rfl) nm_rule.1 nm_rule.2.1) (pda_cons (pd_var (i := 4) rfl (.inl rfl) nm_other_chance.1 nm_other_chance.2.1) (pda_nil))))) rfl nm_is_small.1))))) (pssd_one (psd_ret (pd_var (i := 7) rfl (.inl rfl) nm_rule.1 nm_rule.2.1))) (pssd_nil))))))) (
  pssd_one (psd_ret (pd_non)))))))
theorem ok_protects (T : Tp K mg) (Dd : Df K mg) (S : XcK K mg (zp TT) sub_ 4) (Lm : Lms base K mg TT) : FnD P w K mg base (zp TT) 5 "protects" 4 sem_protects := by
  obtain ⟨f, fd, hm, F, hb⟩ := Dd.d_protects
  refine fnD (k := 4) (Nm := Nm_protects) F sc_protects hm hb rfl (SemLe.refl _ _) (den := den_protects) fun cdv A outer s H E N hr => ?_
  exact pssd_cons (psd_expr (pd_call (ok_checked T Dd S Lm) (hr.mono (by decide)) (by rfl) (L2N.takes_of rfl rfl rfl rfl) (pda_cons (pd_var (i := 0) rfl (.inl rfl) nm_crates.1 nm_crates.2.1) (pda_cons (pd_var (i := 1) rfl (.inl rfl) nm_rule.1 nm_rule.2.1) (pda_cons (pd_var (i := 2) rfl (.inl rfl) nm_bad.1 nm_bad.2.1) (pda_cons (pd_var (i := 3) rfl (.inl rfl) nm_chance.1 nm_chance.2.1) (pda_nil))))) rfl nm_checked.1)) (
  pssd_one (psd_ret (pd_call (ok_is_small T Dd S Lm) (hr.mono (by decide)) (by rfl) (L2N.takes_of rfl rfl rfl rfl) (pda_cons (pd_var (i := 0) rfl (.inl rfl) nm_crates.1 nm_crates.2.1) (pda_cons (pd_var (i := 2) rfl (.inl rfl) nm_bad.1 nm_bad.2.1) (pda_cons (pd_var (i := 1) rfl (.inl rfl) nm_rule.1 nm_rule.2.1) (pda_cons (pd_var (i := 3) rfl (.inl rfl) nm_chance.1 nm_chance.2.1) (pda_nil))))) rfl nm_is_small.1)))
theorem ok_serves (T : Tp K mg) (Dd : Df K mg) (S : XcK K mg (zp TT) sub_ 4) (Lm : Lms base K mg TT) : FnD P w K mg base (zp TT) 5 "serves" 4 sem_serves := by
  obtain ⟨f, fd, hm, F, hb⟩ := Dd.d_serves
  refine fnD (k := 4) (Nm := Nm_serves) F sc_serves hm hb rfl (SemLe.refl _ _) (den := den_serves) fun cdv A outer s H E N hr => ?_
  exact pssd_cons (psd_expr (pd_call (ok_checked T Dd S Lm) (hr.mono (by decide)) (by rfl) (L2N.takes_of rfl rfl rfl rfl) (pda_cons (pd_var (i := 0) rfl (.inl rfl) nm_crates.1 nm_crates.2.1) (pda_cons (pd_var (i := 1) rfl (.inl rfl) nm_rule.1 nm_rule.2.1) (pda_cons (pd_var (i := 2) rfl (.inl rfl) nm_good.1 nm_good.2.1) (pda_cons (pd_var (i := 3) rfl (.inl rfl) nm_chance.1 nm_chance.2.1) (pda_nil))))) rfl nm_checked.1)) (
  pssd_one (psd_ret (pd_call (ok_is_great T Dd S Lm) (hr.mono (by decide)) (by rfl) (L2N.takes_of rfl rfl rfl rfl) (pda_cons (pd_var (i := 0) rfl (.inl rfl) nm_crates.1 nm_crates.2.1) (pda_cons (pd_var (i := 2) rfl (.inl rfl) nm_good.1 nm_good.2.1) (pda_cons (pd_var (i := 1) rfl (.inl rfl) nm_rule.1 nm_rule.2.1) (pda_cons (pd_var (i := 3) rfl (.inl rfl) nm_chance.1 nm_chance.2.1) (pda_nil))))) rfl nm_is_great.1)))
theorem ok__law_least_right (T : Tp K mg) (Dd : Df K mg) (S : XcK K mg (zp TT) sub_ 4) (Lm : Lms base K mg TT) : FnD P w K mg base (zp TT) 43 "_law_least_right" 2 sem__law_least_right := by
  obtain ⟨f, fd, hm, F, hb⟩ := Dd.d__law_least_right
  refine fnD (k := 42) (Nm := Nm__law_least_right) F sc__law_least_right hm hb rfl (SemLe.refl _ _) (den := den__law_least_right) fun cdv A outer s H E N hr => ?_
  exact pssd_cons (psd_tgt (is := [2, 3, 4]) (pdo_pd (pdo_lc (own := [("turn", 15)]) (is := [15]) rfl sc__law_least_right.nd (pdi_rng1 (by rfl) T.n_range (pda_cons (pd_int) (pda_nil))) (blkOk_by (N := Nm__law_least_right) (sc := (defScope st__law_least_right)) (by decide +kernel)) (fun s H C cl fp => pgd_name (i := 15) sc__law_least_right.nd rfl (.inl rfl) (.inr rfl)) (fun s H C cl fp => pts_yes) (fun s H C cl fp => pd_call (ok__law_roll T Dd S Lm) (hr.mono (by decide)) (by rfl) takesN0 (pda_cons (pd_var (i := 0) rfl (by first | exact .inr (.inl rfl) | exact .inr (.inr rfl)) nm_cup.1 nm_cup.2.1) (pda_cons (pd_bin od_addA (pd_var (i := 1) rfl (by first | exact .inr (.inl rfl) | exact .inr (.inr rfl)) nm_crates.1 nm_crates.2.1) (pd_int)) (pda_nil))) rfl nm__law_roll.1) (by decide)) dComp_lst) (pgd_lst rfl (pgsd_cons (pgd_name (i := 2) sc__law_least_right.nd rfl (.inr rfl) (.inl rfl)) (pgsd_cons (pgd_name (i := 3) sc__law_least_right.nd rfl (.inl rfl) (.inr rfl)) (pgsd_cons (pgd_name (i := 4) sc__law_least_right.nd rfl (.inl rfl) (.inr rfl)) (pgsd_nil)))) rfl)) (
  pssd_cons (psd_set (i := 5) sc__law_least_right.nd rfl (.inr rfl) (pd_callB (cd_min2 rfl) (by rfl) T.n_min boot_min nm_min.2.2 nm_min.1 (pda_cons (pd_var (i := 1) rfl (.inr (.inl rfl)) nm_crates.1 nm_crates.2.1) (pda_cons (pd_call (ok__law_some T Dd S Lm) (hr.mono (by decide)) (by rfl) (L2N.takes_of rfl rfl rfl rfl) (pda_cons (pd_var (i := 0) rfl (.inr (.inl rfl)) nm_cup.1 nm_cup.2.1) (pda_cons (pdo_pd (pdo_lst (pda_cons (pd_int) (pda_cons (pd_int) (pda_cons (pd_int) (pda_cons (pd_int) (pda_cons (pd_call (ok__law_roll T Dd S Lm) (hr.mono (by decide)) (by rfl) (L2N.takes_of rfl rfl rfl rfl) (pda_cons (pd_var (i := 0) rfl (.inr (.inl rfl)) nm_cup.1 nm_cup.2.1) (pda_cons (pd_bin od_addA (pd_var (i := 1) rfl (.inr (.inl rfl)) nm_crates.1 nm_crates.2.1) (pd_int)) (pda_nil))) rfl nm__law_roll.1) (pda_nil))))))) dLst_lst) (pda_nil))) rfl nm__law_some.1) (pda_nil)))) rfl (.inl rfl)) (
  pssd_cons (psd_set (i := 6) sc__law_least_right.nd rfl (.inr rfl) (pd_call (ok__law_near T Dd S Lm) (hr.mono (by decide)) (by rfl) (L2N.takes_of rfl rfl rfl rfl) (pda_cons (pd_var (i := 0) rfl (.inr (.inl rfl)) nm_cup.1 nm_cup.2.1) (pda_cons (pd_call (ok__law_chance T Dd S Lm) (hr.mono (by decide)) (by rfl) (L2N.takes_of rfl rfl rfl rfl) (pda_cons (pd_var (i := 1) rfl (.inr (.inl rfl)) nm_crates.1 nm_crates.2.1) (pda_cons (pd_var (i := 2) rfl (.inr (.inl rfl)) nm_bad.1 nm_bad.2.1) (pda_cons (pd_tup (pda_cons (pd_callB (cd_max2 rfl) (by rfl) T.n_max boot_max nm_max.2.2 nm_max.1 (pda_cons (pd_var (i := 4) rfl (.inl rfl) nm_drawn.1 nm_drawn.2.1) (pda_cons (pd_var (i := 5) rfl (.inr (.inl rfl)) nm_most.1 nm_most.2.1) (pda_nil)))) (pda_cons (pd_var (i := 5) rfl (.inr (.inl rfl)) nm_most.1 nm_most.2.1) (pda_nil)))) (pda_nil)))) rfl nm__law_chance.1) (pda_nil))) rfl nm__law_near.1) rfl (.inl rfl)) (
  pssd_cons (psd_setLc (i := 8) (own := [("many", 7)]) (is := [7]) rfl sc__law_least_right.nd rfl rfl (sw_true rfl rfl rfl (by decide +kernel)) (pdi_rng2 (by rfl) T.n_range (pda_cons (pd_var (i := 5) rfl (.inr (.inl rfl)) nm_most.1 nm_most.2.1) (pda_cons (pd_bin od_addA (pd_var (i := 1) rfl (.inr (.inl rfl)) nm_crates.1 nm_crates.2.1) (pd_int)) (pda_nil)))) (blkOk_by (N := Nm__law_least_right) (sc := (defScope st__law_least_right)) (by decide +kernel)) (fun s H C cl fp => pgd_name (i := 7) sc__law_least_right.nd rfl (.inl rfl) (.inr rfl)) (fun s H C cl fp => pts_one (pdt_e (pd_call (ok__law_at_most T Dd S Lm) (hr.mono (by decide)) (by rfl) takesN0 (pda_cons (pd_call (ok__law_chance T Dd S Lm) (hr.mono (by decide)) (by rfl) takesN0 (pda_cons (pd_var (i := 1) rfl (by first | exact .inr (.inl rfl) | exact .inr (.inr rfl)) nm_crates.1 nm_crates.2.1) (pda_cons (pd_var (i := 2) rfl (by first | exact .inr (.inl rfl) | exact .inr (.inr rfl)) nm_bad.1 nm_bad.2.1) (pda_cons (pd_tup (pda_cons (pd_var (i := 7) rfl (.inl rfl) nm_many.1 nm_many.2.1) (pda_cons (pd_var (i := 5) rfl (by first | exact .inr (.inl rfl) | exact .inr (.inr rfl)) nm_most.1 nm_most.2.1) (pda_nil)))) (pda_nil)))) rfl nm__law_chance.1) (pda_cons (pd_var (i := 6) rfl (by first | exact .inr (.inl rfl) | exact .inr (.inr rfl)) nm_chance.1 nm_chance.2.1) (pda_nil))) rfl nm__law_at_most.1))) (fun s H C cl fp => pd_var (i := 7) rfl (.inl rfl) nm_many.1 nm_many.2.1) (by decide)) (
  pssd_cons (psd_if (pdt_not (pdt_e (pd_call (ok__law_like T Dd S Lm 40) (hr.mono (by decide)) (by rfl) (L2N.takes_of rfl rfl rfl rfl) (pda_cons (pd_call (ok_least_drawn T Dd S Lm) (hr.mono (by decide)) (by rfl) (L2N.takes_of rfl rfl rfl rfl) (pda_cons (pd_var (i := 1) rfl (.inr (.inl rfl)) nm_crates.1 nm_crates.2.1) (pda_cons (pd_var (i := 5) rfl (.inr (.inl rfl)) nm_most.1 nm_most.2.1) (pda_cons (pd_var (i := 2) rfl (.inr (.inl rfl)) nm_bad.1 nm_bad.2.1) (pda_cons (pd_var (i := 6) rfl (.inr (.inl rfl)) nm_chance.1 nm_chance.2.1) (pda_nil))))) rfl nm_least_drawn.1) (pda_cons (pd_if (pdt_cmp (od_ne hr.units) (pd_var (i := 8) rfl (.inl rfl) nm_due.1 nm_due.2.1) (pdo_pd (pdo_lst (pda_nil)) dLst_lst) (nomark _)) (pd_ix xd_ix (pd_var (i := 8) rfl (.inl rfl) nm_due.1 nm_due.2.1) (pd_int)) (pd_non)) (pda_nil))) rfl nm__law_like.1))) (pssd_one (psd_ret (pd_bl))) (pssd_nil)) (
  pssd_cons (psd_par2 rfl sc__law_least_right.nd rfl rfl (by decide) rfl rfl (pdm_val (pd_call (ok__law_near T Dd S Lm) (hr.mono (by decide)) (by rfl) (L2N.takes_of rfl rfl rfl rfl) (pda_cons (pd_var (i := 0) rfl (.inr (.inl rfl)) nm_cup.1 nm_cup.2.1) (pda_cons (pd_call (ok__law_chance T Dd S Lm) (hr.mono (by decide)) (by rfl) (L2N.takes_of rfl rfl rfl rfl) (pda_cons (pd_var (i := 1) rfl (.inr (.inl rfl)) nm_crates.1 nm_crates.2.1) (pda_cons (pd_var (i := 3) rfl (.inl rfl) nm_good.1 nm_good.2.1) (pda_cons (pd_tup (pda_cons (pd_var (i := 4) rfl (.inl rfl) nm_drawn.1 nm_drawn.2.1) (pda_cons (pd_bin od_fdiv (pd_var (i := 4) rfl (.inl rfl) nm_drawn.1 nm_drawn.2.1) (pd_int)) (pda_nil)))) (pda_nil)))) rfl nm__law_chance.1) (pda_nil))) rfl nm__law_near.1) (pdm_val (pd_var (i := 6) rfl (.inr (.inl rfl)) nm_chance.1 nm_chance.2.1) (pdm_nil))) rfl) (
  pssd_cons (psd_own (i := 11) sc__law_least_right.nd rfl (.inl rfl) (pdo_lst (pda_nil)) rfl (.inr rfl)) (
  pssd_cons (psd_for (is := [7]) (passes_of rfl) rfl (pdi_rng1 (by rfl) T.n_range (pda_cons (pd_bin od_addA (pd_var (i := 1) rfl (.inr (.inl rfl)) nm_crates.1 nm_crates.2.1) (pd_int)) (pda_nil))) (pgd_name (i := 7) sc__law_least_right.nd rfl (.inl rfl) (.inr rfl)) (pssd_one (psd_for (is := [12]) (passes_of rfl) rfl (pdi_rng1 (by rfl) T.n_range (pda_cons (pd_bin od_addA (pd_var (i := 7) rfl (.inl rfl) nm_many.1 nm_many.2.1) (pd_int)) (pda_nil))) (pgd_name (i := 12) sc__law_least_right.nd rfl (.inl rfl) (.inr rfl)) (pssd_cons (psd_set (i := 13) sc__law_least_right.nd rfl (.inl rfl) (pd_tup (pda_cons (pd_var (i := 7) rfl (.inl rfl) nm_many.1 nm_many.2.1) (pda_cons (pd_var (i := 12) rfl (.inl rfl) nm_limit.1 nm_limit.2.1) (pda_nil)))) rfl (.inr rfl)) (
  pssd_cons (psd_set (i := 14) sc__law_least_right.nd rfl (.inl rfl) (pd_and (pd_cmp (od_eq hr.units) (pd_var (i := 11) rfl (.inl rfl) nm_rules.1 nm_rules.2.1) (pdo_pd (pdo_lst (pda_nil)) dLst_lst) (nomark _)) (pd_one (pd_call (ok__law_at_least T Dd S Lm) (hr.mono (by decide)) (by rfl) (L2N.takes_of rfl rfl rfl rfl) (pda_cons (pd_call (ok__law_chance T Dd S Lm) (hr.mono (by decide)) (by rfl) (L2N.takes_of rfl rfl rfl rfl) (pda_cons (pd_var (i := 1) rfl (.inr (.inl rfl)) nm_crates.1 nm_crates.2.1) (pda_cons (pd_var (i := 3) rfl (.inl rfl) nm_good.1 nm_good.2.1) (pda_cons (pd_var (i := 13) rfl (.inl rfl) nm_rule.1 nm_rule.2.1) (pda_nil)))) rfl nm__law_chance.1) (pda_cons (pd_var (i := 9) rfl (.inl rfl) nm_first.1 nm_first.2.1) (pda_nil))) rfl nm__law_at_least.1))) rfl (.inr rfl)) (
  pssd_one (psd_if (pdw_pt (pdw_and (pdt_e (pd_var (i := 14) rfl (.inl rfl) nm_does.1 nm_does.2.1)) (pdw_and1 (pdt_e (pd_call (ok__law_at_most T Dd S Lm) (hr.mono (by decide)) (by rfl) (L2N.takes_of rfl rfl rfl rfl) (pda_cons (pd_call (ok__law_chance T Dd S Lm) (hr.mono (by decide)) (by rfl) (L2N.takes_of rfl rfl rfl rfl) (pda_cons (pd_var (i := 1) rfl (.inr (.inl rfl)) nm_crates.1 nm_crates.2.1) (pda_cons (pd_var (i := 2) rfl (.inr (.inl rfl)) nm_bad.1 nm_bad.2.1) (pda_cons (pd_var (i := 13) rfl (.inl rfl) nm_rule.1 nm_rule.2.1) (pda_nil)))) rfl nm__law_chance.1) (pda_cons (pd_var (i := 10) rfl (.inl rfl) nm_second.1 nm_second.2.1) (pda_nil))) rfl nm__law_at_most.1))))) (pssd_one (psd_app (i := 11) rfl (.inl rfl) nm_rules.1 nm_rules.2.1 (pda_cons (pd_var (i := 13) rfl (.inl rfl) nm_rule.1 nm_rule.2.1) (pda_nil)))) (pssd_nil)))))))) (
  pssd_one (psd_ret (pd_call (ok__law_like T Dd S Lm 40) (hr.mono (by decide)) (by rfl) (L2N.takes_of rfl rfl rfl rfl) (pda_cons (pd_call (ok_best_rule T Dd S Lm) (hr.mono (by decide)) (by rfl) (L2N.takes_of rfl rfl rfl rfl) (pda_cons (pd_var (i := 1) rfl (.inr (.inl rfl)) nm_crates.1 nm_crates.2.1) (pda_cons (pd_var (i := 3) rfl (.inl rfl) nm_good.1 nm_good.2.1) (pda_cons (pd_var (i := 9) rfl (.inl rfl) nm_first.1 nm_first.2.1) (pda_cons (pd_var (i := 2) rfl (.inr (.inl rfl)) nm_bad.1 nm_bad.2.1) (pda_cons (pd_var (i := 10) rfl (.inl rfl) nm_second.1 nm_second.2.1) (pda_nil)))))) rfl nm_best_rule.1) (pda_cons (pd_if (pdt_cmp (od_ne hr.units) (pd_var (i := 11) rfl (.inl rfl) nm_rules.1 nm_rules.2.1) (pdo_pd (pdo_lst (pda_nil)) dLst_lst) (nomark _)) (pd_ix xd_ix (pd_var (i := 11) rfl (.inl rfl) nm_rules.1 nm_rules.2.1) (pd_int)) (pd_non)) (pda_nil))) rfl nm__law_like.1))))))))))
theorem ok__law_rule_right (T : Tp K mg) (Dd : Df K mg) (S : XcK K mg (zp TT) sub_ 4) (Lm : Lms base K mg TT) : FnD P w K mg base (zp TT) 43 "_law_rule_right" 3 sem__law_rule_right := by
  obtain ⟨f, fd, hm, F, hb⟩ := Dd.d__law_rule_right
  refine fnD (k := 42) (Nm := Nm__law_rule_right) F sc__law_rule_right hm hb rfl (SemLe.refl _ _) (den := den__law_rule_right) fun cdv A outer s H E N hr => ?_
  exact pssd_cons (psd_setLc (i := 4) (own := [("bad", 3)]) (is := [3]) rfl sc__law_rule_right.nd rfl rfl (sw_true rfl rfl rfl (by decide +kernel)) (pdi_rng1 (by rfl) T.n_range (pda_cons (pd_bin od_addA (pd_var (i := 1) rfl (.inr (.inl rfl)) nm_crates.1 nm_crates.2.1) (pd_int)) (pda_nil))) (blkOk_by (N := Nm__law_rule_right) (sc := (defScope st__law_rule_right)) (by decide +kernel)) (fun s H C cl fp => pgd_name (i := 3) sc__law_rule_right.nd rfl (.inl rfl) (.inr rfl)) (fun s H C cl fp => pts_yes) (fun s H C cl fp => pd_call (ok__law_chance T Dd S Lm) (hr.mono (by decide)) (by rfl) takesN0 (pda_cons (pd_var (i := 1) rfl (by first | exact .inr (.inl rfl) | exact .inr (.inr rfl)) nm_crates.1 nm_crates.2.1) (pda_cons (pd_var (i := 3) rfl (.inl rfl) nm_bad.1 nm_bad.2.1) (pda_cons (pd_var (i := 2) rfl (by first | exact .inr (.inl rfl) | exact .inr (.inr rfl)) nm_rule.1 nm_rule.2.1) (pda_nil)))) rfl nm__law_chance.1) (by decide)) (
  pssd_cons (psd_for (is := [5]) (passes_of rfl) rfl (pdi_rng1 (by rfl) T.n_range (pda_cons (pd_int) (pda_nil))) (pgd_name (i := 5) sc__law_rule_right.nd rfl (.inl rfl) (.inr rfl)) (pssd_cons (psd_set (i := 3) sc__law_rule_right.nd rfl (.inl rfl) (pd_call (ok__law_roll T Dd S Lm) (hr.mono (by decide)) (by rfl) (L2N.takes_of rfl rfl rfl rfl) (pda_cons (pd_var (i := 0) rfl (.inl rfl) nm_cup.1 nm_cup.2.1) (pda_cons (pd_bin od_addA (pd_var (i := 1) rfl (.inr (.inl rfl)) nm_crates.1 nm_crates.2.1) (pd_int)) (pda_nil))) rfl nm__law_roll.1) rfl (.inr rfl)) (
  pssd_cons (psd_set (i := 6) sc__law_rule_right.nd rfl (.inr rfl) (pd_call (ok__law_near T Dd S Lm) (hr.mono (by decide)) (by rfl) (L2N.takes_of rfl rfl rfl rfl) (pda_cons (pd_var (i := 0) rfl (.inl rfl) nm_cup.1 nm_cup.2.1) (pda_cons (pd_ix xd_ix (pd_var (i := 4) rfl (.inl rfl) nm_chances.1 nm_chances.2.1) (pd_var (i := 3) rfl (.inl rfl) nm_bad.1 nm_bad.2.1)) (pda_nil))) rfl nm__law_near.1) rfl (.inl rfl)) (
  pssd_cons (psd_set (i := 7) sc__law_rule_right.nd rfl (.inl rfl) (pd_cmp (od_eq hr.units) (pdo_pd (pdo_lc (own := [("one", 8)]) (is := [8]) rfl sc__law_rule_right.nd (pdi_seq (pd_sl sd_any (pd_var (i := 4) rfl (.inl rfl) nm_chances.1 nm_chances.2.1) (pdp_some (pd_var (i := 3) rfl (.inl rfl) nm_bad.1 nm_bad.2.1)) pdp_none)) (blkOk_by (N := Nm__law_rule_right) (sc := (defScope st__law_rule_right)) (by decide +kernel)) (fun s H C cl fp => pgd_name (i := 8) sc__law_rule_right.nd rfl (.inl rfl) (.inr rfl)) (fun s H C cl fp => pts_one (pdt_not (pdt_e (pd_call (ok__law_at_most T Dd S Lm) (hr.mono (by decide)) (by rfl) takesN0 (pda_cons (pd_var (i := 8) rfl (.inl rfl) nm_one.1 nm_one.2.1) (pda_cons (pd_var (i := 6) rfl (by first | exact .inr (.inl rfl) | exact .inr (.inr rfl)) nm_chance.1 nm_chance.2.1) (pda_nil))) rfl nm__law_at_most.1)))) (fun s H C cl fp => pd_var (i := 8) rfl (.inl rfl) nm_one.1 nm_one.2.1) (by decide)) dComp_lst) (pdo_pd (pdo_lst (pda_nil)) dLst_lst) (nomark _)) rfl (.inr rfl)) (
  pssd_cons (psd_if (pdt_not (pdt_e (pd_call (ok__law_like T Dd S Lm 40) (hr.mono (by decide)) (by rfl) (L2N.takes_of rfl rfl rfl rfl) (pda_cons (pd_call (ok_protects T Dd S Lm) (hr.mono (by decide)) (by rfl) (L2N.takes_of rfl rfl rfl rfl) (pda_cons (pd_var (i := 1) rfl (.inr (.inl rfl)) nm_crates.1 nm_crates.2.1) (pda_cons (pd_var (i := 2) rfl (.inr (.inl rfl)) nm_rule.1 nm_rule.2.1) (pda_cons (pd_var (i := 3) rfl (.inl rfl) nm_bad.1 nm_bad.2.1) (pda_cons (pd_var (i := 6) rfl (.inr (.inl rfl)) nm_chance.1 nm_chance.2.1) (pda_nil))))) rfl nm_protects.1) (pda_cons (pd_var (i := 7) rfl (.inl rfl) nm_due.1 nm_due.2.1) (pda_nil))) rfl nm__law_like.1))) (pssd_one (psd_ret (pd_bl))) (pssd_nil)) (
  pssd_cons (psd_set (i := 7) sc__law_rule_right.nd rfl (.inl rfl) (pd_cmp (od_eq hr.units) (pdo_pd (pdo_lc (own := [("one", 8)]) (is := [8]) rfl sc__law_rule_right.nd (pdi_seq (pd_sl sd_any (pd_var (i := 4) rfl (.inl rfl) nm_chances.1 nm_chances.2.1) pdp_none (pdp_some (pd_bin od_addA (pd_var (i := 3) rfl (.inl rfl) nm_bad.1 nm_bad.2.1) (pd_int))))) (blkOk_by (N := Nm__law_rule_right) (sc := (defScope st__law_rule_right)) (by decide +kernel)) (fun s H C cl fp => pgd_name (i := 8) sc__law_rule_right.nd rfl (.inl rfl) (.inr rfl)) (fun s H C cl fp => pts_one (pdt_not (pdt_e (pd_call (ok__law_at_least T Dd S Lm) (hr.mono (by decide)) (by rfl) takesN0 (pda_cons (pd_var (i := 8) rfl (.inl rfl) nm_one.1 nm_one.2.1) (pda_cons (pd_var (i := 6) rfl (by first | exact .inr (.inl rfl) | exact .inr (.inr rfl)) nm_chance.1 nm_chance.2.1) (pda_nil))) rfl nm__law_at_least.1)))) (fun s H C cl fp => pd_var (i := 8) rfl (.inl rfl) nm_one.1 nm_one.2.1) (by decide)) dComp_lst) (pdo_pd (pdo_lst (pda_nil)) dLst_lst) (nomark _)) rfl (.inr rfl)) (
  pssd_one (psd_if (pdt_not (pdt_e (pd_call (ok__law_like T Dd S Lm 40) (hr.mono (by decide)) (by rfl) (L2N.takes_of rfl rfl rfl rfl) (pda_cons (pd_call (ok_serves T Dd S Lm) (hr.mono (by decide)) (by rfl) (L2N.takes_of rfl rfl rfl rfl) (pda_cons (pd_var (i := 1) rfl (.inr (.inl rfl)) nm_crates.1 nm_crates.2.1) (pda_cons (pd_var (i := 2) rfl (.inr (.inl rfl)) nm_rule.1 nm_rule.2.1) (pda_cons (pd_var (i := 3) rfl (.inl rfl) nm_bad.1 nm_bad.2.1) (pda_cons (pd_var (i := 6) rfl (.inr (.inl rfl)) nm_chance.1 nm_chance.2.1) (pda_nil))))) rfl nm_serves.1) (pda_cons (pd_var (i := 7) rfl (.inl rfl) nm_due.1 nm_due.2.1) (pda_nil))) rfl nm__law_like.1))) (pssd_one (psd_ret (pd_bl))) (pssd_nil))))))))) (
  pssd_one (psd_ret (pd_bl))))
theorem ok__law_written (T : Tp K mg) (Dd : Df K mg) (S : XcK K mg (zp TT) sub_ 4) (Lm : Lms base K mg TT) : FnD P w K mg base (zp TT) 43 "_law_written" 0 sem__law_written := by
  obtain ⟨f, fd, hm, F, hb⟩ := Dd.d__law_written
  refine fnD (k := 42) (Nm := Nm__law_written) F sc__law_written hm hb rfl (SemLe.refl _ _) (den := den__law_written) fun cdv A outer s H E N hr => ?_
  exact pssd_cons (psd_set (i := 0) sc__law_written.nd rfl (.inl rfl) (pdo_pd (pdo_lst (pda_cons (pd_call (ok_protects T Dd S Lm) (hr.mono (by decide)) (by rfl) (L2N.takes_of rfl rfl rfl rfl) (pda_cons (pd_int) (pda_cons (pd_tup (pda_cons (pd_int) (pda_cons (pd_int) (pda_nil)))) (pda_cons (pd_int) (pda_cons (pd_tup (pda_cons (pd_int) (pda_cons (pd_int) (pda_nil)))) (pda_nil))))) rfl nm_protects.1) (pda_cons (pd_call (ok_serves T Dd S Lm) (hr.mono (by decide)) (by rfl) (L2N.takes_of rfl rfl rfl rfl) (pda_cons (pd_int) (pda_cons (pd_tup (pda_cons (pd_int) (pda_cons (pd_int) (pda_nil)))) (pda_cons (pd_int) (pda_cons (pd_tup (pda_cons (pd_int) (pda_cons (pd_int) (pda_nil)))) (pda_nil))))) rfl nm_serves.1) (pda_cons (pd_call (ok_serves T Dd S Lm) (hr.mono (by decide)) (by rfl) (L2N.takes_of rfl rfl rfl rfl) (pda_cons (pd_int) (pda_cons (pd_tup (pda_cons (pd_int) (pda_cons (pd_int) (pda_nil)))) (pda_cons (pd_int) (pda_cons (pd_tup (pda_cons (pd_int) (pda_cons (pd_int) (pda_nil)))) (pda_nil))))) rfl nm_serves.1) (pda_nil))))) dLst_lst) rfl (.inr rfl)) (
  pssd_cons (psd_set (i := 0) sc__law_written.nd rfl (.inl rfl) (pd_bin od_addA (pd_var (i := 0) rfl (.inl rfl) nm_told.1 nm_told.2.1) (pdo_pd (pdo_lst (pda_cons (pd_call (ok_least_drawn T Dd S Lm) (hr.mono (by decide)) (by rfl) (L2N.takes_of rfl rfl rfl rfl) (pda_cons (pd_int) (pda_cons (pd_int) (pda_cons (pd_int) (pda_cons (pd_tup (pda_cons (pd_int) (pda_cons (pd_int) (pda_nil)))) (pda_nil))))) rfl nm_least_drawn.1) (pda_nil))) dLst_lst)) rfl (.inr rfl)) (
  pssd_cons (psd_set (i := 0) sc__law_written.nd rfl (.inl rfl) (pd_bin od_addA (pd_var (i := 0) rfl (.inl rfl) nm_told.1 nm_told.2.1) (pdo_pd (pdo_lst (pda_cons (pd_call (ok_best_rule T Dd S Lm) (hr.mono (by decide)) (by rfl) (L2N.takes_of rfl rfl rfl rfl) (pda_cons (pd_int) (pda_cons (pd_int) (pda_cons (pd_tup (pda_cons (pd_int) (pda_cons (pd_int) (pda_nil)))) (pda_cons (pd_int) (pda_cons (pd_tup (pda_cons (pd_int) (pda_cons (pd_int) (pda_nil)))) (pda_nil)))))) rfl nm_best_rule.1) (pda_cons (pd_call (ok_best_rule T Dd S Lm) (hr.mono (by decide)) (by rfl) (L2N.takes_of rfl rfl rfl rfl) (pda_cons (pd_int) (pda_cons (pd_int) (pda_cons (pd_tup (pda_cons (pd_int) (pda_cons (pd_int) (pda_nil)))) (pda_cons (pd_int) (pda_cons (pd_tup (pda_cons (pd_int) (pda_cons (pd_int) (pda_nil)))) (pda_nil)))))) rfl nm_best_rule.1) (pda_cons (pd_call (ok_least_drawn T Dd S Lm) (hr.mono (by decide)) (by rfl) (L2N.takes_of rfl rfl rfl rfl) (pda_cons (pd_int) (pda_cons (pd_int) (pda_cons (pd_int) (pda_cons (pd_tup (pda_cons (pd_int) (pda_cons (pd_int) (pda_nil)))) (pda_nil))))) rfl nm_least_drawn.1) (pda_nil))))) dLst_lst)) rfl (.inr rfl)) (
  pssd_cons (psd_set (i := 0) sc__law_written.nd rfl (.inl rfl) (pd_bin od_addA (pd_var (i := 0) rfl (.inl rfl) nm_told.1 nm_told.2.1) (pdo_pd (pdo_lst (pda_cons (pd_call (ok_protects T Dd S Lm) (hr.mono (by decide)) (by rfl) (L2N.takes_of rfl rfl rfl rfl) (pda_cons (pd_int) (pda_cons (pd_tup (pda_cons (pd_int) (pda_cons (pd_int) (pda_nil)))) (pda_cons (pd_int) (pda_cons (pd_tup (pda_cons (pd_int) (pda_cons (pd_int) (pda_nil)))) (pda_nil))))) rfl nm_protects.1) (pda_cons (pd_call (ok_protects T Dd S Lm) (hr.mono (by decide)) (by rfl) (L2N.takes_of rfl rfl rfl rfl) (pda_cons (pd_int) (pda_cons (pd_tup (pda_cons (pd_int) (pda_cons (pd_int) (pda_nil)))) (pda_cons (pd_int) (pda_cons (pd_tup (pda_cons (pd_int) (pda_cons (pd_int) (pda_nil)))) (pda_nil))))) rfl nm_protects.1) (pda_cons (pd_call (ok_protects T Dd S Lm) (hr.mono (by decide)) (by rfl) (L2N.takes_of rfl rfl rfl rfl) (pda_cons (pd_int) (pda_cons (pd_tup (pda_cons (pd_int) (pda_cons (pd_int) (pda_nil)))) (pda_cons (pd_int) (pda_cons (pd_tup (pda_cons (pd_int) (pda_cons (pd_int) (pda_nil)))) (pda_nil))))) rfl nm_protects.1) (pda_nil))))) dLst_lst)) rfl (.inr rfl)) (
  pssd_cons (psd_if (pdt_not (pdt_e (pd_call (ok__law_like T Dd S Lm 40) (hr.mono (by decide)) (by rfl) (L2N.takes_of rfl rfl rfl rfl) (pda_cons (pd_var (i := 0) rfl (.inl rfl) nm_told.1 nm_told.2.1) (pda_cons (pdo_pd (pdo_lst (pda_cons (pd_bl) (pda_cons (pd_bl) (pda_cons (pd_bl) (pda_cons (pd_int) (pda_cons (pd_tup (pda_cons (pd_int) (pda_cons (pd_int) (pda_nil)))) (pda_cons (pd_non) (pda_cons (pd_non) (pda_cons (pd_bl) (pda_cons (pd_bl) (pda_cons (pd_bl) (pda_nil)))))))))))) dLst_lst) (pda_nil))) rfl nm__law_like.1))) (pssd_one (psd_ret (pd_bl))) (pssd_nil)) (
  pssd_cons (psd_set (i := 0) sc__law_written.nd rfl (.inl rfl) (pdo_pd (pdo_lst (pda_cons (pd_call (ok_least_drawn T Dd S Lm) (hr.mono (by decide)) (by rfl) (L2N.takes_of rfl rfl rfl rfl) (pda_cons (pd_int) (pda_cons (pd_int) (pda_cons (pd_int) (pda_cons (pd_tup (pda_cons (pd_int) (pda_cons (pd_int) (pda_nil)))) (pda_nil))))) rfl nm_least_drawn.1) (pda_cons (pd_call (ok_least_drawn T Dd S Lm) (hr.mono (by decide)) (by rfl) (L2N.takes_of rfl rfl rfl rfl) (pda_cons (pd_int) (pda_cons (pd_int) (pda_cons (pd_int) (pda_cons (pd_tup (pda_cons (pd_int) (pda_cons (pd_int) (pda_nil)))) (pda_nil))))) rfl nm_least_drawn.1) (pda_cons (pd_call (ok_least_drawn T Dd S Lm) (hr.mono (by decide)) (by rfl) (L2N.takes_of rfl rfl rfl rfl) (pda_cons (pd_int) (pda_cons (pd_int) (pda_cons (pd_int) (pda_cons (pd_tup (pda_cons (pd_int) (pda_cons (pd_int) (pda_nil)))) (pda_nil))))) rfl nm_least_drawn.1) (pda_nil))))) dLst_lst) rfl (.inr rfl)) (
  pssd_cons (psd_set (i := 0) sc__law_written.nd rfl (.inl rfl) (pd_bin od_addA (pd_var (i := 0) rfl (.inl rfl) nm_told.1 nm_told.2.1) (pdo_pd (pdo_lst (pda_cons (pd_call (ok_least_drawn T Dd S Lm) (hr.mono (by decide)) (by rfl) (L2N.takes_of rfl rfl rfl rfl) (pda_cons (pd_int) (pda_cons (pd_int) (pda_cons (pd_int) (pda_cons (pd_tup (pda_cons (pd_int) (pda_cons (pd_int) (pda_nil)))) (pda_nil))))) rfl nm_least_drawn.1) (pda_nil))) dLst_lst)) rfl (.inr rfl)) (
  pssd_cons (psd_set (i := 0) sc__law_written.nd rfl (.inl rfl) (pd_bin od_addA (pd_var (i := 0) rfl (.inl rfl) nm_told.1 nm_told.2.1) (pdo_pd (pdo_lst (pda_cons (pd_call (ok_least_drawn T Dd S Lm) (hr.mono (by decide)) (by rfl) (L2N.takes_of rfl rfl rfl rfl) (pda_cons (pd_int) (pda_cons (pd_int) (pda_cons (pd_int) (pda_cons (pd_tup (pda_cons (pd_int) (pda_cons (pd_int) (pda_nil)))) (pda_nil))))) rfl nm_least_drawn.1) (pda_cons (pd_call (ok_least_drawn T Dd S Lm) (hr.mono (by decide)) (by rfl) (L2N.takes_of rfl rfl rfl rfl) (pda_cons (pd_int) (pda_cons (pd_int) (pda_cons (pd_int) (pda_cons (pd_tup (pda_cons (pd_int) (pda_cons (pd_int) (pda_nil)))) (pda_nil))))) rfl nm_least_drawn.1) (pda_cons (pd_call (ok_best_rule T Dd S Lm) (hr.mono (by decide)) (by rfl) (L2N.takes_of rfl rfl rfl rfl) (pda_cons (pd_int) (pda_cons (pd_int) (pda_cons (pd_tup (pda_cons (pd_int) (pda_cons (pd_int) (pda_nil)))) (pda_cons (pd_int) (pda_cons (pd_tup (pda_cons (pd_int) (pda_cons (pd_int) (pda_nil)))) (pda_nil)))))) rfl nm_best_rule.1) (pda_nil))))) dLst_lst)) rfl (.inr rfl)) (
  pssd_cons (psd_set (i := 0) sc__law_written.nd rfl (.inl rfl) (pd_bin od_addA (pd_var (i := 0) rfl (.inl rfl) nm_told.1 nm_told.2.1) (pdo_pd (pdo_lst (pda_cons (pd_call (ok_best_rule T Dd S Lm) (hr.mono (by decide)) (by rfl) (L2N.takes_of rfl rfl rfl rfl) (pda_cons (pd_int) (pda_cons (pd_int) (pda_cons (pd_tup (pda_cons (pd_int) (pda_cons (pd_int) (pda_nil)))) (pda_cons (pd_int) (pda_cons (pd_tup (pda_cons (pd_int) (pda_cons (pd_int) (pda_nil)))) (pda_nil)))))) rfl nm_best_rule.1) (pda_cons (pd_call (ok_best_rule T Dd S Lm) (hr.mono (by decide)) (by rfl) (L2N.takes_of rfl rfl rfl rfl) (pda_cons (pd_int) (pda_cons (pd_int) (pda_cons (pd_tup (pda_cons (pd_int) (pda_cons (pd_int) (pda_nil)))) (pda_cons (pd_int) (pda_cons (pd_tup (pda_cons (pd_int) (pda_cons (pd_int) (pda_nil)))) (pda_nil)))))) rfl nm_best_rule.1) (pda_cons (pd_call (ok_least_drawn T Dd S Lm) (hr.mono (by decide)) (by rfl) (L2N.takes_of rfl rfl rfl rfl) (pda_cons (pd_int) (pda_cons (pd_int) (pda_cons (pd_int) (pda_cons (pd_tup (pda_cons (pd_int) (pda_cons (pd_int) (pda_nil)))) (pda_nil))))) rfl nm_least_drawn.1) (pda_nil))))) dLst_lst)) rfl (.inr rfl)) (
  pssd_one (psd_ret (pd_call (ok__law_like T Dd S Lm 40) (hr.mono (by decide)) (by rfl) (L2N.takes_of rfl rfl rfl rfl) (pda_cons (pd_var (i := 0) rfl (.inl rfl) nm_told.1 nm_told.2.1) (pda_cons (pdo_pd (pdo_lst (pda_cons (pd_int) (pda_cons (pd_int) (pda_cons (pd_int) (pda_cons (pd_int) (pda_cons (pd_non) (pda_cons (pd_int) (pda_cons (pd_tup (pda_cons (pd_int) (pda_cons (pd_int) (pda_nil)))) (pda_cons (pd_tup (pda_cons (pd_int) (pda_cons (pd_int) (pda_nil)))) (pda_cons (pd_tup (pda_cons (pd_int) (pda_cons (pd_int) (pda_nil)))) (pda_cons (pd_int) (pda_nil)))))))))))) dLst_lst) (pda_nil))) rfl nm__law_like.1)))))))))))
theorem ok__law_errors (T : Tp K mg) (Dd : Df K mg) (S : XcK K mg (zp TT) sub_ 4) (Lm : Lms base K mg TT) : FnD P w K mg base (zp TT) 8 "_law_errors" 1 sem__law_errors := by
  obtain ⟨f, fd, cF, Pt, hm, F, hb, tabs, inT, uniq⟩ := Lm.l__law_errors
  refine fnDc (k := 7) (Nm := Nm__law_errors) F sc__law_errors hm hb rfl (SemLe.refl _ _) (den := den__law_errors) fun A outer s H E N hr => ?_
  exact pssd_cons (psd_par2 rfl sc__law_errors.nd rfl rfl (by decide) rfl rfl (pdm_new (pdo_lst (pda_nil)) dLst_lst (pdm_val (pdo_pd (pdo_lst (pda_cons (pd_non) (pda_cons (pd_tup (pda_cons (pd_int) (pda_cons (pd_int) (pda_nil)))) (pda_cons (pd_tup (pda_cons (pd_int) (pda_cons (pd_int) (pda_nil)))) (pda_cons (pd_tup (pda_cons (pd_un ud_neg (pd_int)) (pda_cons (pd_int) (pda_nil)))) (pda_cons (pd_tup (pda_cons (pd_int) (pda_cons (pd_int) (pda_nil)))) (pda_cons (pdo_pd (pdo_lst (pda_cons (pd_int) (pda_cons (pd_int) (pda_nil)))) dLst_lst) (pda_cons (pd_tup (pda_cons (pd_bl) (pda_cons (pd_int) (pda_nil)))) (pda_cons (pd_tup (pda_cons (pd_int) (pda_nil))) (pda_cons (pd_str) (pda_nil))))))))))) dLst_lst) (pdm_nil))) rfl) (
  pssd_cons (psd_set (i := 5) sc__law_errors.nd rfl (.inr rfl) (pd_call (ok__law_some T Dd S Lm) (hr.mono (by decide)) (by rfl) (L2N.takes_of rfl rfl rfl rfl) (pda_cons (pd_var (i := 0) rfl (.inl rfl) nm_cup.1 nm_cup.2.1) (pda_cons (pdo_pd (pdo_lst (pda_cons (pd_non) (pda_cons (pd_tup (pda_cons (pd_int) (pda_cons (pd_int) (pda_nil)))) (pda_cons (pd_tup (pda_cons (pd_int) (pda_cons (pd_int) (pda_nil)))) (pda_cons (pdo_pd (pdo_lst (pda_cons (pd_int) (pda_cons (pd_int) (pda_nil)))) dLst_lst) (pda_cons (pd_tup (pda_cons (pd_int) (pda_nil))) (pda_nil))))))) dLst_lst) (pda_nil))) rfl nm__law_some.1) rfl (.inl rfl)) (
  pssd_cons (psd_for (is := [4]) (passes_of rfl) rfl (pdi_seq (pd_tup (pda_cons (pd_fnv (k := 15) (ok_protects T Dd S Lm) (by rfl) rfl nm_protects.1) (pda_cons (pd_fnv (k := 16) (ok_serves T Dd S Lm) (by rfl) rfl nm_serves.1) (pda_nil))))) (pgd_name (i := 4) sc__law_errors.nd rfl (.inr rfl) (.inl rfl)) (pssd_cons (psd_own (i := 1) sc__law_errors.nd rfl (.inl rfl) (pdo_bin odo_cat (pd_var (i := 1) rfl (.inl rfl) nm_words.1 nm_words.2.1) (pdo_pd (pdo_lc (own := [("crates", 6)]) (is := [6]) rfl sc__law_errors.nd (pdi_seq (pd_tup (pda_cons (pd_non) (pda_cons (pd_int) (pda_cons (pd_int) (pda_cons (pd_bl) (pda_nil))))))) (blkOk_by (N := Nm__law_errors) (sc := (defScope st__law_errors)) (by decide +kernel)) (fun s H C cl fp => pgd_name (i := 6) sc__law_errors.nd rfl (.inr rfl) (.inl rfl)) (fun s H C cl fp => pts_yes) (fun s H C cl fp => pd_lam (k := 5) (get__law_fails T Dd S Lm) (by rfl) tabs rfl inT uniq (hr.mono (by decide)) (lamS_by (sc := (relS cs__law_errors_0 (defScope st__law_errors))) (scope := cs__law_errors_1) (by decide +kernel)) rfl (fun _ _ _ _ _ => rfl) (fun A outer s H E f c' hrl => pd_callV (i := 4) (lev := 5) rfl (by first | exact .inr (.inl rfl) | exact .inr (.inr rfl)) nm_call.1 nm_call.2.1 (fun k sem q => by
      try dsimp only at q
      split at q
      · rename_i e; subst e; cases q; exact (ok_protects T Dd S Lm).up (k' := 5) (by decide)
      split at q
      · rename_i e; subst e; cases q; exact (ok_serves T Dd S Lm).up (k' := 5) (by decide)
      cases q) (hrl.mono (by decide)) (L2N.takes_of rfl rfl rfl rfl) (pda_cons (pd_var (i := 6) rfl (by first | exact .inr (.inl rfl) | exact .inr (.inr rfl)) nm_crates.1 nm_crates.2.1) (pda_cons (pd_non) (pda_cons (pd_non) (pda_cons (pd_non) (pda_nil))))) rfl) nm__law_fails.1 nm_call.1 nm_call.2.1) (by decide)) dComp_lst)) rfl (.inr rfl)) (
  pssd_cons (psd_app (i := 1) rfl (.inl rfl) nm_words.1 nm_words.2.1 (pda_cons (pd_lam (k := 5) (get__law_fails T Dd S Lm) (by rfl) tabs rfl inT uniq (hr.mono (by decide)) (lamS_by (sc := (defScope st__law_errors)) (scope := cs__law_errors_2) (by decide +kernel)) rfl (fun _ _ _ _ _ => rfl) (fun A outer s H E f c' hrl => pd_callV (i := 4) (lev := 5) rfl (by first | exact .inr (.inl rfl) | exact .inr (.inr rfl)) nm_call.1 nm_call.2.1 (fun k sem q => by
      try dsimp only at q
      split at q
      · rename_i e; subst e; cases q; exact (ok_protects T Dd S Lm).up (k' := 5) (by decide)
      split at q
      · rename_i e; subst e; cases q; exact (ok_serves T Dd S Lm).up (k' := 5) (by decide)
      cases q) (hrl.mono (by decide)) (L2N.takes_of rfl rfl rfl rfl) (pda_cons (pd_int) (pda_cons (pd_var (i := 5) rfl (by first | exact .inr (.inl rfl) | exact .inr (.inr rfl)) nm_odd.1 nm_odd.2.1) (pda_cons (pd_non) (pda_cons (pd_non) (pda_nil))))) rfl) nm__law_fails.1 nm_call.1 nm_call.2.1) (pda_nil))) (
  pssd_cons (psd_own (i := 1) sc__law_errors.nd rfl (.inl rfl) (pdo_bin odo_cat (pd_var (i := 1) rfl (.inl rfl) nm_words.1 nm_words.2.1) (pdo_pd (pdo_lc (own := [("bad", 7)]) (is := [7]) rfl sc__law_errors.nd (pdi_seq (pd_tup (pda_cons (pd_non) (pda_cons (pd_un ud_neg (pd_int)) (pda_cons (pd_int) (pda_cons (pd_bl) (pda_nil))))))) (blkOk_by (N := Nm__law_errors) (sc := (defScope st__law_errors)) (by decide +kernel)) (fun s H C cl fp => pgd_name (i := 7) sc__law_errors.nd rfl (.inr rfl) (.inl rfl)) (fun s H C cl fp => pts_yes) (fun s H C cl fp => pd_lam (k := 5) (get__law_fails T Dd S Lm) (by rfl) tabs rfl inT uniq (hr.mono (by decide)) (lamS_by (sc := (relS cs__law_errors_4 (defScope st__law_errors))) (scope := cs__law_errors_5) (by decide +kernel)) rfl (fun _ _ _ _ _ => rfl) (fun A outer s H E f c' hrl => pd_callV (i := 4) (lev := 5) rfl (by first | exact .inr (.inl rfl) | exact .inr (.inr rfl)) nm_call.1 nm_call.2.1 (fun k sem q => by
      try dsimp only at q
      split at q
      · rename_i e; subst e; cases q; exact (ok_protects T Dd S Lm).up (k' := 5) (by decide)
      split at q
      · rename_i e; subst e; cases q; exact (ok_serves T Dd S Lm).up (k' := 5) (by decide)
      cases q) (hrl.mono (by decide)) (L2N.takes_of rfl rfl rfl rfl) (pda_cons (pd_int) (pda_cons (pd_tup (pda_cons (pd_int) (pda_cons (pd_int) (pda_nil)))) (pda_cons (pd_var (i := 7) rfl (by first | exact .inr (.inl rfl) | exact .inr (.inr rfl)) nm_bad.1 nm_bad.2.1) (pda_cons (pd_non) (pda_nil))))) rfl) nm__law_fails.1 nm_call.1 nm_call.2.1) (by decide)) dComp_lst)) rfl (.inr rfl)) (
  pssd_one (psd_own (i := 1) sc__law_errors.nd rfl (.inl rfl) (pdo_bin odo_cat (pd_var (i := 1) rfl (.inl rfl) nm_words.1 nm_words.2.1) (pdo_pd (pdo_lc (own := [("chance", 8)]) (is := [8]) rfl sc__law_errors.nd (pdi_seq (pd_var (i := 2) rfl (.inl rfl) nm_odds.1 nm_odds.2.1)) (blkOk_by (N := Nm__law_errors) (sc := (defScope st__law_errors)) (by decide +kernel)) (fun s H C cl fp => pgd_name (i := 8) sc__law_errors.nd rfl (.inr rfl) (.inl rfl)) (fun s H C cl fp => pts_yes) (fun s H C cl fp => pd_lam (k := 5) (get__law_fails T Dd S Lm) (by rfl) tabs rfl inT uniq (hr.mono (by decide)) (lamS_by (sc := (relS cs__law_errors_6 (defScope st__law_errors))) (scope := cs__law_errors_7) (by decide +kernel)) rfl (fun _ _ _ _ _ => rfl) (fun A outer s H E f c' hrl => pd_callV (i := 4) (lev := 5) rfl (by first | exact .inr (.inl rfl) | exact .inr (.inr rfl)) nm_call.1 nm_call.2.1 (fun k sem q => by
      try dsimp only at q
      split at q
      · rename_i e; subst e; cases q; exact (ok_protects T Dd S Lm).up (k' := 5) (by decide)
      split at q
      · rename_i e; subst e; cases q; exact (ok_serves T Dd S Lm).up (k' := 5) (by decide)
      cases q) (hrl.mono (by decide)) (L2N.takes_of rfl rfl rfl rfl) (pda_cons (pd_int) (pda_cons (pd_tup (pda_cons (pd_int) (pda_cons (pd_int) (pda_nil)))) (pda_cons (pd_int) (pda_cons (pd_var (i := 8) rfl (by first | exact .inr (.inl rfl) | exact .inr (.inr rfl)) nm_chance.1 nm_chance.2.1) (pda_nil))))) rfl) nm__law_fails.1 nm_call.1 nm_call.2.1) (by decide)) dComp_lst)) rfl (.inr rfl))))))) (
  pssd_cons (psd_own (i := 1) sc__law_errors.nd rfl (.inl rfl) (pdo_bin odo_cat (pd_var (i := 1) rfl (.inl rfl) nm_words.1 nm_words.2.1) (pdo_pd (pdo_lc (own := [("crates", 6)]) (is := [6]) rfl sc__law_errors.nd (pdi_seq (pd_tup (pda_cons (pd_non) (pda_cons (pd_int) (pda_cons (pd_int) (pda_cons (pd_bl) (pda_nil))))))) (blkOk_by (N := Nm__law_errors) (sc := (defScope st__law_errors)) (by decide +kernel)) (fun s H C cl fp => pgd_name (i := 6) sc__law_errors.nd rfl (.inr rfl) (.inl rfl)) (fun s H C cl fp => pts_yes) (fun s H C cl fp => pd_lam (k := 5) (get__law_fails T Dd S Lm) (by rfl) tabs rfl inT uniq (hr.mono (by decide)) (lamS_by (sc := (relS cs__law_errors_8 (defScope st__law_errors))) (scope := cs__law_errors_9) (by decide +kernel)) rfl (fun _ _ _ _ _ => rfl) (fun A outer s H E f c' hrl => pd_call (ok_least_drawn T Dd S Lm) (hrl.mono (by decide)) (by rfl) (L2N.takes_of rfl rfl rfl rfl) (pda_cons (pd_var (i := 6) rfl (by first | exact .inr (.inl rfl) | exact .inr (.inr rfl)) nm_crates.1 nm_crates.2.1) (pda_cons (pd_non) (pda_cons (pd_non) (pda_cons (pd_non) (pda_nil))))) rfl nm_least_drawn.1) nm__law_fails.1 nm_call.1 nm_call.2.1) (by decide)) dComp_lst)) rfl (.inr rfl)) (
  pssd_cons (psd_own (i := 1) sc__law_errors.nd rfl (.inl rfl) (pdo_bin odo_cat (pd_var (i := 1) rfl (.inl rfl) nm_words.1 nm_words.2.1) (pdo_pd (pdo_lc (own := [("most", 9)]) (is := [9]) rfl sc__law_errors.nd (pdi_seq (pd_tup (pda_cons (pd_non) (pda_cons (pd_un ud_neg (pd_int)) (pda_cons (pd_int) (pda_cons (pd_bl) (pda_nil))))))) (blkOk_by (N := Nm__law_errors) (sc := (defScope st__law_errors)) (by decide +kernel)) (fun s H C cl fp => pgd_name (i := 9) sc__law_errors.nd rfl (.inr rfl) (.inl rfl)) (fun s H C cl fp => pts_yes) (fun s H C cl fp => pd_lam (k := 5) (get__law_fails T Dd S Lm) (by rfl) tabs rfl inT uniq (hr.mono (by decide)) (lamS_by (sc := (relS cs__law_errors_10 (defScope st__law_errors))) (scope := cs__law_errors_11) (by decide +kernel)) rfl (fun _ _ _ _ _ => rfl) (fun A outer s H E f c' hrl => pd_call (ok_least_drawn T Dd S Lm) (hrl.mono (by decide)) (by rfl) (L2N.takes_of rfl rfl rfl rfl) (pda_cons (pd_int) (pda_cons (pd_var (i := 9) rfl (by first | exact .inr (.inl rfl) | exact .inr (.inr rfl)) nm_most.1 nm_most.2.1) (pda_cons (pd_non) (pda_cons (pd_non) (pda_nil))))) rfl nm_least_drawn.1) nm__law_fails.1 nm_call.1 nm_call.2.1) (by decide)) dComp_lst)) rfl (.inr rfl)) (
  pssd_cons (psd_own (i := 1) sc__law_errors.nd rfl (.inl rfl) (pdo_bin odo_cat (pd_var (i := 1) rfl (.inl rfl) nm_words.1 nm_words.2.1) (pdo_pd (pdo_lc (own := [("bad", 7)]) (is := [7]) rfl sc__law_errors.nd (pdi_seq (pd_tup (pda_cons (pd_non) (pda_cons (pd_un ud_neg (pd_int)) (pda_cons (pd_int) (pda_cons (pd_bl) (pda_nil))))))) (blkOk_by (N := Nm__law_errors) (sc := (defScope st__law_errors)) (by decide +kernel)) (fun s H C cl fp => pgd_name (i := 7) sc__law_errors.nd rfl (.inr rfl) (.inl rfl)) (fun s H C cl fp => pts_yes) (fun s H C cl fp => pd_lam (k := 5) (get__law_fails T Dd S Lm) (by rfl) tabs rfl inT uniq (hr.mono (by decide)) (lamS_by (sc := (relS cs__law_errors_12 (defScope st__law_errors))) (scope := cs__law_errors_13) (by decide +kernel)) rfl (fun _ _ _ _ _ => rfl) (fun A outer s H E f c' hrl => pd_call (ok_least_drawn T Dd S Lm) (hrl.mono (by decide)) (by rfl) (L2N.takes_of rfl rfl rfl rfl) (pda_cons (pd_int) (pda_cons (pd_int) (pda_cons (pd_var (i := 7) rfl (by first | exact .inr (.inl rfl) | exact .inr (.inr rfl)) nm_bad.1 nm_bad.2.1) (pda_cons (pd_non) (pda_nil))))) rfl nm_least_drawn.1) nm__law_fails.1 nm_call.1 nm_call.2.1) (by decide)) dComp_lst)) rfl (.inr rfl)) (
  pssd_cons (psd_own (i := 1) sc__law_errors.nd rfl (.inl rfl) (pdo_bin odo_cat (pd_var (i := 1) rfl (.inl rfl) nm_words.1 nm_words.2.1) (pdo_pd (pdo_lc (own := [("chance", 8)]) (is := [8]) rfl sc__law_errors.nd (pdi_seq (pd_var (i := 2) rfl (.inl rfl) nm_odds.1 nm_odds.2.1)) (blkOk_by (N := Nm__law_errors) (sc := (defScope st__law_errors)) (by decide +kernel)) (fun s H C cl fp => pgd_name (i := 8) sc__law_errors.nd rfl (.inr rfl) (.inl rfl)) (fun s H C cl fp => pts_yes) (fun s H C cl fp => pd_lam (k := 5) (get__law_fails T Dd S Lm) (by rfl) tabs rfl inT uniq (hr.mono (by decide)) (lamS_by (sc := (relS cs__law_errors_14 (defScope st__law_errors))) (scope := cs__law_errors_15) (by decide +kernel)) rfl (fun _ _ _ _ _ => rfl) (fun A outer s H E f c' hrl => pd_call (ok_least_drawn T Dd S Lm) (hrl.mono (by decide)) (by rfl) (L2N.takes_of rfl rfl rfl rfl) (pda_cons (pd_int) (pda_cons (pd_int) (pda_cons (pd_int) (pda_cons (pd_var (i := 8) rfl (by first | exact .inr (.inl rfl) | exact .inr (.inr rfl)) nm_chance.1 nm_chance.2.1) (pda_nil))))) rfl nm_least_drawn.1) nm__law_fails.1 nm_call.1 nm_call.2.1) (by decide)) dComp_lst)) rfl (.inr rfl)) (
  pssd_cons (psd_own (i := 1) sc__law_errors.nd rfl (.inl rfl) (pdo_bin odo_cat (pd_var (i := 1) rfl (.inl rfl) nm_words.1 nm_words.2.1) (pdo_pd (pdo_lc (own := [("crates", 6)]) (is := [6]) rfl sc__law_errors.nd (pdi_seq (pd_tup (pda_cons (pd_non) (pda_cons (pd_int) (pda_cons (pd_int) (pda_cons (pd_bl) (pda_nil))))))) (blkOk_by (N := Nm__law_errors) (sc := (defScope st__law_errors)) (by decide +kernel)) (fun s H C cl fp => pgd_name (i := 6) sc__law_errors.nd rfl (.inr rfl) (.inl rfl)) (fun s H C cl fp => pts_yes) (fun s H C cl fp => pd_lam (k := 5) (get__law_fails T Dd S Lm) (by rfl) tabs rfl inT uniq (hr.mono (by decide)) (lamS_by (sc := (relS cs__law_errors_16 (defScope st__law_errors))) (scope := cs__law_errors_17) (by decide +kernel)) rfl (fun _ _ _ _ _ => rfl) (fun A outer s H E f c' hrl => pd_call (ok_best_rule T Dd S Lm) (hrl.mono (by decide)) (by rfl) (L2N.takes_of rfl rfl rfl rfl) (pda_cons (pd_var (i := 6) rfl (by first | exact .inr (.inl rfl) | exact .inr (.inr rfl)) nm_crates.1 nm_crates.2.1) (pda_cons (pd_non) (pda_cons (pd_non) (pda_cons (pd_non) (pda_cons (pd_non) (pda_nil)))))) rfl nm_best_rule.1) nm__law_fails.1 nm_call.1 nm_call.2.1) (by decide)) dComp_lst)) rfl (.inr rfl)) (
  pssd_cons (psd_own (i := 1) sc__law_errors.nd rfl (.inl rfl) (pdo_bin odo_cat (pd_var (i := 1) rfl (.inl rfl) nm_words.1 nm_words.2.1) (pdo_pd (pdo_lc (own := [("good", 10)]) (is := [10]) rfl sc__law_errors.nd (pdi_seq (pd_tup (pda_cons (pd_non) (pda_cons (pd_un ud_neg (pd_int)) (pda_cons (pd_int) (pda_cons (pd_bl) (pda_nil))))))) (blkOk_by (N := Nm__law_errors) (sc := (defScope st__law_errors)) (by decide +kernel)) (fun s H C cl fp => pgd_name (i := 10) sc__law_errors.nd rfl (.inr rfl) (.inl rfl)) (fun s H C cl fp => pts_yes) (fun s H C cl fp => pd_lam (k := 5) (get__law_fails T Dd S Lm) (by rfl) tabs rfl inT uniq (hr.mono (by decide)) (lamS_by (sc := (relS cs__law_errors_18 (defScope st__law_errors))) (scope := cs__law_errors_19) (by decide +kernel)) rfl (fun _ _ _ _ _ => rfl) (fun A outer s H E f c' hrl => pd_call (ok_best_rule T Dd S Lm) (hrl.mono (by decide)) (by rfl) (L2N.takes_of rfl rfl rfl rfl) (pda_cons (pd_int) (pda_cons (pd_var (i := 10) rfl (by first | exact .inr (.inl rfl) | exact .inr (.inr rfl)) nm_good.1 nm_good.2.1) (pda_cons (pd_non) (pda_cons (pd_non) (pda_cons (pd_non) (pda_nil)))))) rfl nm_best_rule.1) nm__law_fails.1 nm_call.1 nm_call.2.1) (by decide)) dComp_lst)) rfl (.inr rfl)) (
  pssd_cons (psd_own (i := 1) sc__law_errors.nd rfl (.inl rfl) (pdo_bin odo_cat (pd_var (i := 1) rfl (.inl rfl) nm_words.1 nm_words.2.1) (pdo_pd (pdo_lc (own := [("chance", 8)]) (is := [8]) rfl sc__law_errors.nd (pdi_seq (pd_var (i := 2) rfl (.inl rfl) nm_odds.1 nm_odds.2.1)) (blkOk_by (N := Nm__law_errors) (sc := (defScope st__law_errors)) (by decide +kernel)) (fun s H C cl fp => pgd_name (i := 8) sc__law_errors.nd rfl (.inr rfl) (.inl rfl)) (fun s H C cl fp => pts_yes) (fun s H C cl fp => pd_lam (k := 5) (get__law_fails T Dd S Lm) (by rfl) tabs rfl inT uniq (hr.mono (by decide)) (lamS_by (sc := (relS cs__law_errors_20 (defScope st__law_errors))) (scope := cs__law_errors_21) (by decide +kernel)) rfl (fun _ _ _ _ _ => rfl) (fun A outer s H E f c' hrl => pd_call (ok_best_rule T Dd S Lm) (hrl.mono (by decide)) (by rfl) (L2N.takes_of rfl rfl rfl rfl) (pda_cons (pd_int) (pda_cons (pd_int) (pda_cons (pd_var (i := 8) rfl (by first | exact .inr (.inl rfl) | exact .inr (.inr rfl)) nm_chance.1 nm_chance.2.1) (pda_cons (pd_non) (pda_cons (pd_non) (pda_nil)))))) rfl nm_best_rule.1) nm__law_fails.1 nm_call.1 nm_call.2.1) (by decide)) dComp_lst)) rfl (.inr rfl)) (
  pssd_cons (psd_own (i := 1) sc__law_errors.nd rfl (.inl rfl) (pdo_bin odo_cat (pd_var (i := 1) rfl (.inl rfl) nm_words.1 nm_words.2.1) (pdo_pd (pdo_lc (own := [("bad", 7)]) (is := [7]) rfl sc__law_errors.nd (pdi_seq (pd_tup (pda_cons (pd_non) (pda_cons (pd_un ud_neg (pd_int)) (pda_cons (pd_int) (pda_cons (pd_bl) (pda_nil))))))) (blkOk_by (N := Nm__law_errors) (sc := (defScope st__law_errors)) (by decide +kernel)) (fun s H C cl fp => pgd_name (i := 7) sc__law_errors.nd rfl (.inr rfl) (.inl rfl)) (fun s H C cl fp => pts_yes) (fun s H C cl fp => pd_lam (k := 5) (get__law_fails T Dd S Lm) (by rfl) tabs rfl inT uniq (hr.mono (by decide)) (lamS_by (sc := (relS cs__law_errors_22 (defScope st__law_errors))) (scope := cs__law_errors_23) (by decide +kernel)) rfl (fun _ _ _ _ _ => rfl) (fun A outer s H E f c' hrl => pd_call (ok_best_rule T Dd S Lm) (hrl.mono (by decide)) (by rfl) (L2N.takes_of rfl rfl rfl rfl) (pda_cons (pd_int) (pda_cons (pd_int) (pda_cons (pd_tup (pda_cons (pd_int) (pda_cons (pd_int) (pda_nil)))) (pda_cons (pd_var (i := 7) rfl (by first | exact .inr (.inl rfl) | exact .inr (.inr rfl)) nm_bad.1 nm_bad.2.1) (pda_cons (pd_non) (pda_nil)))))) rfl nm_best_rule.1) nm__law_fails.1 nm_call.1 nm_call.2.1) (by decide)) dComp_lst)) rfl (.inr rfl)) (
  pssd_cons (psd_own (i := 1) sc__law_errors.nd rfl (.inl rfl) (pdo_bin odo_cat (pd_var (i := 1) rfl (.inl rfl) nm_words.1 nm_words.2.1) (pdo_pd (pdo_lc (own := [("chance", 8)]) (is := [8]) rfl sc__law_errors.nd (pdi_seq (pd_var (i := 2) rfl (.inl rfl) nm_odds.1 nm_odds.2.1)) (blkOk_by (N := Nm__law_errors) (sc := (defScope st__law_errors)) (by decide +kernel)) (fun s H C cl fp => pgd_name (i := 8) sc__law_errors.nd rfl (.inr rfl) (.inl rfl)) (fun s H C cl fp => pts_yes) (fun s H C cl fp => pd_lam (k := 5) (get__law_fails T Dd S Lm) (by rfl) tabs rfl inT uniq (hr.mono (by decide)) (lamS_by (sc := (relS cs__law_errors_24 (defScope st__law_errors))) (scope := cs__law_errors_25) (by decide +kernel)) rfl (fun _ _ _ _ _ => rfl) (fun A outer s H E f c' hrl => pd_call (ok_best_rule T Dd S Lm) (hrl.mono (by decide)) (by rfl) (L2N.takes_of rfl rfl rfl rfl) (pda_cons (pd_int) (pda_cons (pd_int) (pda_cons (pd_tup (pda_cons (pd_int) (pda_cons (pd_int) (pda_nil)))) (pda_cons (pd_int) (pda_cons (pd_var (i := 8) rfl (by first | exact .inr (.inl rfl) | exact .inr (.inr rfl)) nm_chance.1 nm_chance.2.1) (pda_nil)))))) rfl nm_best_rule.1) nm__law_fails.1 nm_call.1 nm_call.2.1) (by decide)) dComp_lst)) rfl (.inr rfl)) (
  pssd_cons (psd_set (i := 3) sc__law_errors.nd rfl (.inl rfl) (pd_bin od_addA (pd_bin od_addA (pd_bin od_addA (pd_bin od_mulA (pdo_pd (pdo_lst (pda_cons (pd_str) (pda_nil))) dLst_lst) (pd_int)) (pdo_pd (pdo_lst (pda_cons (pd_str) (pda_nil))) dLst_lst)) (pd_bin od_mulA (pdo_pd (pdo_lst (pda_cons (pd_str) (pda_nil))) dLst_lst) (pd_int))) (pd_bin od_mulA (pdo_pd (pdo_lst (pda_cons (pd_str) (pda_nil))) dLst_lst) (pd_int))) rfl (.inr rfl)) (
  pssd_one (psd_ret (pd_cmp (od_eq hr.units) (pd_var (i := 1) rfl (.inl rfl) nm_words.1 nm_words.2.1) (pd_bin od_addA (pd_bin od_addA (pd_bin od_addA (pd_bin od_addA (pd_bin od_addA (pd_bin od_addA (pd_bin od_mulA (pd_var (i := 3) rfl (.inl rfl) nm_first.1 nm_first.2.1) (pd_int)) (pd_bin od_mulA (pdo_pd (pdo_lst (pda_cons (pd_str) (pda_nil))) dLst_lst) (pd_int))) (pd_bin od_mulA (pdo_pd (pdo_lst (pda_cons (pd_str) (pda_nil))) dLst_lst) (pd_int))) (pd_bin od_mulA (pdo_pd (pdo_lst (pda_cons (pd_str) (pda_nil))) dLst_lst) (pd_int))) (pd_bin od_mulA (pdo_pd (pdo_lst (pda_cons (pd_str) (pda_nil))) dLst_lst) (pd_int))) (pd_bin od_mulA (pdo_pd (pdo_lst (pda_cons (pd_str) (pda_nil))) dLst_lst) (pd_int))) (pd_bin od_mulA (pdo_pd (pdo_lst (pda_cons (pd_str) (pda_nil))) dLst_lst) (pd_int))) (nomark _))))))))))))))))
theorem ok_law (T : Tp K mg) (Dd : Df K mg) (S : XcK K mg (zp TT) sub_ 4) (Lm : Lms base K mg TT) {f : Addr} {fd : FuncData} (F : L2.Fun K "law" "law" st_law f fd) (hden : ∀ ns : List Int, ∃ c, run_law (cup0 ns) = .rt (.bl true) c) : FnOk P w K mg base (L2N.CX P w) 44 f fd ["script"] (spLaw K TT) := by
  obtain ⟨fC, fdC, mC, FC, bC⟩ := Dd.d__law_cup
  refine okN (k := 43) F sc_law (fun vs H Q E h => ?_) (fun cdv A outer s H vs Q E hr h => ?_)
  · obtain ⟨a, ns, rfl, _⟩ := h
    rfl
  · obtain ⟨a, ns, rfl, hT, hS, hlen, q⟩ := h
    exact law_start (X := cxOf (L2N.CX P w) P w K mg base Nm_law "law" (defScope st_law) f cdv A outer s H E) (Z := zp TT) (σ := L2.start Nm_law [.ref a]) (Q := Q) (rest := (defBody st_law).tail) (W := fun cls d _ H => E cls d H) (n := 5) (i := 1) (ok__law_cup T FC) mC FC.kp bC (hr.mono (by decide)) sc_law.nd rfl rfl (by decide) (by decide) (.inl rfl) (.inl rfl) (.inr rfl) (by rfl)
      (fun N => pssd_cons (psd_for (is := [2]) (passes_of rfl) rfl (pdi_rng1 (by rfl) T.n_range (pda_cons (pd_int) (pda_nil))) (pgd_name (i := 2) sc_law.nd rfl (.inl rfl) (.inr rfl)) (pssd_cons (psd_set (i := 3) sc_law.nd rfl (.inl rfl) (pd_call (ok__law_some T Dd S Lm) (hr.mono (by decide)) (by rfl) (L2N.takes_of rfl rfl rfl rfl) (pda_cons (pd_var (i := 1) rfl (.inl rfl) nm_cup.1 nm_cup.2.1) (pda_cons (pdo_pd (pdo_lst (pda_cons (pd_bin od_addA (pd_int) (pd_call (ok__law_roll T Dd S Lm) (hr.mono (by decide)) (by rfl) (L2N.takes_of rfl rfl rfl rfl) (pda_cons (pd_var (i := 1) rfl (.inl rfl) nm_cup.1 nm_cup.2.1) (pda_cons (pd_int) (pda_nil))) rfl nm__law_roll.1)) (pda_cons (pd_int) (pda_cons (pd_bin od_addA (pd_int) (pd_call (ok__law_roll T Dd S Lm) (hr.mono (by decide)) (by rfl) (L2N.takes_of rfl rfl rfl rfl) (pda_cons (pd_var (i := 1) rfl (.inl rfl) nm_cup.1 nm_cup.2.1) (pda_cons (pd_int) (pda_nil))) rfl nm__law_roll.1)) (pda_nil))))) dLst_lst) (pda_nil))) rfl nm__law_some.1) rfl (.inr rfl)) (
  pssd_cons (psd_set (i := 4) sc_law.nd rfl (.inl rfl) (pd_call (ok__law_roll T Dd S Lm) (hr.mono (by decide)) (by rfl) (L2N.takes_of rfl rfl rfl rfl) (pda_cons (pd_var (i := 1) rfl (.inl rfl) nm_cup.1 nm_cup.2.1) (pda_cons (pd_bin od_addA (pd_var (i := 3) rfl (.inl rfl) nm_crates.1 nm_crates.2.1) (pd_int)) (pda_nil))) rfl nm__law_roll.1) rfl (.inr rfl)) (
  pssd_one (psd_if (pdt_not (pdt_e (pd_call (ok__law_rule_right T Dd S Lm) (hr.mono (by decide)) (by rfl) (L2N.takes_of rfl rfl rfl rfl) (pda_cons (pd_var (i := 1) rfl (.inl rfl) nm_cup.1 nm_cup.2.1) (pda_cons (pd_var (i := 3) rfl (.inl rfl) nm_crates.1 nm_crates.2.1) (pda_cons (pd_tup (pda_cons (pd_var (i := 4) rfl (.inl rfl) nm_drawn.1 nm_drawn.2.1) (pda_cons (pd_call (ok__law_some T Dd S Lm) (hr.mono (by decide)) (by rfl) (L2N.takes_of rfl rfl rfl rfl) (pda_cons (pd_var (i := 1) rfl (.inl rfl) nm_cup.1 nm_cup.2.1) (pda_cons (pdo_pd (pdo_lst (pda_cons (pd_int) (pda_cons (pd_bin od_fdiv (pd_var (i := 4) rfl (.inl rfl) nm_drawn.1 nm_drawn.2.1) (pd_int)) (pda_cons (pd_var (i := 4) rfl (.inl rfl) nm_drawn.1 nm_drawn.2.1) (pda_nil))))) dLst_lst) (pda_nil))) rfl nm__law_some.1) (pda_nil)))) (pda_nil)))) rfl nm__law_rule_right.1))) (pssd_one (psd_ret (pd_bl))) (pssd_nil)))))) (
  pssd_cons (psd_for (is := [2]) (passes_of rfl) rfl (pdi_rng1 (by rfl) T.n_range (pda_cons (pd_int) (pda_nil))) (pgd_name (i := 2) sc_law.nd rfl (.inl rfl) (.inr rfl)) (pssd_one (psd_if (pdt_not (pdt_e (pd_call (ok__law_least_right T Dd S Lm) (hr.mono (by decide)) (by rfl) (L2N.takes_of rfl rfl rfl rfl) (pda_cons (pd_var (i := 1) rfl (.inl rfl) nm_cup.1 nm_cup.2.1) (pda_cons (pd_bin od_addA (pd_int) (pd_call (ok__law_roll T Dd S Lm) (hr.mono (by decide)) (by rfl) (L2N.takes_of rfl rfl rfl rfl) (pda_cons (pd_var (i := 1) rfl (.inl rfl) nm_cup.1 nm_cup.2.1) (pda_cons (pd_int) (pda_nil))) rfl nm__law_roll.1)) (pda_nil))) rfl nm__law_least_right.1))) (pssd_one (psd_ret (pd_bl))) (pssd_nil)))) (
  pssd_one (psd_ret (pd_and (pd_call0 (ok__law_written T Dd S Lm) (hr.mono (by decide)) (by rfl) (L2N.takes_of rfl rfl rfl rfl) nm__law_written.1) (pd_one (pd_call (ok__law_errors T Dd S Lm) (hr.mono (by decide)) (by rfl) (L2N.takes_of rfl rfl rfl rfl) (pda_cons (pd_var (i := 1) rfl (.inl rfl) nm_cup.1 nm_cup.2.1) (pda_nil)) rfl nm__law_errors.1))))))) hden rfl rfl rfl hT hS hlen q
end
end K68

set_option Elab.async false
set_option linter.all false
set_option maxRecDepth 100000
set_option maxHeartbeats 4000000
set_option autoImplicit false
namespace K68
open PySem PySem.Spec PyProof.Rows L2 LamX DL
theorem all_mk {l : PySem.W.OpenLaw} {w : World} {K : PySem.W.Frag} {h : Heap} {mg : Str → Option Value} {fa : Addr} (X : K.In h) (G : h.Ns mainGlobals mg) (hfa : mg "law" = some (.ref fa))
    (tab : ∀ t ∈ (["_law_errors"] : List Str), ∀ c P, PySem.W.tabIn K t = some (c, P) → PySem.W.CodeHd h c P ∧ h.get? P = some { cls := .none, data := .fields #[] })
    {f_is_whole : Addr} {oc_is_whole kV_is_whole dc_is_whole pm_is_whole ct_is_whole cd_is_whole : Value} {od_is_whole an_is_whole : Option Addr} {sl_is_whole : Array (Option Value)}
    {f_is_tuple_of : Addr} {oc_is_tuple_of kV_is_tuple_of dc_is_tuple_of pm_is_tuple_of ct_is_tuple_of cd_is_tuple_of : Value} {od_is_tuple_of an_is_tuple_of : Option Addr} {sl_is_tuple_of : Array (Option Value)}
    {f_lowest : Addr} {oc_lowest kV_lowest dc_lowest pm_lowest ct_lowest cd_lowest : Value} {od_lowest an_lowest : Option Addr} {sl_lowest : Array (Option Value)}
    {f_order_in : Addr} {oc_order_in kV_order_in dc_order_in pm_order_in ct_order_in cd_order_in : Value} {od_order_in an_order_in : Option Addr} {sl_order_in : Array (Option Value)}
    {f_found_ways : Addr} {oc_found_ways kV_found_ways dc_found_ways pm_found_ways ct_found_ways cd_found_ways : Value} {od_found_ways an_found_ways : Option Addr} {sl_found_ways : Array (Option Value)}
    {f__law_cup : Addr} {oc__law_cup kV__law_cup dc__law_cup pm__law_cup ct__law_cup cd__law_cup : Value} {od__law_cup an__law_cup : Option Addr} {sl__law_cup : Array (Option Value)}
    {f__law_roll : Addr} {oc__law_roll kV__law_roll dc__law_roll pm__law_roll ct__law_roll cd__law_roll : Value} {od__law_roll an__law_roll : Option Addr} {sl__law_roll : Array (Option Value)}
    {f__law_sort : Addr} {oc__law_sort kV__law_sort dc__law_sort pm__law_sort ct__law_sort cd__law_sort : Value} {od__law_sort an__law_sort : Option Addr} {sl__law_sort : Array (Option Value)}
    {f__law_gcd : Addr} {oc__law_gcd kV__law_gcd dc__law_gcd pm__law_gcd ct__law_gcd cd__law_gcd : Value} {od__law_gcd an__law_gcd : Option Addr} {sl__law_gcd : Array (Option Value)}
    {f__law_choose : Addr} {oc__law_choose kV__law_choose dc__law_choose pm__law_choose ct__law_choose cd__law_choose : Value} {od__law_choose an__law_choose : Option Addr} {sl__law_choose : Array (Option Value)}
    {f__law_fails : Addr} {oc__law_fails kV__law_fails dc__law_fails pm__law_fails ct__law_fails cd__law_fails : Value} {od__law_fails an__law_fails : Option Addr} {sl__law_fails : Array (Option Value)}
    {f__law_at_most : Addr} {oc__law_at_most kV__law_at_most dc__law_at_most pm__law_at_most ct__law_at_most cd__law_at_most : Value} {od__law_at_most an__law_at_most : Option Addr} {sl__law_at_most : Array (Option Value)}
    {f__law_at_least : Addr} {oc__law_at_least kV__law_at_least dc__law_at_least pm__law_at_least ct__law_at_least cd__law_at_least : Value} {od__law_at_least an__law_at_least : Option Addr} {sl__law_at_least : Array (Option Value)}
    {f_need_whole : Addr} {oc_need_whole kV_need_whole dc_need_whole pm_need_whole ct_need_whole cd_need_whole : Value} {od_need_whole an_need_whole : Option Addr} {sl_need_whole : Array (Option Value)}
    {f_is_ratio : Addr} {oc_is_ratio kV_is_ratio dc_is_ratio pm_is_ratio ct_is_ratio cd_is_ratio : Value} {od_is_ratio an_is_ratio : Option Addr} {sl_is_ratio : Array (Option Value)}
    {f_is_rule_for : Addr} {oc_is_rule_for kV_is_rule_for dc_is_rule_for pm_is_rule_for ct_is_rule_for cd_is_rule_for : Value} {od_is_rule_for an_is_rule_for : Option Addr} {sl_is_rule_for : Array (Option Value)}
    {f_chance_in : Addr} {oc_chance_in kV_chance_in dc_chance_in pm_chance_in ct_chance_in cd_chance_in : Value} {od_chance_in an_chance_in : Option Addr} {sl_chance_in : Array (Option Value)}
    {f__law_some : Addr} {oc__law_some kV__law_some dc__law_some pm__law_some ct__law_some cd__law_some : Value} {od__law_some an__law_some : Option Addr} {sl__law_some : Array (Option Value)}
    {f__law_like : Addr} {oc__law_like kV__law_like dc__law_like pm__law_like ct__law_like cd__law_like : Value} {od__law_like an__law_like : Option Addr} {sl__law_like : Array (Option Value)}
    {f__law_ratio : Addr} {oc__law_ratio kV__law_ratio dc__law_ratio pm__law_ratio ct__law_ratio cd__law_ratio : Value} {od__law_ratio an__law_ratio : Option Addr} {sl__law_ratio : Array (Option Value)}
    {f__law_chance : Addr} {oc__law_chance kV__law_chance dc__law_chance pm__law_chance ct__law_chance cd__law_chance : Value} {od__law_chance an__law_chance : Option Addr} {sl__law_chance : Array (Option Value)}
    {f_need_lot : Addr} {oc_need_lot kV_need_lot dc_need_lot pm_need_lot ct_need_lot cd_need_lot : Value} {od_need_lot an_need_lot : Option Addr} {sl_need_lot : Array (Option Value)}
    {f_need_rule : Addr} {oc_need_rule kV_need_rule dc_need_rule pm_need_rule ct_need_rule cd_need_rule : Value} {od_need_rule an_need_rule : Option Addr} {sl_need_rule : Array (Option Value)}
    {f_need_chance : Addr} {oc_need_chance kV_need_chance dc_need_chance pm_need_chance ct_need_chance cd_need_chance : Value} {od_need_chance an_need_chance : Option Addr} {sl_need_chance : Array (Option Value)}
    {f_is_small : Addr} {oc_is_small kV_is_small dc_is_small pm_is_small ct_is_small cd_is_small : Value} {od_is_small an_is_small : Option Addr} {sl_is_small : Array (Option Value)}
    {f_is_great : Addr} {oc_is_great kV_is_great dc_is_great pm_is_great ct_is_great cd_is_great : Value} {od_is_great an_is_great : Option Addr} {sl_is_great : Array (Option Value)}
    {f__law_near : Addr} {oc__law_near kV__law_near dc__law_near pm__law_near ct__law_near cd__law_near : Value} {od__law_near an__law_near : Option Addr} {sl__law_near : Array (Option Value)}
    {f_checked : Addr} {oc_checked kV_checked dc_checked pm_checked ct_checked cd_checked : Value} {od_checked an_checked : Option Addr} {sl_checked : Array (Option Value)}
    {f_least_drawn : Addr} {oc_least_drawn kV_least_drawn dc_least_drawn pm_least_drawn ct_least_drawn cd_least_drawn : Value} {od_least_drawn an_least_drawn : Option Addr} {sl_least_drawn : Array (Option Value)}
    {f_best_rule : Addr} {oc_best_rule kV_best_rule dc_best_rule pm_best_rule ct_best_rule cd_best_rule : Value} {od_best_rule an_best_rule : Option Addr} {sl_best_rule : Array (Option Value)}
    {f_protects : Addr} {oc_protects kV_protects dc_protects pm_protects ct_protects cd_protects : Value} {od_protects an_protects : Option Addr} {sl_protects : Array (Option Value)}
    {f_serves : Addr} {oc_serves kV_serves dc_serves pm_serves ct_serves cd_serves : Value} {od_serves an_serves : Option Addr} {sl_serves : Array (Option Value)}
    {f__law_least_right : Addr} {oc__law_least_right kV__law_least_right dc__law_least_right pm__law_least_right ct__law_least_right cd__law_least_right : Value} {od__law_least_right an__law_least_right : Option Addr} {sl__law_least_right : Array (Option Value)}
    {f__law_rule_right : Addr} {oc__law_rule_right kV__law_rule_right dc__law_rule_right pm__law_rule_right ct__law_rule_right cd__law_rule_right : Value} {od__law_rule_right an__law_rule_right : Option Addr} {sl__law_rule_right : Array (Option Value)}
    {f__law_written : Addr} {oc__law_written kV__law_written dc__law_written pm__law_written ct__law_written cd__law_written : Value} {od__law_written an__law_written : Option Addr} {sl__law_written : Array (Option Value)}
    {f__law_errors : Addr} {oc__law_errors kV__law_errors dc__law_errors pm__law_errors ct__law_errors : Value} {od__law_errors an__law_errors : Option Addr} {sl__law_errors : Array (Option Value)}
    {c__law_errors P__law_errors : Addr}
    {ce__law_errors : Value} {cx__law_errors : Option Addr} {cv__law_errors : Array Value} {cs__law_errors : Array (Option Value)}
    {f_law : Addr} {oc_law kV_law dc_law pm_law ct_law cd_law : Value} {od_law an_law : Option Addr} {sl_law : Array (Option Value)}
    {C_HallError : Addr}
    {C_InvalidNumber : Addr}
    {C_InvalidRatio : Addr}
    {C_InvalidRule : Addr}
    {tk_CRATES : Tok}
    {tk_GREAT : Tok}
    (a_is_whole : PySem.W.nsIn K mainGlobals "is_whole" = some (some (.ref f_is_whole)))
    (l_is_whole : K.lookup f_is_whole = some ⟨oc_is_whole, od_is_whole, .func (PySem.W.fnOf "is_whole" "is_whole" (defArgs st_is_whole) (defBody st_is_whole) (defScope st_is_whole) .none kV_is_whole dc_is_whole pm_is_whole an_is_whole cd_is_whole ct_is_whole), sl_is_whole⟩)
    (b_is_whole : PySem.W.codeIn K cd_is_whole "is_whole" = true)
    (k_is_whole : PySem.W.keepIn K (.ref f_is_whole) = true)
    (a_is_tuple_of : PySem.W.nsIn K mainGlobals "is_tuple_of" = some (some (.ref f_is_tuple_of)))
    (l_is_tuple_of : K.lookup f_is_tuple_of = some ⟨oc_is_tuple_of, od_is_tuple_of, .func (PySem.W.fnOf "is_tuple_of" "is_tuple_of" (defArgs st_is_tuple_of) (defBody st_is_tuple_of) (defScope st_is_tuple_of) .none kV_is_tuple_of dc_is_tuple_of pm_is_tuple_of an_is_tuple_of cd_is_tuple_of ct_is_tuple_of), sl_is_tuple_of⟩)
    (b_is_tuple_of : PySem.W.codeIn K cd_is_tuple_of "is_tuple_of" = true)
    (k_is_tuple_of : PySem.W.keepIn K (.ref f_is_tuple_of) = true)
    (a_lowest : PySem.W.nsIn K mainGlobals "lowest" = some (some (.ref f_lowest)))
    (l_lowest : K.lookup f_lowest = some ⟨oc_lowest, od_lowest, .func (PySem.W.fnOf "lowest" "lowest" (defArgs st_lowest) (defBody st_lowest) (defScope st_lowest) .none kV_lowest dc_lowest pm_lowest an_lowest cd_lowest ct_lowest), sl_lowest⟩)
    (b_lowest : PySem.W.codeIn K cd_lowest "lowest" = true)
    (k_lowest : PySem.W.keepIn K (.ref f_lowest) = true)
    (a_order_in : PySem.W.nsIn K mainGlobals "order_in" = some (some (.ref f_order_in)))
    (l_order_in : K.lookup f_order_in = some ⟨oc_order_in, od_order_in, .func (PySem.W.fnOf "order_in" "order_in" (defArgs st_order_in) (defBody st_order_in) (defScope st_order_in) .none kV_order_in dc_order_in pm_order_in an_order_in cd_order_in ct_order_in), sl_order_in⟩)
    (b_order_in : PySem.W.codeIn K cd_order_in "order_in" = true)
    (k_order_in : PySem.W.keepIn K (.ref f_order_in) = true)
    (a_found_ways : PySem.W.nsIn K mainGlobals "found_ways" = some (some (.ref f_found_ways)))
    (l_found_ways : K.lookup f_found_ways = some ⟨oc_found_ways, od_found_ways, .func (PySem.W.fnOf "found_ways" "found_ways" (defArgs st_found_ways) (defBody st_found_ways) (defScope st_found_ways) .none kV_found_ways dc_found_ways pm_found_ways an_found_ways cd_found_ways ct_found_ways), sl_found_ways⟩)
    (b_found_ways : PySem.W.codeIn K cd_found_ways "found_ways" = true)
    (k_found_ways : PySem.W.keepIn K (.ref f_found_ways) = true)
    (a__law_cup : PySem.W.nsIn K mainGlobals "_law_cup" = some (some (.ref f__law_cup)))
    (l__law_cup : K.lookup f__law_cup = some ⟨oc__law_cup, od__law_cup, .func (PySem.W.fnOf "_law_cup" "_law_cup" (defArgs st__law_cup) (defBody st__law_cup) (defScope st__law_cup) .none kV__law_cup dc__law_cup pm__law_cup an__law_cup cd__law_cup ct__law_cup), sl__law_cup⟩)
    (b__law_cup : PySem.W.codeIn K cd__law_cup "_law_cup" = true)
    (k__law_cup : PySem.W.keepIn K (.ref f__law_cup) = true)
    (a__law_roll : PySem.W.nsIn K mainGlobals "_law_roll" = some (some (.ref f__law_roll)))
    (l__law_roll : K.lookup f__law_roll = some ⟨oc__law_roll, od__law_roll, .func (PySem.W.fnOf "_law_roll" "_law_roll" (defArgs st__law_roll) (defBody st__law_roll) (defScope st__law_roll) .none kV__law_roll dc__law_roll pm__law_roll an__law_roll cd__law_roll ct__law_roll), sl__law_roll⟩)
    (b__law_roll : PySem.W.codeIn K cd__law_roll "_law_roll" = true)
    (k__law_roll : PySem.W.keepIn K (.ref f__law_roll) = true)
    (a__law_sort : PySem.W.nsIn K mainGlobals "_law_sort" = some (some (.ref f__law_sort)))
    (l__law_sort : K.lookup f__law_sort = some ⟨oc__law_sort, od__law_sort, .func (PySem.W.fnOf "_law_sort" "_law_sort" (defArgs st__law_sort) (defBody st__law_sort) (defScope st__law_sort) .none kV__law_sort dc__law_sort pm__law_sort an__law_sort cd__law_sort ct__law_sort), sl__law_sort⟩)
    (b__law_sort : PySem.W.codeIn K cd__law_sort "_law_sort" = true)
    (k__law_sort : PySem.W.keepIn K (.ref f__law_sort) = true)
    (a__law_gcd : PySem.W.nsIn K mainGlobals "_law_gcd" = some (some (.ref f__law_gcd)))
    (l__law_gcd : K.lookup f__law_gcd = some ⟨oc__law_gcd, od__law_gcd, .func (PySem.W.fnOf "_law_gcd" "_law_gcd" (defArgs st__law_gcd) (defBody st__law_gcd) (defScope st__law_gcd) .none kV__law_gcd dc__law_gcd pm__law_gcd an__law_gcd cd__law_gcd ct__law_gcd), sl__law_gcd⟩)
    (b__law_gcd : PySem.W.codeIn K cd__law_gcd "_law_gcd" = true)
    (k__law_gcd : PySem.W.keepIn K (.ref f__law_gcd) = true)
    (a__law_choose : PySem.W.nsIn K mainGlobals "_law_choose" = some (some (.ref f__law_choose)))
    (l__law_choose : K.lookup f__law_choose = some ⟨oc__law_choose, od__law_choose, .func (PySem.W.fnOf "_law_choose" "_law_choose" (defArgs st__law_choose) (defBody st__law_choose) (defScope st__law_choose) .none kV__law_choose dc__law_choose pm__law_choose an__law_choose cd__law_choose ct__law_choose), sl__law_choose⟩)
    (b__law_choose : PySem.W.codeIn K cd__law_choose "_law_choose" = true)
    (k__law_choose : PySem.W.keepIn K (.ref f__law_choose) = true)
    (a__law_fails : PySem.W.nsIn K mainGlobals "_law_fails" = some (some (.ref f__law_fails)))
    (l__law_fails : K.lookup f__law_fails = some ⟨oc__law_fails, od__law_fails, .func (PySem.W.fnOf "_law_fails" "_law_fails" (defArgs st__law_fails) (defBody st__law_fails) (defScope st__law_fails) .none kV__law_fails dc__law_fails pm__law_fails an__law_fails cd__law_fails ct__law_fails), sl__law_fails⟩)
    (b__law_fails : PySem.W.codeIn K cd__law_fails "_law_fails" = true)
    (k__law_fails : PySem.W.keepIn K (.ref f__law_fails) = true)
    (a__law_at_most : PySem.W.nsIn K mainGlobals "_law_at_most" = some (some (.ref f__law_at_most)))
    (l__law_at_most : K.lookup f__law_at_most = some ⟨oc__law_at_most, od__law_at_most, .func (PySem.W.fnOf "_law_at_most" "_law_at_most" (defArgs st__law_at_most) (defBody st__law_at_most) (defScope st__law_at_most) .none kV__law_at_most dc__law_at_most pm__law_at_most an__law_at_most cd__law_at_most ct__law_at_most), sl__law_at_most⟩)
    (b__law_at_most : PySem.W.codeIn K cd__law_at_most "_law_at_most" = true)
    (k__law_at_most : PySem.W.keepIn K (.ref f__law_at_most) = true)
    (a__law_at_least : PySem.W.nsIn K mainGlobals "_law_at_least" = some (some (.ref f__law_at_least)))
    (l__law_at_least : K.lookup f__law_at_least = some ⟨oc__law_at_least, od__law_at_least, .func (PySem.W.fnOf "_law_at_least" "_law_at_least" (defArgs st__law_at_least) (defBody st__law_at_least) (defScope st__law_at_least) .none kV__law_at_least dc__law_at_least pm__law_at_least an__law_at_least cd__law_at_least ct__law_at_least), sl__law_at_least⟩)
    (b__law_at_least : PySem.W.codeIn K cd__law_at_least "_law_at_least" = true)
    (k__law_at_least : PySem.W.keepIn K (.ref f__law_at_least) = true)
    (a_need_whole : PySem.W.nsIn K mainGlobals "need_whole" = some (some (.ref f_need_whole)))
    (l_need_whole : K.lookup f_need_whole = some ⟨oc_need_whole, od_need_whole, .func (PySem.W.fnOf "need_whole" "need_whole" (defArgs st_need_whole) (defBody st_need_whole) (defScope st_need_whole) .none kV_need_whole dc_need_whole pm_need_whole an_need_whole cd_need_whole ct_need_whole), sl_need_whole⟩)
    (b_need_whole : PySem.W.codeIn K cd_need_whole "need_whole" = true)
    (k_need_whole : PySem.W.keepIn K (.ref f_need_whole) = true)
    (a_is_ratio : PySem.W.nsIn K mainGlobals "is_ratio" = some (some (.ref f_is_ratio)))
    (l_is_ratio : K.lookup f_is_ratio = some ⟨oc_is_ratio, od_is_ratio, .func (PySem.W.fnOf "is_ratio" "is_ratio" (defArgs st_is_ratio) (defBody st_is_ratio) (defScope st_is_ratio) .none kV_is_ratio dc_is_ratio pm_is_ratio an_is_ratio cd_is_ratio ct_is_ratio), sl_is_ratio⟩)
    (b_is_ratio : PySem.W.codeIn K cd_is_ratio "is_ratio" = true)
    (k_is_ratio : PySem.W.keepIn K (.ref f_is_ratio) = true)
    (a_is_rule_for : PySem.W.nsIn K mainGlobals "is_rule_for" = some (some (.ref f_is_rule_for)))
    (l_is_rule_for : K.lookup f_is_rule_for = some ⟨oc_is_rule_for, od_is_rule_for, .func (PySem.W.fnOf "is_rule_for" "is_rule_for" (defArgs st_is_rule_for) (defBody st_is_rule_for) (defScope st_is_rule_for) .none kV_is_rule_for dc_is_rule_for pm_is_rule_for an_is_rule_for cd_is_rule_for ct_is_rule_for), sl_is_rule_for⟩)
    (b_is_rule_for : PySem.W.codeIn K cd_is_rule_for "is_rule_for" = true)
    (k_is_rule_for : PySem.W.keepIn K (.ref f_is_rule_for) = true)
    (a_chance_in : PySem.W.nsIn K mainGlobals "chance_in" = some (some (.ref f_chance_in)))
    (l_chance_in : K.lookup f_chance_in = some ⟨oc_chance_in, od_chance_in, .func (PySem.W.fnOf "chance_in" "chance_in" (defArgs st_chance_in) (defBody st_chance_in) (defScope st_chance_in) .none kV_chance_in dc_chance_in pm_chance_in an_chance_in cd_chance_in ct_chance_in), sl_chance_in⟩)
    (b_chance_in : PySem.W.codeIn K cd_chance_in "chance_in" = true)
    (k_chance_in : PySem.W.keepIn K (.ref f_chance_in) = true)
    (a__law_some : PySem.W.nsIn K mainGlobals "_law_some" = some (some (.ref f__law_some)))
    (l__law_some : K.lookup f__law_some = some ⟨oc__law_some, od__law_some, .func (PySem.W.fnOf "_law_some" "_law_some" (defArgs st__law_some) (defBody st__law_some) (defScope st__law_some) .none kV__law_some dc__law_some pm__law_some an__law_some cd__law_some ct__law_some), sl__law_some⟩)
    (b__law_some : PySem.W.codeIn K cd__law_some "_law_some" = true)
    (k__law_some : PySem.W.keepIn K (.ref f__law_some) = true)
    (a__law_like : PySem.W.nsIn K mainGlobals "_law_like" = some (some (.ref f__law_like)))
    (l__law_like : K.lookup f__law_like = some ⟨oc__law_like, od__law_like, .func (PySem.W.fnOf "_law_like" "_law_like" (defArgs st__law_like) (defBody st__law_like) (defScope st__law_like) .none kV__law_like dc__law_like pm__law_like an__law_like cd__law_like ct__law_like), sl__law_like⟩)
    (b__law_like : PySem.W.codeIn K cd__law_like "_law_like" = true)
    (k__law_like : PySem.W.keepIn K (.ref f__law_like) = true)
    (a__law_ratio : PySem.W.nsIn K mainGlobals "_law_ratio" = some (some (.ref f__law_ratio)))
    (l__law_ratio : K.lookup f__law_ratio = some ⟨oc__law_ratio, od__law_ratio, .func (PySem.W.fnOf "_law_ratio" "_law_ratio" (defArgs st__law_ratio) (defBody st__law_ratio) (defScope st__law_ratio) .none kV__law_ratio dc__law_ratio pm__law_ratio an__law_ratio cd__law_ratio ct__law_ratio), sl__law_ratio⟩)
    (b__law_ratio : PySem.W.codeIn K cd__law_ratio "_law_ratio" = true)
    (k__law_ratio : PySem.W.keepIn K (.ref f__law_ratio) = true)
    (a__law_chance : PySem.W.nsIn K mainGlobals "_law_chance" = some (some (.ref f__law_chance)))
    (l__law_chance : K.lookup f__law_chance = some ⟨oc__law_chance, od__law_chance, .func (PySem.W.fnOf "_law_chance" "_law_chance" (defArgs st__law_chance) (defBody st__law_chance) (defScope st__law_chance) .none kV__law_chance dc__law_chance pm__law_chance an__law_chance cd__law_chance ct__law_chance), sl__law_chance⟩)
    (b__law_chance : PySem.W.codeIn K cd__law_chance "_law_chance" = true)
    (k__law_chance : PySem.W.keepIn K (.ref f__law_chance) = true)
    (a_need_lot : PySem.W.nsIn K mainGlobals "need_lot" = some (some (.ref f_need_lot)))
    (l_need_lot : K.lookup f_need_lot = some ⟨oc_need_lot, od_need_lot, .func (PySem.W.fnOf "need_lot" "need_lot" (defArgs st_need_lot) (defBody st_need_lot) (defScope st_need_lot) .none kV_need_lot dc_need_lot pm_need_lot an_need_lot cd_need_lot ct_need_lot), sl_need_lot⟩)
    (b_need_lot : PySem.W.codeIn K cd_need_lot "need_lot" = true)
    (k_need_lot : PySem.W.keepIn K (.ref f_need_lot) = true)
    (a_need_rule : PySem.W.nsIn K mainGlobals "need_rule" = some (some (.ref f_need_rule)))
    (l_need_rule : K.lookup f_need_rule = some ⟨oc_need_rule, od_need_rule, .func (PySem.W.fnOf "need_rule" "need_rule" (defArgs st_need_rule) (defBody st_need_rule) (defScope st_need_rule) .none kV_need_rule dc_need_rule pm_need_rule an_need_rule cd_need_rule ct_need_rule), sl_need_rule⟩)
    (b_need_rule : PySem.W.codeIn K cd_need_rule "need_rule" = true)
    (k_need_rule : PySem.W.keepIn K (.ref f_need_rule) = true)
    (a_need_chance : PySem.W.nsIn K mainGlobals "need_chance" = some (some (.ref f_need_chance)))
    (l_need_chance : K.lookup f_need_chance = some ⟨oc_need_chance, od_need_chance, .func (PySem.W.fnOf "need_chance" "need_chance" (defArgs st_need_chance) (defBody st_need_chance) (defScope st_need_chance) .none kV_need_chance dc_need_chance pm_need_chance an_need_chance cd_need_chance ct_need_chance), sl_need_chance⟩)
    (b_need_chance : PySem.W.codeIn K cd_need_chance "need_chance" = true)
    (k_need_chance : PySem.W.keepIn K (.ref f_need_chance) = true)
    (a_is_small : PySem.W.nsIn K mainGlobals "is_small" = some (some (.ref f_is_small)))
    (l_is_small : K.lookup f_is_small = some ⟨oc_is_small, od_is_small, .func (PySem.W.fnOf "is_small" "is_small" (defArgs st_is_small) (defBody st_is_small) (defScope st_is_small) .none kV_is_small dc_is_small pm_is_small an_is_small cd_is_small ct_is_small), sl_is_small⟩)
    (b_is_small : PySem.W.codeIn K cd_is_small "is_small" = true)
    (k_is_small : PySem.W.keepIn K (.ref f_is_small) = true)
    (a_is_great : PySem.W.nsIn K mainGlobals "is_great" = some (some (.ref f_is_great)))
    (l_is_great : K.lookup f_is_great = some ⟨oc_is_great, od_is_great, .func (PySem.W.fnOf "is_great" "is_great" (defArgs st_is_great) (defBody st_is_great) (defScope st_is_great) .none kV_is_great dc_is_great pm_is_great an_is_great cd_is_great ct_is_great), sl_is_great⟩)
    (b_is_great : PySem.W.codeIn K cd_is_great "is_great" = true)
    (k_is_great : PySem.W.keepIn K (.ref f_is_great) = true)
    (a__law_near : PySem.W.nsIn K mainGlobals "_law_near" = some (some (.ref f__law_near)))
    (l__law_near : K.lookup f__law_near = some ⟨oc__law_near, od__law_near, .func (PySem.W.fnOf "_law_near" "_law_near" (defArgs st__law_near) (defBody st__law_near) (defScope st__law_near) .none kV__law_near dc__law_near pm__law_near an__law_near cd__law_near ct__law_near), sl__law_near⟩)
    (b__law_near : PySem.W.codeIn K cd__law_near "_law_near" = true)
    (k__law_near : PySem.W.keepIn K (.ref f__law_near) = true)
    (a_checked : PySem.W.nsIn K mainGlobals "checked" = some (some (.ref f_checked)))
    (l_checked : K.lookup f_checked = some ⟨oc_checked, od_checked, .func (PySem.W.fnOf "checked" "checked" (defArgs st_checked) (defBody st_checked) (defScope st_checked) .none kV_checked dc_checked pm_checked an_checked cd_checked ct_checked), sl_checked⟩)
    (b_checked : PySem.W.codeIn K cd_checked "checked" = true)
    (k_checked : PySem.W.keepIn K (.ref f_checked) = true)
    (a_least_drawn : PySem.W.nsIn K mainGlobals "least_drawn" = some (some (.ref f_least_drawn)))
    (l_least_drawn : K.lookup f_least_drawn = some ⟨oc_least_drawn, od_least_drawn, .func (PySem.W.fnOf "least_drawn" "least_drawn" (defArgs st_least_drawn) (defBody st_least_drawn) (defScope st_least_drawn) .none kV_least_drawn dc_least_drawn pm_least_drawn an_least_drawn cd_least_drawn ct_least_drawn), sl_least_drawn⟩)
    (b_least_drawn : PySem.W.codeIn K cd_least_drawn "least_drawn" = true)
    (k_least_drawn : PySem.W.keepIn K (.ref f_least_drawn) = true)
    (a_best_rule : PySem.W.nsIn K mainGlobals "best_rule" = some (some (.ref f_best_rule)))
    (l_best_rule : K.lookup f_best_rule = some ⟨oc_best_rule, od_best_rule, .func (PySem.W.fnOf "best_rule" "best_rule" (defArgs st_best_rule) (defBody st_best_rule) (defScope st_best_rule) .none kV_best_rule dc_best_rule pm_best_rule an_best_rule cd_best_rule ct_best_rule), sl_best_rule⟩)
    (b_best_rule : PySem.W.codeIn K cd_best_rule "best_rule" = true)
    (k_best_rule : PySem.W.keepIn K (.ref f_best_rule) = true)
    (a_protects : PySem.W.nsIn K mainGlobals "protects" = some (some (.ref f_protects)))
    (l_protects : K.lookup f_protects = some ⟨oc_protects, od_protects, .func (PySem.W.fnOf "protects" "protects" (defArgs st_protects) (defBody st_protects) (defScope st_protects) .none kV_protects dc_protects pm_protects an_protects cd_protects ct_protects), sl_protects⟩)
    (b_protects : PySem.W.codeIn K cd_protects "protects" = true)
    (k_protects : PySem.W.keepIn K (.ref f_protects) = true)
    (a_serves : PySem.W.nsIn K mainGlobals "serves" = some (some (.ref f_serves)))
    (l_serves : K.lookup f_serves = some ⟨oc_serves, od_serves, .func (PySem.W.fnOf "serves" "serves" (defArgs st_serves) (defBody st_serves) (defScope st_serves) .none kV_serves dc_serves pm_serves an_serves cd_serves ct_serves), sl_serves⟩)
    (b_serves : PySem.W.codeIn K cd_serves "serves" = true)
    (k_serves : PySem.W.keepIn K (.ref f_serves) = true)
    (a__law_least_right : PySem.W.nsIn K mainGlobals "_law_least_right" = some (some (.ref f__law_least_right)))
    (l__law_least_right : K.lookup f__law_least_right = some ⟨oc__law_least_right, od__law_least_right, .func (PySem.W.fnOf "_law_least_right" "_law_least_right" (defArgs st__law_least_right) (defBody st__law_least_right) (defScope st__law_least_right) .none kV__law_least_right dc__law_least_right pm__law_least_right an__law_least_right cd__law_least_right ct__law_least_right), sl__law_least_right⟩)
    (b__law_least_right : PySem.W.codeIn K cd__law_least_right "_law_least_right" = true)
    (k__law_least_right : PySem.W.keepIn K (.ref f__law_least_right) = true)
    (a__law_rule_right : PySem.W.nsIn K mainGlobals "_law_rule_right" = some (some (.ref f__law_rule_right)))
    (l__law_rule_right : K.lookup f__law_rule_right = some ⟨oc__law_rule_right, od__law_rule_right, .func (PySem.W.fnOf "_law_rule_right" "_law_rule_right" (defArgs st__law_rule_right) (defBody st__law_rule_right) (defScope st__law_rule_right) .none kV__law_rule_right dc__law_rule_right pm__law_rule_right an__law_rule_right cd__law_rule_right ct__law_rule_right), sl__law_rule_right⟩)
    (b__law_rule_right : PySem.W.codeIn K cd__law_rule_right "_law_rule_right" = true)
    (k__law_rule_right : PySem.W.keepIn K (.ref f__law_rule_right) = true)
    (a__law_written : PySem.W.nsIn K mainGlobals "_law_written" = some (some (.ref f__law_written)))
    (l__law_written : K.lookup f__law_written = some ⟨oc__law_written, od__law_written, .func (PySem.W.fnOf "_law_written" "_law_written" (defArgs st__law_written) (defBody st__law_written) (defScope st__law_written) .none kV__law_written dc__law_written pm__law_written an__law_written cd__law_written ct__law_written), sl__law_written⟩)
    (b__law_written : PySem.W.codeIn K cd__law_written "_law_written" = true)
    (k__law_written : PySem.W.keepIn K (.ref f__law_written) = true)
    (a__law_errors : PySem.W.nsIn K mainGlobals "_law_errors" = some (some (.ref f__law_errors)))
    (l__law_errors : K.lookup f__law_errors = some ⟨oc__law_errors, od__law_errors, .func (PySem.W.fnOf "_law_errors" "_law_errors" (defArgs st__law_errors) (defBody st__law_errors) (defScope st__law_errors) .none kV__law_errors dc__law_errors pm__law_errors an__law_errors (.ref c__law_errors) ct__law_errors), sl__law_errors⟩)
    (lc__law_errors : K.lookup c__law_errors = some ⟨ce__law_errors, cx__law_errors, .fields cv__law_errors, cs__law_errors⟩)
    (pv__law_errors : cv__law_errors[11]? = some (.ref P__law_errors))
    (u__law_errors : K.lookup P__law_errors = none)
    (b__law_errors : PySem.W.codeIn K (.ref c__law_errors) "_law_errors" = true)
    (k__law_errors : PySem.W.keepIn K (.ref f__law_errors) = true)
    (a_law : PySem.W.nsIn K mainGlobals "law" = some (some (.ref f_law)))
    (l_law : K.lookup f_law = some ⟨oc_law, od_law, .func (PySem.W.fnOf "law" "law" (defArgs st_law) (defBody st_law) (defScope st_law) .none kV_law dc_law pm_law an_law cd_law ct_law), sl_law⟩)
    (b_law : PySem.W.codeIn K cd_law "law" = true)
    (k_law : PySem.W.keepIn K (.ref f_law) = true)
    (x_HallError : PySem.W.nsIn K mainGlobals "HallError" = some (some (.ref C_HallError)))
    (xk_HallError : PySem.W.keepIn K (.ref C_HallError) = true)
    (xe_HallError : PySem.W.excIn K C_HallError [.type "ValueError", .type "Exception", .type "BaseException", .type "object"] "ValueError.__new__" = true)
    (xs_HallError : PySem.W.subIn K (.ref C_HallError) (.type "BaseException") = some true)
    (xt_HallError : PySem.W.typeIn K (.ref C_HallError) = some (.type "type"))
    (xg_HallError : PySem.W.findIn K (.ref C_HallError) "__getattribute__" = some (some (.builtin "BaseException.__getattribute__")))
    (xh_HallError : PySem.W.findIn K (.ref C_HallError) "__getattr__" = some none)
    (xd_HallError : PySem.W.hasDictIn K C_HallError = true)
    (xa_HallError : PySem.W.findIn K (.ref C_HallError) "__class__" = some (some (.builtin "object.__class__")))
    (xm_HallError : PySem.W.mroIn K C_HallError (.type "object") = some true)
    (x_InvalidNumber : PySem.W.nsIn K mainGlobals "InvalidNumber" = some (some (.ref C_InvalidNumber)))
    (xk_InvalidNumber : PySem.W.keepIn K (.ref C_InvalidNumber) = true)
    (xe_InvalidNumber : PySem.W.excIn K C_InvalidNumber [.type "ValueError", .type "Exception", .type "BaseException", .type "object"] "ValueError.__new__" = true)
    (xs_InvalidNumber : PySem.W.subIn K (.ref C_InvalidNumber) (.type "BaseException") = some true)
    (xt_InvalidNumber : PySem.W.typeIn K (.ref C_InvalidNumber) = some (.type "type"))
    (xg_InvalidNumber : PySem.W.findIn K (.ref C_InvalidNumber) "__getattribute__" = some (some (.builtin "BaseException.__getattribute__")))
    (xh_InvalidNumber : PySem.W.findIn K (.ref C_InvalidNumber) "__getattr__" = some none)
    (xd_InvalidNumber : PySem.W.hasDictIn K C_InvalidNumber = true)
    (xa_InvalidNumber : PySem.W.findIn K (.ref C_InvalidNumber) "__class__" = some (some (.builtin "object.__class__")))
    (xm_InvalidNumber : PySem.W.mroIn K C_InvalidNumber (.type "object") = some true)
    (x_InvalidRatio : PySem.W.nsIn K mainGlobals "InvalidRatio" = some (some (.ref C_InvalidRatio)))
    (xk_InvalidRatio : PySem.W.keepIn K (.ref C_InvalidRatio) = true)
    (xe_InvalidRatio : PySem.W.excIn K C_InvalidRatio [.type "ValueError", .type "Exception", .type "BaseException", .type "object"] "ValueError.__new__" = true)
    (xs_InvalidRatio : PySem.W.subIn K (.ref C_InvalidRatio) (.type "BaseException") = some true)
    (xt_InvalidRatio : PySem.W.typeIn K (.ref C_InvalidRatio) = some (.type "type"))
    (xg_InvalidRatio : PySem.W.findIn K (.ref C_InvalidRatio) "__getattribute__" = some (some (.builtin "BaseException.__getattribute__")))
    (xh_InvalidRatio : PySem.W.findIn K (.ref C_InvalidRatio) "__getattr__" = some none)
    (xd_InvalidRatio : PySem.W.hasDictIn K C_InvalidRatio = true)
    (xa_InvalidRatio : PySem.W.findIn K (.ref C_InvalidRatio) "__class__" = some (some (.builtin "object.__class__")))
    (xm_InvalidRatio : PySem.W.mroIn K C_InvalidRatio (.type "object") = some true)
    (x_InvalidRule : PySem.W.nsIn K mainGlobals "InvalidRule" = some (some (.ref C_InvalidRule)))
    (xk_InvalidRule : PySem.W.keepIn K (.ref C_InvalidRule) = true)
    (xe_InvalidRule : PySem.W.excIn K C_InvalidRule [.type "ValueError", .type "Exception", .type "BaseException", .type "object"] "ValueError.__new__" = true)
    (xs_InvalidRule : PySem.W.subIn K (.ref C_InvalidRule) (.type "BaseException") = some true)
    (xt_InvalidRule : PySem.W.typeIn K (.ref C_InvalidRule) = some (.type "type"))
    (xg_InvalidRule : PySem.W.findIn K (.ref C_InvalidRule) "__getattribute__" = some (some (.builtin "BaseException.__getattribute__")))
    (xh_InvalidRule : PySem.W.findIn K (.ref C_InvalidRule) "__getattr__" = some none)
    (xd_InvalidRule : PySem.W.hasDictIn K C_InvalidRule = true)
    (xa_InvalidRule : PySem.W.findIn K (.ref C_InvalidRule) "__class__" = some (some (.builtin "object.__class__")))
    (xm_InvalidRule : PySem.W.mroIn K C_InvalidRule (.type "object") = some true)
    (sp_ : PySem.W.specialIn K (.builtin "object.__class__") "__get__" = some (some (.builtin "getset_descriptor.__get__")))
    (tk_ : PySem.W.takesIn K (.builtin "object.__class__") = some true)
    (p_HallError_HallError : PySem.W.subIn K (.ref C_HallError) (.ref C_HallError) = some true)
    (p_HallError_InvalidNumber : PySem.W.subIn K (.ref C_HallError) (.ref C_InvalidNumber) = some false)
    (p_HallError_InvalidRatio : PySem.W.subIn K (.ref C_HallError) (.ref C_InvalidRatio) = some false)
    (p_HallError_InvalidRule : PySem.W.subIn K (.ref C_HallError) (.ref C_InvalidRule) = some false)
    (p_InvalidNumber_HallError : PySem.W.subIn K (.ref C_InvalidNumber) (.ref C_HallError) = some true)
    (p_InvalidNumber_InvalidNumber : PySem.W.subIn K (.ref C_InvalidNumber) (.ref C_InvalidNumber) = some true)
    (p_InvalidNumber_InvalidRatio : PySem.W.subIn K (.ref C_InvalidNumber) (.ref C_InvalidRatio) = some false)
    (p_InvalidNumber_InvalidRule : PySem.W.subIn K (.ref C_InvalidNumber) (.ref C_InvalidRule) = some false)
    (p_InvalidRatio_HallError : PySem.W.subIn K (.ref C_InvalidRatio) (.ref C_HallError) = some true)
    (p_InvalidRatio_InvalidNumber : PySem.W.subIn K (.ref C_InvalidRatio) (.ref C_InvalidNumber) = some false)
    (p_InvalidRatio_InvalidRatio : PySem.W.subIn K (.ref C_InvalidRatio) (.ref C_InvalidRatio) = some true)
    (p_InvalidRatio_InvalidRule : PySem.W.subIn K (.ref C_InvalidRatio) (.ref C_InvalidRule) = some false)
    (p_InvalidRule_HallError : PySem.W.subIn K (.ref C_InvalidRule) (.ref C_HallError) = some true)
    (p_InvalidRule_InvalidNumber : PySem.W.subIn K (.ref C_InvalidRule) (.ref C_InvalidNumber) = some false)
    (p_InvalidRule_InvalidRatio : PySem.W.subIn K (.ref C_InvalidRule) (.ref C_InvalidRatio) = some false)
    (p_InvalidRule_InvalidRule : PySem.W.subIn K (.ref C_InvalidRule) (.ref C_InvalidRule) = some true)
    (z_abs : PySem.W.nsIn K mainGlobals "abs" = some none)
    (z_bool : PySem.W.nsIn K mainGlobals "bool" = some none)
    (z_int : PySem.W.nsIn K mainGlobals "int" = some none)
    (z_isinstance : PySem.W.nsIn K mainGlobals "isinstance" = some none)
    (z_len : PySem.W.nsIn K mainGlobals "len" = some none)
    (z_list : PySem.W.nsIn K mainGlobals "list" = some none)
    (z_max : PySem.W.nsIn K mainGlobals "max" = some none)
    (z_min : PySem.W.nsIn K mainGlobals "min" = some none)
    (z_range : PySem.W.nsIn K mainGlobals "range" = some none)
    (z_str : PySem.W.nsIn K mainGlobals "str" = some none)
    (z_sum : PySem.W.nsIn K mainGlobals "sum" = some none)
    (z_tuple : PySem.W.nsIn K mainGlobals "tuple" = some none)
    (z_zip : PySem.W.nsIn K mainGlobals "zip" = some none)
    (v_CRATES : PySem.W.nsIn K mainGlobals "CRATES" = some (some (.int 60 tk_CRATES)))
    (v_GREAT : PySem.W.nsIn K mainGlobals "GREAT" = some (some (.int (1000000000000000000000000000000000000000000000000000000000000) tk_GREAT)))
    (i_comb : PySem.W.nsIn K mainGlobals "comb" = some (some (.builtin "math.comb")))
    (i_gcd : PySem.W.nsIn K mainGlobals "gcd" = some (some (.builtin "math.gcd")))
    : LawAtS l w K (L2N.CX l.prog w) 44 63 "script" mg fa h := by
  have e := hfa.symm.trans (PySem.W.mg_of X G a_law)
  cases e
  have t__law_errors : PySem.W.tabIn K "_law_errors" = some (c__law_errors, P__law_errors) := tab_fact a__law_errors l__law_errors rfl lc__law_errors pv__law_errors
  have F_is_whole := fun_mk (st := st_is_whole) l_is_whole b_is_whole k_is_whole
  have B_is_whole := F_is_whole.binds (ps := ["value", "low", "high"]) fun _ _ _ _ _ _ us hl => match us, hl with | [_, _, _], _ => rfl
  have F_is_tuple_of := fun_mk (st := st_is_tuple_of) l_is_tuple_of b_is_tuple_of k_is_tuple_of
  have B_is_tuple_of := F_is_tuple_of.binds (ps := ["value", "low", "high"]) fun _ _ _ _ _ _ us hl => match us, hl with | [_, _, _], _ => rfl
  have F_lowest := fun_mk (st := st_lowest) l_lowest b_lowest k_lowest
  have B_lowest := F_lowest.binds (ps := ["top", "bottom"]) fun _ _ _ _ _ _ us hl => match us, hl with | [_, _], _ => rfl
  have F_order_in := fun_mk (st := st_order_in) l_order_in b_order_in k_order_in
  have B_order_in := F_order_in.binds (ps := ["one", "other"]) fun _ _ _ _ _ _ us hl => match us, hl with | [_, _], _ => rfl
  have F_found_ways := fun_mk (st := st_found_ways) l_found_ways b_found_ways k_found_ways
  have B_found_ways := F_found_ways.binds (ps := ["crates", "bad", "drawn", "number"]) fun _ _ _ _ _ _ us hl => match us, hl with | [_, _, _, _], _ => rfl
  have F__law_cup := fun_mk (st := st__law_cup) l__law_cup b__law_cup k__law_cup
  have B__law_cup := F__law_cup.binds (ps := ["script"]) fun _ _ _ _ _ _ us hl => match us, hl with | [_], _ => rfl
  have F__law_roll := fun_mk (st := st__law_roll) l__law_roll b__law_roll k__law_roll
  have B__law_roll := F__law_roll.binds (ps := ["cup", "many"]) fun _ _ _ _ _ _ us hl => match us, hl with | [_, _], _ => rfl
  have F__law_sort := fun_mk (st := st__law_sort) l__law_sort b__law_sort k__law_sort
  have B__law_sort := F__law_sort.binds (ps := ["value"]) fun _ _ _ _ _ _ us hl => match us, hl with | [_], _ => rfl
  have F__law_gcd := fun_mk (st := st__law_gcd) l__law_gcd b__law_gcd k__law_gcd
  have B__law_gcd := F__law_gcd.binds (ps := ["one", "other"]) fun _ _ _ _ _ _ us hl => match us, hl with | [_, _], _ => rfl
  have F__law_choose := fun_mk (st := st__law_choose) l__law_choose b__law_choose k__law_choose
  have B__law_choose := F__law_choose.binds (ps := ["many", "some"]) fun _ _ _ _ _ _ us hl => match us, hl with | [_, _], _ => rfl
  have F__law_fails := fun_mk (st := st__law_fails) l__law_fails b__law_fails k__law_fails
  have B__law_fails := F__law_fails.binds (ps := ["call"]) fun _ _ _ _ _ _ us hl => match us, hl with | [_], _ => rfl
  have F__law_at_most := fun_mk (st := st__law_at_most) l__law_at_most b__law_at_most k__law_at_most
  have B__law_at_most := F__law_at_most.binds (ps := ["one", "other"]) fun _ _ _ _ _ _ us hl => match us, hl with | [_, _], _ => rfl
  have F__law_at_least := fun_mk (st := st__law_at_least) l__law_at_least b__law_at_least k__law_at_least
  have B__law_at_least := F__law_at_least.binds (ps := ["one", "other"]) fun _ _ _ _ _ _ us hl => match us, hl with | [_, _], _ => rfl
  have F_need_whole := fun_mk (st := st_need_whole) l_need_whole b_need_whole k_need_whole
  have B_need_whole := F_need_whole.binds (ps := ["value", "low", "high"]) fun _ _ _ _ _ _ us hl => match us, hl with | [_, _, _], _ => rfl
  have F_is_ratio := fun_mk (st := st_is_ratio) l_is_ratio b_is_ratio k_is_ratio
  have B_is_ratio := F_is_ratio.binds (ps := ["value"]) fun _ _ _ _ _ _ us hl => match us, hl with | [_], _ => rfl
  have F_is_rule_for := fun_mk (st := st_is_rule_for) l_is_rule_for b_is_rule_for k_is_rule_for
  have B_is_rule_for := F_is_rule_for.binds (ps := ["crates", "value"]) fun _ _ _ _ _ _ us hl => match us, hl with | [_, _], _ => rfl
  have F_chance_in := fun_mk (st := st_chance_in) l_chance_in b_chance_in k_chance_in
  have B_chance_in := F_chance_in.binds (ps := ["crates", "bad", "drawn", "most"]) fun _ _ _ _ _ _ us hl => match us, hl with | [_, _, _, _], _ => rfl
  have F__law_some := fun_mk (st := st__law_some) l__law_some b__law_some k__law_some
  have B__law_some := F__law_some.binds (ps := ["cup", "things"]) fun _ _ _ _ _ _ us hl => match us, hl with | [_, _], _ => rfl
  have F__law_like := fun_mk (st := st__law_like) l__law_like b__law_like k__law_like
  have B__law_like := F__law_like.binds (ps := ["one", "other"]) fun _ _ _ _ _ _ us hl => match us, hl with | [_, _], _ => rfl
  have F__law_ratio := fun_mk (st := st__law_ratio) l__law_ratio b__law_ratio k__law_ratio
  have B__law_ratio := F__law_ratio.binds (ps := ["top", "bottom"]) fun _ _ _ _ _ _ us hl => match us, hl with | [_, _], _ => rfl
  have F__law_chance := fun_mk (st := st__law_chance) l__law_chance b__law_chance k__law_chance
  have B__law_chance := F__law_chance.binds (ps := ["crates", "bad", "rule"]) fun _ _ _ _ _ _ us hl => match us, hl with | [_, _, _], _ => rfl
  have F_need_lot := fun_mk (st := st_need_lot) l_need_lot b_need_lot k_need_lot
  have B_need_lot := F_need_lot.binds (ps := ["crates", "bad"]) fun _ _ _ _ _ _ us hl => match us, hl with | [_, _], _ => rfl
  have F_need_rule := fun_mk (st := st_need_rule) l_need_rule b_need_rule k_need_rule
  have B_need_rule := F_need_rule.binds (ps := ["crates", "value"]) fun _ _ _ _ _ _ us hl => match us, hl with | [_, _], _ => rfl
  have F_need_chance := fun_mk (st := st_need_chance) l_need_chance b_need_chance k_need_chance
  have B_need_chance := F_need_chance.binds (ps := ["value"]) fun _ _ _ _ _ _ us hl => match us, hl with | [_], _ => rfl
  have F_is_small := fun_mk (st := st_is_small) l_is_small b_is_small k_is_small
  have B_is_small := F_is_small.binds (ps := ["crates", "bad", "rule", "chance"]) fun _ _ _ _ _ _ us hl => match us, hl with | [_, _, _, _], _ => rfl
  have F_is_great := fun_mk (st := st_is_great) l_is_great b_is_great k_is_great
  have B_is_great := F_is_great.binds (ps := ["crates", "good", "rule", "chance"]) fun _ _ _ _ _ _ us hl => match us, hl with | [_, _, _, _], _ => rfl
  have F__law_near := fun_mk (st := st__law_near) l__law_near b__law_near k__law_near
  have B__law_near := F__law_near.binds (ps := ["cup", "pair"]) fun _ _ _ _ _ _ us hl => match us, hl with | [_, _], _ => rfl
  have F_checked := fun_mk (st := st_checked) l_checked b_checked k_checked
  have B_checked := F_checked.binds (ps := ["crates", "rule", "bad", "chance"]) fun _ _ _ _ _ _ us hl => match us, hl with | [_, _, _, _], _ => rfl
  have F_least_drawn := fun_mk (st := st_least_drawn) l_least_drawn b_least_drawn k_least_drawn
  have B_least_drawn := F_least_drawn.binds (ps := ["crates", "most", "bad", "chance"]) fun _ _ _ _ _ _ us hl => match us, hl with | [_, _, _, _], _ => rfl
  have F_best_rule := fun_mk (st := st_best_rule) l_best_rule b_best_rule k_best_rule
  have B_best_rule := F_best_rule.binds (ps := ["crates", "good", "chance", "bad", "other_chance"]) fun _ _ _ _ _ _ us hl => match us, hl with | [_, _, _, _, _], _ => rfl
  have F_protects := fun_mk (st := st_protects) l_protects b_protects k_protects
  have B_protects := F_protects.binds (ps := ["crates", "rule", "bad", "chance"]) fun _ _ _ _ _ _ us hl => match us, hl with | [_, _, _, _], _ => rfl
  have F_serves := fun_mk (st := st_serves) l_serves b_serves k_serves
  have B_serves := F_serves.binds (ps := ["crates", "rule", "good", "chance"]) fun _ _ _ _ _ _ us hl => match us, hl with | [_, _, _, _], _ => rfl
  have F__law_least_right := fun_mk (st := st__law_least_right) l__law_least_right b__law_least_right k__law_least_right
  have B__law_least_right := F__law_least_right.binds (ps := ["cup", "crates"]) fun _ _ _ _ _ _ us hl => match us, hl with | [_, _], _ => rfl
  have F__law_rule_right := fun_mk (st := st__law_rule_right) l__law_rule_right b__law_rule_right k__law_rule_right
  have B__law_rule_right := F__law_rule_right.binds (ps := ["cup", "crates", "rule"]) fun _ _ _ _ _ _ us hl => match us, hl with | [_, _, _], _ => rfl
  have F__law_written := fun_mk (st := st__law_written) l__law_written b__law_written k__law_written
  have B__law_written := F__law_written.binds (ps := []) fun _ _ _ _ _ _ us hl => match us, hl with | [], _ => rfl
  have F__law_errors : FunC K "_law_errors" st__law_errors f__law_errors _ c__law_errors := ⟨⟨_, _, _, _, _, _, _, _, rfl, l__law_errors, b__law_errors⟩, k__law_errors⟩
  have B__law_errors : L2.Binds K _ ["cup"] [] := (fun_mk (st := st__law_errors) l__law_errors b__law_errors k__law_errors).binds (ps := ["cup"]) fun _ _ _ _ _ _ us hl => match us, hl with | [_], _ => rfl
  have F_law := fun_mk (st := st_law) l_law b_law k_law
  have B_law := F_law.binds (ps := ["script"]) fun _ _ _ _ _ _ us hl => match us, hl with | [_], _ => rfl
  have X_HallError : Xc K mg "HallError" C_HallError := ⟨PySem.W.mg_of X G x_HallError, xk_HallError, xe_HallError, xs_HallError, xt_HallError⟩
  have E_HallError : ExcC K C_HallError := ⟨xg_HallError, xh_HallError, xs_HallError, xd_HallError, xa_HallError, sp_, tk_, xm_HallError⟩
  have X_InvalidNumber : Xc K mg "InvalidNumber" C_InvalidNumber := ⟨PySem.W.mg_of X G x_InvalidNumber, xk_InvalidNumber, xe_InvalidNumber, xs_InvalidNumber, xt_InvalidNumber⟩
  have E_InvalidNumber : ExcC K C_InvalidNumber := ⟨xg_InvalidNumber, xh_InvalidNumber, xs_InvalidNumber, xd_InvalidNumber, xa_InvalidNumber, sp_, tk_, xm_InvalidNumber⟩
  have X_InvalidRatio : Xc K mg "InvalidRatio" C_InvalidRatio := ⟨PySem.W.mg_of X G x_InvalidRatio, xk_InvalidRatio, xe_InvalidRatio, xs_InvalidRatio, xt_InvalidRatio⟩
  have E_InvalidRatio : ExcC K C_InvalidRatio := ⟨xg_InvalidRatio, xh_InvalidRatio, xs_InvalidRatio, xd_InvalidRatio, xa_InvalidRatio, sp_, tk_, xm_InvalidRatio⟩
  have X_InvalidRule : Xc K mg "InvalidRule" C_InvalidRule := ⟨PySem.W.mg_of X G x_InvalidRule, xk_InvalidRule, xe_InvalidRule, xs_InvalidRule, xt_InvalidRule⟩
  have E_InvalidRule : ExcC K C_InvalidRule := ⟨xg_InvalidRule, xh_InvalidRule, xs_InvalidRule, xd_InvalidRule, xa_InvalidRule, sp_, tk_, xm_InvalidRule⟩
  have T : Tp K mg := ⟨trivial, PySem.W.mg_none_of X G z_abs, PySem.W.mg_none_of X G z_bool, PySem.W.mg_none_of X G z_int, PySem.W.mg_none_of X G z_isinstance, PySem.W.mg_none_of X G z_len, PySem.W.mg_none_of X G z_list, PySem.W.mg_none_of X G z_max, PySem.W.mg_none_of X G z_min, PySem.W.mg_none_of X G z_range, PySem.W.mg_none_of X G z_str, PySem.W.mg_none_of X G z_sum, PySem.W.mg_none_of X G z_tuple, PySem.W.mg_none_of X G z_zip, ⟨_, X_HallError⟩, ⟨_, X_InvalidNumber⟩, ⟨_, X_InvalidRatio⟩, ⟨_, X_InvalidRule⟩, ⟨_, PySem.W.mg_of X G v_CRATES, ⟨_, rfl⟩⟩, ⟨_, PySem.W.mg_of X G v_GREAT, ⟨_, rfl⟩⟩, PySem.W.mg_of X G i_comb, PySem.W.mg_of X G i_gcd⟩
  have Dd : Df K mg := ⟨⟨_, _, PySem.W.mg_of X G a_is_whole, F_is_whole, B_is_whole⟩, ⟨_, _, PySem.W.mg_of X G a_is_tuple_of, F_is_tuple_of, B_is_tuple_of⟩, ⟨_, _, PySem.W.mg_of X G a_lowest, F_lowest, B_lowest⟩, ⟨_, _, PySem.W.mg_of X G a_order_in, F_order_in, B_order_in⟩, ⟨_, _, PySem.W.mg_of X G a_found_ways, F_found_ways, B_found_ways⟩, ⟨_, _, PySem.W.mg_of X G a__law_cup, F__law_cup, B__law_cup⟩, ⟨_, _, PySem.W.mg_of X G a__law_roll, F__law_roll, B__law_roll⟩, ⟨_, _, PySem.W.mg_of X G a__law_sort, F__law_sort, B__law_sort⟩, ⟨_, _, PySem.W.mg_of X G a__law_gcd, F__law_gcd, B__law_gcd⟩, ⟨_, _, PySem.W.mg_of X G a__law_choose, F__law_choose, B__law_choose⟩, ⟨_, _, PySem.W.mg_of X G a__law_fails, F__law_fails, B__law_fails⟩, ⟨_, _, PySem.W.mg_of X G a__law_at_most, F__law_at_most, B__law_at_most⟩, ⟨_, _, PySem.W.mg_of X G a__law_at_least, F__law_at_least, B__law_at_least⟩, ⟨_, _, PySem.W.mg_of X G a_need_whole, F_need_whole, B_need_whole⟩, ⟨_, _, PySem.W.mg_of X G a_is_ratio, F_is_ratio, B_is_ratio⟩, ⟨_, _, PySem.W.mg_of X G a_is_rule_for, F_is_rule_for, B_is_rule_for⟩, ⟨_, _, PySem.W.mg_of X G a_chance_in, F_chance_in, B_chance_in⟩, ⟨_, _, PySem.W.mg_of X G a__law_some, F__law_some, B__law_some⟩, ⟨_, _, PySem.W.mg_of X G a__law_like, F__law_like, B__law_like⟩, ⟨_, _, PySem.W.mg_of X G a__law_ratio, F__law_ratio, B__law_ratio⟩, ⟨_, _, PySem.W.mg_of X G a__law_chance, F__law_chance, B__law_chance⟩, ⟨_, _, PySem.W.mg_of X G a_need_lot, F_need_lot, B_need_lot⟩, ⟨_, _, PySem.W.mg_of X G a_need_rule, F_need_rule, B_need_rule⟩, ⟨_, _, PySem.W.mg_of X G a_need_chance, F_need_chance, B_need_chance⟩, ⟨_, _, PySem.W.mg_of X G a_is_small, F_is_small, B_is_small⟩, ⟨_, _, PySem.W.mg_of X G a_is_great, F_is_great, B_is_great⟩, ⟨_, _, PySem.W.mg_of X G a__law_near, F__law_near, B__law_near⟩, ⟨_, _, PySem.W.mg_of X G a_checked, F_checked, B_checked⟩, ⟨_, _, PySem.W.mg_of X G a_least_drawn, F_least_drawn, B_least_drawn⟩, ⟨_, _, PySem.W.mg_of X G a_best_rule, F_best_rule, B_best_rule⟩, ⟨_, _, PySem.W.mg_of X G a_protects, F_protects, B_protects⟩, ⟨_, _, PySem.W.mg_of X G a_serves, F_serves, B_serves⟩, ⟨_, _, PySem.W.mg_of X G a__law_least_right, F__law_least_right, B__law_least_right⟩, ⟨_, _, PySem.W.mg_of X G a__law_rule_right, F__law_rule_right, B__law_rule_right⟩, ⟨_, _, PySem.W.mg_of X G a__law_written, F__law_written, B__law_written⟩⟩
  have uniq__law_errors : ∀ p ∈ ([(P__law_errors, lamQ "_law_errors" st__law_errors)] : List (Addr × Str)), p.1 = P__law_errors → p.2 = lamQ "_law_errors" st__law_errors := fun p hp e => by
    rw [List.mem_singleton.mp hp]
  let TT : List (Addr × Str) := [(P__law_errors, lamQ "_law_errors" st__law_errors)]
  have S : XcK K mg (zp TT) sub_ 4 := by
    have q_HallError := X_HallError.gm
    have q_InvalidNumber := X_InvalidNumber.gm
    have q_InvalidRatio := X_InvalidRatio.gm
    have q_InvalidRule := X_InvalidRule.gm
    refine ⟨fun k C h hk => ?_, fun k j C D hk hj h1 h2 => ?_⟩
    · rcases k with _ | (_ | (_ | (_ | k)))
      · have z := h.symm.trans q_HallError; cases z; exact E_HallError
      · have z := h.symm.trans q_InvalidNumber; cases z; exact E_InvalidNumber
      · have z := h.symm.trans q_InvalidRatio; cases z; exact E_InvalidRatio
      · have z := h.symm.trans q_InvalidRule; cases z; exact E_InvalidRule
      · omega
    · rcases k with _ | (_ | (_ | (_ | k)))
      · have z := h1.symm.trans q_HallError; cases z
        rcases j with _ | (_ | (_ | (_ | k)))
        · have z := h2.symm.trans q_HallError; cases z; exact pair_of p_HallError_HallError p_HallError_HallError xs_HallError xd_HallError xt_HallError
        · have z := h2.symm.trans q_InvalidNumber; cases z; exact pair_of p_HallError_HallError p_HallError_InvalidNumber xs_InvalidNumber xd_InvalidNumber xt_InvalidNumber
        · have z := h2.symm.trans q_InvalidRatio; cases z; exact pair_of p_HallError_HallError p_HallError_InvalidRatio xs_InvalidRatio xd_InvalidRatio xt_InvalidRatio
        · have z := h2.symm.trans q_InvalidRule; cases z; exact pair_of p_HallError_HallError p_HallError_InvalidRule xs_InvalidRule xd_InvalidRule xt_InvalidRule
        · omega
      · have z := h1.symm.trans q_InvalidNumber; cases z
        rcases j with _ | (_ | (_ | (_ | k)))
        · have z := h2.symm.trans q_HallError; cases z; exact pair_of p_InvalidNumber_InvalidNumber p_InvalidNumber_HallError xs_HallError xd_HallError xt_HallError
        · have z := h2.symm.trans q_InvalidNumber; cases z; exact pair_of p_InvalidNumber_InvalidNumber p_InvalidNumber_InvalidNumber xs_InvalidNumber xd_InvalidNumber xt_InvalidNumber
        · have z := h2.symm.trans q_InvalidRatio; cases z; exact pair_of p_InvalidNumber_InvalidNumber p_InvalidNumber_InvalidRatio xs_InvalidRatio xd_InvalidRatio xt_InvalidRatio
        · have z := h2.symm.trans q_InvalidRule; cases z; exact pair_of p_InvalidNumber_InvalidNumber p_InvalidNumber_InvalidRule xs_InvalidRule xd_InvalidRule xt_InvalidRule
        · omega
      · have z := h1.symm.trans q_InvalidRatio; cases z
        rcases j with _ | (_ | (_ | (_ | k)))
        · have z := h2.symm.trans q_HallError; cases z; exact pair_of p_InvalidRatio_InvalidRatio p_InvalidRatio_HallError xs_HallError xd_HallError xt_HallError
        · have z := h2.symm.trans q_InvalidNumber; cases z; exact pair_of p_InvalidRatio_InvalidRatio p_InvalidRatio_InvalidNumber xs_InvalidNumber xd_InvalidNumber xt_InvalidNumber
        · have z := h2.symm.trans q_InvalidRatio; cases z; exact pair_of p_InvalidRatio_InvalidRatio p_InvalidRatio_InvalidRatio xs_InvalidRatio xd_InvalidRatio xt_InvalidRatio
        · have z := h2.symm.trans q_InvalidRule; cases z; exact pair_of p_InvalidRatio_InvalidRatio p_InvalidRatio_InvalidRule xs_InvalidRule xd_InvalidRule xt_InvalidRule
        · omega
      · have z := h1.symm.trans q_InvalidRule; cases z
        rcases j with _ | (_ | (_ | (_ | k)))
        · have z := h2.symm.trans q_HallError; cases z; exact pair_of p_InvalidRule_InvalidRule p_InvalidRule_HallError xs_HallError xd_HallError xt_HallError
        · have z := h2.symm.trans q_InvalidNumber; cases z; exact pair_of p_InvalidRule_InvalidRule p_InvalidRule_InvalidNumber xs_InvalidNumber xd_InvalidNumber xt_InvalidNumber
        · have z := h2.symm.trans q_InvalidRatio; cases z; exact pair_of p_InvalidRule_InvalidRule p_InvalidRule_InvalidRatio xs_InvalidRatio xd_InvalidRatio xt_InvalidRatio
        · have z := h2.symm.trans q_InvalidRule; cases z; exact pair_of p_InvalidRule_InvalidRule p_InvalidRule_InvalidRule xs_InvalidRule xd_InvalidRule xt_InvalidRule
        · omega
      · omega
  refine ⟨_, [(c__law_errors, P__law_errors)], spLaw K TT, fun p hp => ?_, fun p hp => ?_, fun p hp => ?_, fun s u => .of_eq rfl, fun H a ns hl hb hT hS => ⟨a, ns, rfl, fun p hp => ?_, hS, hl, fun _ => rfl⟩, fun base KB NB TB => ok_law T Dd S ⟨trivial, ⟨_, _, _, _, PySem.W.mg_of X G a__law_errors, F__law_errors, B__law_errors, TB (c__law_errors, P__law_errors) (by simp), by simp [TT], fun p hp e => uniq__law_errors p hp e⟩⟩ F_law law_true⟩
  · rw [List.mem_singleton.mp hp]; exact (tab "_law_errors" (by simp) _ _ t__law_errors).2
  · rw [List.mem_singleton.mp hp]; exact u__law_errors
  · rw [List.mem_singleton.mp hp]; exact (tab "_law_errors" (by simp) _ _ t__law_errors).1
  · rw [List.mem_singleton.mp (show p ∈ [(P__law_errors, lamQ "_law_errors" st__law_errors)] from hp)]; exact .nil (hT (c__law_errors, P__law_errors) (by simp))
theorem cx_none (P : Program) (w : World) (H : Hp) (s : Shared) (e : Value) (s' : Shared) (z : L2N.CX P w [] H s (fun _ _ _ => False) e s') : False := by
  obtain ⟨_, _, _, _, _, _, _, _, _, _, _, _, z⟩ := z
  exact z
end K68
open PySem PySem.W PyProof.Rows
set_option maxHeartbeats 0 in
theorem PySem.Challenge.cw_lotsatdawn_k68_whole_rules_that_protect_holds : PySem.Challenge.rw_lotsatdawn_k68_whole_rules_that_protect.Holds := by
  w_on; o_law; k_head; (case hw => w_witness2)
  k_fill
  refine DL.walk_tab (l := PySem.Challenge.rw_lotsatdawn_k68_whole_rules_that_protect) (n := 63) (k := 44) (x := "script") (CX := fun w => L2N.CX (PySem.Challenge.rw_lotsatdawn_k68_whole_rules_that_protect).prog w) (ts := ["_law_errors"]) rfl (by decide) rfl ⟨rfl, by decide, by decide⟩ ?ts (fun w h Y => by first | exact PySem.W.km_in_of Y | exact PySem.W.kIn_of Y) ?F (fun w H s e s' => K68.cx_none _ _ H s e s')
  case ts => decide +kernel
  case F =>
    intro w mg fa h Y KX G hmg tab
    refine' K68.all_mk KX G hmg tab ?a_is_whole ?l_is_whole ?b_is_whole ?k_is_whole ?a_is_tuple_of ?l_is_tuple_of ?b_is_tuple_of ?k_is_tuple_of ?a_lowest ?l_lowest ?b_lowest ?k_lowest ?a_order_in ?l_order_in ?b_order_in ?k_order_in ?a_found_ways ?l_found_ways ?b_found_ways ?k_found_ways ?a__law_cup ?l__law_cup ?b__law_cup ?k__law_cup ?a__law_roll ?l__law_roll ?b__law_roll ?k__law_roll ?a__law_sort ?l__law_sort ?b__law_sort ?k__law_sort ?a__law_gcd ?l__law_gcd ?b__law_gcd ?k__law_gcd ?a__law_choose ?l__law_choose ?b__law_choose ?k__law_choose ?a__law_fails ?l__law_fails ?b__law_fails ?k__law_fails ?a__law_at_most ?l__law_at_most ?b__law_at_most ?k__law_at_most ?a__law_at_least ?l__law_at_least ?b__law_at_least ?k__law_at_least ?a_need_whole ?l_need_whole ?b_need_whole ?k_need_whole ?a_is_ratio ?l_is_ratio ?b_is_ratio ?k_is_ratio ?a_is_rule_for ?l_is_rule_for ?b_is_rule_for ?k_is_rule_for ?a_chance_in ?l_chance_in ?b_chance_in ?k_chance_in ?a__law_some ?l__law_some ?b__law_some ?k__law_some ?a__law_like ?l__law_like ?b__law_like ?k__law_like ?a__law_ratio ?l__law_ratio ?b__law_ratio ?k__law_ratio ?a__law_chance ?l__law_chance ?b__law_chance ?k__law_chance ?a_need_lot ?l_need_lot ?b_need_lot ?k_need_lot ?a_need_rule ?l_need_rule ?b_need_rule ?k_need_rule ?a_need_chance ?l_need_chance ?b_need_chance ?k_need_chance ?a_is_small ?l_is_small ?b_is_small ?k_is_small ?a_is_great ?l_is_great ?b_is_great ?k_is_great ?a__law_near ?l__law_near ?b__law_near ?k__law_near ?a_checked ?l_checked ?b_checked ?k_checked ?a_least_drawn ?l_least_drawn ?b_least_drawn ?k_least_drawn ?a_best_rule ?l_best_rule ?b_best_rule ?k_best_rule ?a_protects ?l_protects ?b_protects ?k_protects ?a_serves ?l_serves ?b_serves ?k_serves ?a__law_least_right ?l__law_least_right ?b__law_least_right ?k__law_least_right ?a__law_rule_right ?l__law_rule_right ?b__law_rule_right ?k__law_rule_right ?a__law_written ?l__law_written ?b__law_written ?k__law_written ?a__law_errors ?l__law_errors ?lc__law_errors ?pv__law_errors ?u__law_errors ?b__law_errors ?k__law_errors ?a_law ?l_law ?b_law ?k_law ?x_HallError ?xk_HallError ?xe_HallError ?xs_HallError ?xt_HallError ?xg_HallError ?xh_HallError ?xd_HallError ?xa_HallError ?xm_HallError ?x_InvalidNumber ?xk_InvalidNumber ?xe_InvalidNumber ?xs_InvalidNumber ?xt_InvalidNumber ?xg_InvalidNumber ?xh_InvalidNumber ?xd_InvalidNumber ?xa_InvalidNumber ?xm_InvalidNumber ?x_InvalidRatio ?xk_InvalidRatio ?xe_InvalidRatio ?xs_InvalidRatio ?xt_InvalidRatio ?xg_InvalidRatio ?xh_InvalidRatio ?xd_InvalidRatio ?xa_InvalidRatio ?xm_InvalidRatio ?x_InvalidRule ?xk_InvalidRule ?xe_InvalidRule ?xs_InvalidRule ?xt_InvalidRule ?xg_InvalidRule ?xh_InvalidRule ?xd_InvalidRule ?xa_InvalidRule ?xm_InvalidRule ?sp_ ?tk_ ?p_HallError_HallError ?p_HallError_InvalidNumber ?p_HallError_InvalidRatio ?p_HallError_InvalidRule ?p_InvalidNumber_HallError ?p_InvalidNumber_InvalidNumber ?p_InvalidNumber_InvalidRatio ?p_InvalidNumber_InvalidRule ?p_InvalidRatio_HallError ?p_InvalidRatio_InvalidNumber ?p_InvalidRatio_InvalidRatio ?p_InvalidRatio_InvalidRule ?p_InvalidRule_HallError ?p_InvalidRule_InvalidNumber ?p_InvalidRule_InvalidRatio ?p_InvalidRule_InvalidRule ?z_abs ?z_bool ?z_int ?z_isinstance ?z_len ?z_list ?z_max ?z_min ?z_range ?z_str ?z_sum ?z_tuple ?z_zip ?v_CRATES ?v_GREAT ?i_comb ?i_gcd
    (case a_is_whole => k_is)
    (case l_is_whole => k_is)
    (case b_is_whole => k_is)
    (case k_is_whole => k_is)
    (case a_is_tuple_of => k_is)
    (case l_is_tuple_of => k_is)
    (case b_is_tuple_of => k_is)
    (case k_is_tuple_of => k_is)
    (case a_lowest => k_is)
    (case l_lowest => k_is)
    (case b_lowest => k_is)
    (case k_lowest => k_is)
    (case a_order_in => k_is)
    (case l_order_in => k_is)
    (case b_order_in => k_is)
    (case k_order_in => k_is)
    (case a_found_ways => k_is)
    (case l_found_ways => k_is)
    (case b_found_ways => k_is)
    (case k_found_ways => k_is)
    (case a__law_cup => k_is)
    (case l__law_cup => k_is)
    (case b__law_cup => k_is)
    (case k__law_cup => k_is)
    (case a__law_roll => k_is)
    (case l__law_roll => k_is)
    (case b__law_roll => k_is)
    (case k__law_roll => k_is)
    (case a__law_sort => k_is)
    (case l__law_sort => k_is)
    (case b__law_sort => k_is)
    (case k__law_sort => k_is)
    (case a__law_gcd => k_is)
    (case l__law_gcd => k_is)
    (case b__law_gcd => k_is)
    (case k__law_gcd => k_is)
    (case a__law_choose => k_is)
    (case l__law_choose => k_is)
    (case b__law_choose => k_is)
    (case k__law_choose => k_is)
    (case a__law_fails => k_is)
    (case l__law_fails => k_is)
    (case b__law_fails => k_is)
    (case k__law_fails => k_is)
    (case a__law_at_most => k_is)
    (case l__law_at_most => k_is)
    (case b__law_at_most => k_is)
    (case k__law_at_most => k_is)
    (case a__law_at_least => k_is)
    (case l__law_at_least => k_is)
    (case b__law_at_least => k_is)
    (case k__law_at_least => k_is)
    (case a_need_whole => k_is)
    (case l_need_whole => k_is)
    (case b_need_whole => k_is)
    (case k_need_whole => k_is)
    (case a_is_ratio => k_is)
    (case l_is_ratio => k_is)
    (case b_is_ratio => k_is)
    (case k_is_ratio => k_is)
    (case a_is_rule_for => k_is)
    (case l_is_rule_for => k_is)
    (case b_is_rule_for => k_is)
    (case k_is_rule_for => k_is)
    (case a_chance_in => k_is)
    (case l_chance_in => k_is)
    (case b_chance_in => k_is)
    (case k_chance_in => k_is)
    (case a__law_some => k_is)
    (case l__law_some => k_is)
    (case b__law_some => k_is)
    (case k__law_some => k_is)
    (case a__law_like => k_is)
    (case l__law_like => k_is)
    (case b__law_like => k_is)
    (case k__law_like => k_is)
    (case a__law_ratio => k_is)
    (case l__law_ratio => k_is)
    (case b__law_ratio => k_is)
    (case k__law_ratio => k_is)
    (case a__law_chance => k_is)
    (case l__law_chance => k_is)
    (case b__law_chance => k_is)
    (case k__law_chance => k_is)
    (case a_need_lot => k_is)
    (case l_need_lot => k_is)
    (case b_need_lot => k_is)
    (case k_need_lot => k_is)
    (case a_need_rule => k_is)
    (case l_need_rule => k_is)
    (case b_need_rule => k_is)
    (case k_need_rule => k_is)
    (case a_need_chance => k_is)
    (case l_need_chance => k_is)
    (case b_need_chance => k_is)
    (case k_need_chance => k_is)
    (case a_is_small => k_is)
    (case l_is_small => k_is)
    (case b_is_small => k_is)
    (case k_is_small => k_is)
    (case a_is_great => k_is)
    (case l_is_great => k_is)
    (case b_is_great => k_is)
    (case k_is_great => k_is)
    (case a__law_near => k_is)
    (case l__law_near => k_is)
    (case b__law_near => k_is)
    (case k__law_near => k_is)
    (case a_checked => k_is)
    (case l_checked => k_is)
    (case b_checked => k_is)
    (case k_checked => k_is)
    (case a_least_drawn => k_is)
    (case l_least_drawn => k_is)
    (case b_least_drawn => k_is)
    (case k_least_drawn => k_is)
    (case a_best_rule => k_is)
    (case l_best_rule => k_is)
    (case b_best_rule => k_is)
    (case k_best_rule => k_is)
    (case a_protects => k_is)
    (case l_protects => k_is)
    (case b_protects => k_is)
    (case k_protects => k_is)
    (case a_serves => k_is)
    (case l_serves => k_is)
    (case b_serves => k_is)
    (case k_serves => k_is)
    (case a__law_least_right => k_is)
    (case l__law_least_right => k_is)
    (case b__law_least_right => k_is)
    (case k__law_least_right => k_is)
    (case a__law_rule_right => k_is)
    (case l__law_rule_right => k_is)
    (case b__law_rule_right => k_is)
    (case k__law_rule_right => k_is)
    (case a__law_written => k_is)
    (case l__law_written => k_is)
    (case b__law_written => k_is)
    (case k__law_written => k_is)
    (case a__law_errors => k_is)
    (case l__law_errors => k_is)
    (case lc__law_errors => k_is)
    (case pv__law_errors => rfl)
    (case u__law_errors => first | kernel_rfl | rfl)
    (case b__law_errors => k_is)
    (case k__law_errors => k_is)
    (case a_law => k_is)
    (case l_law => k_is)
    (case b_law => k_is)
    (case k_law => k_is)
    (case x_HallError => k_is)
    (case xk_HallError => k_is)
    (case xe_HallError => k_exc)
    (case xs_HallError => k_is)
    (case xt_HallError => k_is)
    (case xg_HallError => k_is)
    (case xh_HallError => k_is)
    (case xd_HallError => k_is)
    (case xa_HallError => k_is)
    (case xm_HallError => k_is)
    (case x_InvalidNumber => k_is)
    (case xk_InvalidNumber => k_is)
    (case xe_InvalidNumber => k_exc)
    (case xs_InvalidNumber => k_is)
    (case xt_InvalidNumber => k_is)
    (case xg_InvalidNumber => k_is)
    (case xh_InvalidNumber => k_is)
    (case xd_InvalidNumber => k_is)
    (case xa_InvalidNumber => k_is)
    (case xm_InvalidNumber => k_is)
    (case x_InvalidRatio => k_is)
    (case xk_InvalidRatio => k_is)
    (case xe_InvalidRatio => k_exc)
    (case xs_InvalidRatio => k_is)
    (case xt_InvalidRatio => k_is)
    (case xg_InvalidRatio => k_is)
    (case xh_InvalidRatio => k_is)
    (case xd_InvalidRatio => k_is)
    (case xa_InvalidRatio => k_is)
    (case xm_InvalidRatio => k_is)
    (case x_InvalidRule => k_is)
    (case xk_InvalidRule => k_is)
    (case xe_InvalidRule => k_exc)
    (case xs_InvalidRule => k_is)
    (case xt_InvalidRule => k_is)
    (case xg_InvalidRule => k_is)
    (case xh_InvalidRule => k_is)
    (case xd_InvalidRule => k_is)
    (case xa_InvalidRule => k_is)
    (case xm_InvalidRule => k_is)
    (case sp_ => k_is)
    (case tk_ => k_is)
    (case p_HallError_HallError => k_is)
    (case p_HallError_InvalidNumber => k_is)
    (case p_HallError_InvalidRatio => k_is)
    (case p_HallError_InvalidRule => k_is)
    (case p_InvalidNumber_HallError => k_is)
    (case p_InvalidNumber_InvalidNumber => k_is)
    (case p_InvalidNumber_InvalidRatio => k_is)
    (case p_InvalidNumber_InvalidRule => k_is)
    (case p_InvalidRatio_HallError => k_is)
    (case p_InvalidRatio_InvalidNumber => k_is)
    (case p_InvalidRatio_InvalidRatio => k_is)
    (case p_InvalidRatio_InvalidRule => k_is)
    (case p_InvalidRule_HallError => k_is)
    (case p_InvalidRule_InvalidNumber => k_is)
    (case p_InvalidRule_InvalidRatio => k_is)
    (case p_InvalidRule_InvalidRule => k_is)
    (case z_abs => k_is)
    (case z_bool => k_is)
    (case z_int => k_is)
    (case z_isinstance => k_is)
    (case z_len => k_is)
    (case z_list => k_is)
    (case z_max => k_is)
    (case z_min => k_is)
    (case z_range => k_is)
    (case z_str => k_is)
    (case z_sum => k_is)
    (case z_tuple => k_is)
    (case z_zip => k_is)
    (case v_CRATES => k_is)
    (case v_GREAT => k_is)
    (case i_comb => k_is)
    (case i_gcd => k_is)
