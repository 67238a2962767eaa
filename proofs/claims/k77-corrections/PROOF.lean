import PyProof.Rows.All
import PySem.Str
import HandS.ForMost
import HandS.ForExc
import HandS.IsInst
import HandS.Wide
import HandS.Lambda
import HandS.EndTab
import HandS.TupAny
import HandS.TupMul
import HandS.Zip
import HandS.Deep
import HandS.Conv
import HandS.Sort
import HandS.SortInts
import HandS.SortKw
import HandS.CallLocal
import HandS.CallSlots
import HandS.HotCalls
import HandS.Rev
import HandS.Gcd
import HandS.Flow
import HandS.TupLe
import HandS.Style
import HandS.ExcCtx
import HandS.ExcIs
import KE.KMathG
import KE.KRevSl
import HandS.TryOnly
import KE.GoesNew
import PyProof.Rows.SumAny
import PyProof.WalksMore
import HandS.SetFor
import HandS.SortRule
import PyProof.TupleOfSeq
import PySem.Challenge.RW_lotsatdawn_k77_whole_corrections
set_option autoImplicit false
namespace DL
open PySem (Str)

/-- the longest list -/
def sizeL : Nat := 2 ^ 24
/-- plain values -/
inductive D where
  | non | bl (b : Bool) | int (i : Int) | str (x : Str) | tup (xs : List D) | lst (xs : List D) | cup | fn (k : Nat) | ty (k : Nat) | exc
  deriving Inhabited

/-- an error: the number of its class, what it bears -/
structure Ex where
  cls : Nat
  arg : D
  deriving Inhabited

/-- the two cells of the cup -/
structure C where
  a : Int
  b : Int
  deriving Inhabited, DecidableEq

inductive R (α : Type) where
  | ok (a : α) (c : C) | er (x : Ex) (c : C) | st

def R.bind {α β : Type} (m : R α) (f : α → C → R β) : R β := match m with
  | .ok a c => f a c
  | .er x c => .er x c
  | .st => .st
def R.post {α : Type} (m : R α) (P : α → C → Prop) (B : Ex → C → Prop) : Prop := match m with
  | .ok a c => P a c
  | .er x c => B x c
  | .st => False
def R.calm {α : Type} (m : R α) : R α := match m with
  | .er _ _ => .st
  | r => r

/-- a value at hand: a plain one, or the list that slot i owns -/
inductive RV where
  | pl (d : D) | ow (i : Nat) (xs : List D)
def RV.d : RV → D
  | .pl d => d
  | .ow _ xs => .lst xs
def RV.plain : RV → Bool
  | .pl _ => true
  | .ow _ _ => false
inductive Slot where
  | no | val (d : D) | own (xs : List D)
abbrev Env := List Slot
abbrev DE := Env → C → R RV
abbrev DT := Env → C → R Bool
abbrev DI := Env → C → R (List D)
abbrev DA := Env → C → R (List RV)
inductive F where
  | nx (e : Env) (c : C) | rt (d : D) (c : C) | bk (e : Env) (c : C) | ct (e : Env) (c : C) | er (x : Ex) (e : Env) (c : C) | st
abbrev DS := Env → C → F

/-! ### expressions -/
def dVar (i : Nat) : DE := fun env c => match env[i]? with
  | some (.val d) => .ok (.pl d) c
  | some (.own xs) => .ok (.ow i xs) c
  | _ => .st
def dC (d : D) : DE := fun _ c => .ok (.pl d) c
def opt1 (o : Option D) (c : C) : R RV := match o with
  | some d => .ok (.pl d) c
  | none => .st
def dO1 (op : D → Option D) (a : DE) : DE := fun env c => (a env c).bind fun x c => opt1 (op x.d) c
def dO2 (op : D → D → Option D) (a b : DE) : DE := fun env c => (a env c).bind fun x c => (b env c).bind fun y c => opt1 (op x.d y.d) c
def dAnd (a b : DE) : DE := fun env c => (a env c).bind fun x c => match x.d with
  | .bl true => b env c
  | .bl false => .ok (.pl (.bl false)) c
  | _ => .st
def dOr (a b : DE) : DE := fun env c => (a env c).bind fun x c => match x.d with
  | .bl false => b env c
  | .bl true => .ok (.pl (.bl true)) c
  | _ => .st
def dIf (t : DT) (a b : DE) : DE := fun env c => (t env c).bind fun k c => if k = true then a env c else b env c
def dChain (op1 op2 : D → D → Option D) (a b e : DE) : DE := fun env c => (a env c).bind fun x c => (b env c).bind fun y c => match op1 x.d y.d with
  | some (.bl true) => (e env c).bind fun z c => opt1 (op2 y.d z.d) c
  | some (.bl false) => .ok (.pl (.bl false)) c
  | _ => .st
def dArgs : List DE → DA
  | [] => fun _ c => .ok [] c
  | e :: es => fun env c => (e env c).bind fun x c => (dArgs es env c).bind fun xs c => .ok (x :: xs) c
def dTup (es : List DE) : DE := fun env c => (dArgs es env c).bind fun xs c => if xs.all RV.plain then .ok (.pl (.tup (xs.map RV.d))) c else .st
def dLst (es : List DE) : DE := fun env c => (dArgs es env c).bind fun xs c => if xs.all RV.plain then .ok (.pl (.lst (xs.map RV.d))) c else .st
def dB (f : List D → Option D) (es : List DE) : DE := fun env c => (dArgs es env c).bind fun xs c => opt1 (f (xs.map RV.d)) c
mutual
def D.noL : D → Bool
  | .lst _ => false
  | .tup xs => D.noLs xs
  | _ => true
def D.noLs : List D → Bool
  | [] => true
  | x :: xs => x.noL && D.noLs xs
end
abbrev Sem := List D → C → R D
def dCall (sem : Sem) (es : List DE) : DE := fun env c => (dArgs es env c).bind fun xs c => (sem (xs.map RV.d) c).bind fun d c => if xs.all RV.plain || d.noL then .ok (.pl d) c else .st
/-- a slice, its ends -/
def dPart : Option DE → Env → C → R (Option Int)
  | none => fun _ c => .ok none c
  | some e => fun env c => (e env c).bind fun x c => match x.d with
    | .int i => .ok (some i) c
    | _ => .st
def dSl (f : D → Option Int → Option Int → Option D) (e : DE) (lo hi : Option DE) : DE := fun env c => (e env c).bind fun x c => (dPart lo env c).bind fun a c => (dPart hi env c).bind fun b c => opt1 (f x.d a b) c

/-! ### tests -/
def D.truth : D → Option Bool
  | .non => some false
  | .bl b => some b
  | .int i => some (i != 0)
  | .str x => if x.length ≤ sizeL then some ((x.length : Int) != 0) else none
  | .tup xs => some (!xs.isEmpty)
  | .lst xs => some (!xs.isEmpty)
  | _ => none
def tE (e : DE) : DT := fun env c => (e env c).bind fun x c => match x.d.truth with
  | some k => .ok k c
  | none => .st
def tNot (t : DT) : DT := fun env c => (t env c).bind fun k c => .ok (!k) c
def tAnd (a b : DT) : DT := fun env c => (a env c).bind fun k c => if k = true then b env c else .ok false c
def tOr (a b : DT) : DT := fun env c => (a env c).bind fun k c => if k = true then .ok true c else b env c
def tYes : DT := fun _ c => .ok true c

/-! ### targets, what is walked -/
abbrev TG := D → Env → Option Env
def tgN (i : Nat) : TG := fun x env => some (env.set i (.val x))
def tgAll : List TG → List D → Env → Option Env
  | [], [], env => some env
  | t :: ts, x :: xs, env => (t x env).bind fun env => tgAll ts xs env
  | _, _, _ => none
def tgT (ts : List TG) : TG := fun x env => match x with
  | .tup xs => tgAll ts xs env
  | _ => none
def RV.good (st : Bool) (x : RV) : Bool := !st || x.plain
def D.items : D → Option (List D)
  | .tup xs => some xs
  | .lst xs => some xs
  | _ => none
/-- st: it is walked by statements, which may change lists -/
def iSeq (st : Bool) (e : DE) : DI := fun env c => (e env c).bind fun x c => if x.good st = true then (match x.d.items with
  | some xs => .ok xs c
  | none => .st) else .st
def rng (lo : Int) : Nat → List D
  | 0 => []
  | n + 1 => .int lo :: rng (lo + 1) n
def rngLine : Int := 2 ^ 62
def okR (i : Int) : Bool := decide (-rngLine ≤ i) && decide (i < rngLine)
def kRng1 (x : RV) (c : C) : R (List D) := match x.d with
  | .int j => if (okR j && decide (j.toNat ≤ sizeL)) = true then .ok (rng 0 j.toNat) c else .st
  | _ => .st
def iRng1 (e : DE) : DI := fun env c => (e env c).bind kRng1
def kRng2 (x y : RV) (c : C) : R (List D) := match x.d, y.d with
  | .int i, .int j => if (okR i && okR j && decide ((j - i).toNat ≤ sizeL)) = true then .ok (rng i (j - i).toNat) c else .st
  | _, _ => .st
def iRng2 (a b : DE) : DI := fun env c => (a env c).bind fun x c => (b env c).bind fun y c => kRng2 x y c
def zipD : List D → List D → List D
  | x :: xs, y :: ys => .tup [x, y] :: zipD xs ys
  | _, _ => []
def zip2 : D → D → Option (List D)
  | .tup xs, .tup ys => some (zipD xs ys)
  | .lst xs, .lst ys => some (zipD xs ys)
  | _, _ => none
def kZip (st : Bool) (x y : RV) (c : C) : R (List D) := if (x.good st && y.good st) = true then (match zip2 x.d y.d with
  | some zs => .ok zs c
  | none => .st) else .st
def iZip (st : Bool) (a b : DE) : DI := fun env c => (a env c).bind fun x c => (b env c).bind fun y c => kZip st x y c
def enumD : Int → List D → List D
  | _, [] => []
  | i, x :: xs => .tup [.int i, x] :: enumD (i + 1) xs
def kEnum (st : Bool) (x : RV) (c : C) : R (List D) := if x.good st = true then (match x.d with
  | .lst xs => .ok (enumD 0 xs) c
  | _ => .st) else .st
def iEnum (st : Bool) (a : DE) : DI := fun env c => (a env c).bind (kEnum st)

/-! ### comprehensions -/
def wipeE (env : Env) : List Nat → Env
  | [] => env
  | v :: vs => (wipeE env vs).set v .no
def dLoop (tg : TG) (t : DT) (e : DE) (env : Env) : List D → C → R (List D)
  | [], c => .ok [] c
  | x :: xs, c => match tg x env with
    | none => .st
    | some env2 => (t env2 c).bind fun k c => if k = true then ((e env2 c).bind fun y c => match y with
        | .pl d => (dLoop tg t e env xs c).bind fun ds c => .ok (d :: ds) c
        | .ow _ _ => .st) else dLoop tg t e env xs c
def dComp (it : DI) (tg : TG) (t : DT) (e : DE) (vs : List Nat) : DE := fun env c => (it env c).bind fun items c => ((dLoop tg t e (wipeE env vs) items c).bind fun ds c => .ok (.pl (.lst ds)) c).calm
/-- two clauses -/
def dLoop2 (tg : TG) (t : DT) (it1 : DI) (tg1 : TG) (t1 : DT) (e : DE) (vs1 : List Nat) (env : Env) : List D → C → R (List D)
  | [], c => .ok [] c
  | x :: xs, c => match tg x env with
    | none => .st
    | some env2 => (t env2 c).bind fun k c => if k = true then ((it1 env2 c).bind fun items c => (dLoop tg1 t1 e (wipeE env2 vs1) items c).bind fun ds c =>
        (dLoop2 tg t it1 tg1 t1 e vs1 env xs c).bind fun es c => .ok (ds ++ es) c) else dLoop2 tg t it1 tg1 t1 e vs1 env xs c
def dComp2 (it : DI) (tg : TG) (t : DT) (it1 : DI) (tg1 : TG) (t1 : DT) (e : DE) (vs vs1 : List Nat) : DE := fun env c => (it env c).bind fun items c => ((dLoop2 tg t it1 tg1 t1 e vs1 (wipeE env vs) items c).bind fun ds c => if ds.length ≤ sizeL then .ok (.pl (.lst ds)) c else .st).calm

/-! ### statements -/
def frzS (env : Env) (i : Nat) : Env := match env[i]? with
  | some (.own xs) => env.set i (.val (.lst xs))
  | _ => env
def F.of {α : Type} (m : R α) (env : Env) (f : α → C → F) : F := match m with
  | .ok a c => f a c
  | .er x c => .er x env c
  | .st => .st
def kSet (i : Nat) (env : Env) (x : RV) (c : C) : F := match x with
  | .pl d => .nx (env.set i (.val d)) c
  | .ow j xs => .nx ((frzS env j).set i (.val (.lst xs))) c
def sSet (i : Nat) (e : DE) : DS := fun env c => F.of (e env c) env (kSet i env)
/-- e makes a new list: slot i owns it -/
def sOwn (i : Nat) (e : DE) : DS := fun env c => F.of (e env c) env fun x c => match x with
  | .pl (.lst xs) => .nx (env.set i (.own xs)) c
  | _ => .st
def sTgt (tg : TG) (e : DE) : DS := fun env c => F.of (e env c) env fun x c => match x with
  | .pl d => (match tg d env with
    | some env => .nx env c
    | none => .st)
  | .ow _ _ => .st
/-- several targets at once: each gets its value, or owns a new list -/
def parSet : List (Nat × Bool) → List RV → Env → Option Env
  | [], [], env => some env
  | (i, false) :: ks, .pl d :: xs, env => parSet ks xs (env.set i (.val d))
  | (i, true) :: ks, .pl (.lst ys) :: xs, env => parSet ks xs (env.set i (.own ys))
  | _, _, _ => none
def sPar (ks : List (Nat × Bool)) (es : List DE) : DS := fun env c => F.of (dArgs es env c) env fun xs c => match parSet ks xs env with
  | some env => .nx env c
  | none => .st
def kApp (i : Nat) (env : Env) (xs : List D) (x : RV) (c : C) : F := match x with
  | .pl d => if xs.length < sizeL then .nx (env.set i (.own (xs ++ [d]))) c else .st
  | .ow _ _ => .st
def sApp (i : Nat) (e : DE) : DS := fun env c => match env[i]? with
  | some (.own xs) => F.of (e env c) env (kApp i env xs)
  | _ => .st
def ixD (n : Nat) (i : Int) : Option Nat := if 0 ≤ i then (if i < n then some i.toNat else none) else if -(n : Int) ≤ i then some (i + n).toNat else none
def kPut (i : Nat) (env : Env) (xs : List D) (x j : RV) (c : C) : F := match x, j.d with
  | .pl d, .int j => (match ixD xs.length j with
    | some m => .nx (env.set i (.own (xs.set m d))) c
    | none => .st)
  | _, _ => .st
/-- x[k] = e -/
def sPut (i : Nat) (k e : DE) : DS := fun env c => match env[i]? with
  | some (.own xs) => F.of (e env c) env fun x c => F.of (k env c) env fun j c => kPut i env xs x j c
  | _ => .st
def sExpr (e : DE) : DS := fun env c => F.of (e env c) env fun _ c => .nx env c
def sRet (e : DE) : DS := fun env c => F.of (e env c) env fun x c => .rt x.d c
def sRetN : DS := fun _ c => .rt .non c
def sPass : DS := fun env c => .nx env c
def sBrk : DS := fun env c => .bk env c
def sCnt : DS := fun env c => .ct env c
def sRaise (k : Nat) : DS := fun env c => .er ⟨k, .non⟩ env c
def sSeq (s t : DS) : DS := fun env c => match s env c with
  | .nx env c => t env c
  | r => r
def sNil : DS := fun env c => .nx env c
def sIf (t : DT) (s u : DS) : DS := fun env c => F.of (t env c) env fun k c => if k = true then s env c else u env c
def frzE (env : Env) : List Nat → Env
  | [] => env
  | i :: is => frzS (frzE env is) i
/-- no step of the program: some lists are not changed from here on -/
def sFrz (is : List Nat) (s : DS) : DS := fun env c => s (frzE env is) c
def sForL (tg : TG) (s : DS) : List D → Env → C → F
  | [], env, c => .nx env c
  | x :: xs, env, c => match tg x env with
    | none => .st
    | some env => match s env c with
      | .nx env c => sForL tg s xs env c
      | .ct env c => sForL tg s xs env c
      | .bk env c => .nx env c
      | r => r
/-- the walked thing is not one of the def's own lists -/
def sFor (it : DI) (tg : TG) (s : DS) : DS := fun env c => F.of (it env c) env fun items c => sForL tg s items env c
def sWhL (t : DT) (s : DS) : Nat → Env → C → F
  | 0, _, _ => .st
  | n + 1, env, c => F.of (t env c) env fun k c => if k = true then (match s env c with
      | .nx env c => sWhL t s n env c
      | .ct env c => sWhL t s n env c
      | .bk env c => .nx env c
      | r => r) else .nx env c
def sWhile (n : Nat) (t : DT) (s : DS) : DS := fun env c => sWhL t s n env c

def runF (n : Nat) (body : DS) : Sem := fun ds c => match body (ds.map .val ++ List.replicate (n - ds.length) .no) c with
  | .nx _ c => .ok .non c
  | .rt d c => .ok d c
  | .er x _ c => .er x c
  | _ => .st

/-! ### operators by values -/
def D.b2i (b : Bool) : Int := if b = true then 1 else 0
def wideLine : Nat := 2 ^ 4000
def mulOk (i j : Int) : Bool := (decide (-(2 ^ 64) < i) && decide (i < 2 ^ 64)) || (decide (-(2 ^ 64) < j) && decide (j < 2 ^ 64)) || (decide (i.natAbs < wideLine) && decide (j.natAbs < wideLine))
def D.add : D → D → Option D
  | .int i, .int j => some (.int (i + j))
  | .str x, .str y => if x.length + y.length ≤ sizeL then some (.str (x ++ y)) else none
  | .tup xs, .tup ys => if xs.length + ys.length ≤ sizeL then some (.tup (xs ++ ys)) else none
  | _, _ => none
/-- two lists: a new one -/
def D.cat : D → D → Option D
  | .lst xs, .lst ys => if xs.length + ys.length ≤ sizeL then some (.lst (xs ++ ys)) else none
  | _, _ => none
def D.sub : D → D → Option D
  | .int i, .int j => some (.int (i - j))
  | _, _ => none
def D.mul : D → D → Option D
  | .int i, .int j => if mulOk i j = true then some (.int (i * j)) else none
  | _, _ => none
def D.fdiv : D → D → Option D
  | .int i, .int j => if 0 < j ∧ j.natAbs < wideLine then some (.int (i / j)) else none
  | _, _ => none
def D.mod : D → D → Option D
  | .int i, .int j => if 0 < j then some (.int (i % j)) else none
  | _, _ => none
def D.pow : D → D → Option D
  | .int i, .int j => if 0 ≤ j ∧ j ≤ 1000000 ∧ i.natAbs < 2 ^ 64 then some (.int (i ^ j.toNat)) else none
  | _, _ => none
def D.neg : D → Option D
  | .int i => some (.int (-i))
  | _ => none
def D.inv : D → Option D
  | .bl b => some (.bl (!b))
  | _ => none
/-- a list over and over -/
def D.rep : D → D → Option D
  | .lst xs, .int k => if -(2 ^ 63) ≤ k ∧ k < 2 ^ 63 ∧ xs.length * k.toNat ≤ sizeL then some (.lst (List.replicate k.toNat xs).flatten) else none
  | _, _ => none
def D.repT : D → D → Option D
  | .tup xs, .int k => if xs ≠ [] ∧ 2 ≤ k ∧ k ≤ 1000 ∧ xs.length ≤ 1000 then some (.tup (List.replicate k.toNat xs).flatten) else none
  | _, _ => none
def D.lt : D → D → Option D
  | .int i, .int j => some (.bl (decide (i < j)))
  | _, _ => none
def D.le : D → D → Option D
  | .int i, .int j => some (.bl (decide (i ≤ j)))
  | _, _ => none
def D.gt : D → D → Option D
  | .int i, .int j => some (.bl (decide (j < i)))
  | _, _ => none
def D.ge : D → D → Option D
  | .int i, .int j => some (.bl (decide (j ≤ i)))
  | _, _ => none
mutual
def D.eqv : D → D → Bool
  | .non, .non => true
  | .bl a, .bl b => a == b
  | .bl a, .int j => (if a then 1 else 0) == j
  | .int i, .bl b => i == (if b then 1 else 0)
  | .int i, .int j => i == j
  | .str x, .str y => x == y
  | .lst xs, .lst ys => D.eqvs xs ys
  | .tup xs, .tup ys => D.eqvs xs ys
  | _, _ => false
def D.eqvs : List D → List D → Bool
  | [], [] => true
  | x :: xs, y :: ys => D.eqv x y && D.eqvs xs ys
  | _, _ => false
end
/-- data of at most that depth -/
def strGood (x : Str) : Bool := x.cps.all (· < 0x110000)
def D.shal : Nat → D → Bool
  | n + 1, .lst xs => xs.all (D.shal n)
  | n + 1, .tup xs => xs.all (D.shal n)
  | 0, .lst _ => false
  | 0, .tup _ => false
  | _, .cup => false
  | _, .fn _ => false
  | _, .ty _ => false
  | _, .exc => false
  | _, .str x => strGood x
  | _, _ => true
def D.eq (x y : D) : Option D := if (x.shal 60 && y.shal 60) = true then some (.bl (D.eqv x y)) else none
def D.ne (x y : D) : Option D := if (x.shal 60 && y.shal 60) = true then some (.bl (!D.eqv x y)) else none
/-- two texts, whatever their signs -/
def D.eqS : D → D → Option D
  | .str x, .str y => some (.bl (x == y))
  | _, _ => none
def D.isNon : D → Bool
  | .non => true
  | _ => false
/-- x is None (the right side written) -/
def D.isN (x y : D) : Option D := match y with
  | .non => some (.bl x.isNon)
  | _ => none
def D.notN (x y : D) : Option D := match y with
  | .non => some (.bl (!x.isNon))
  | _ => none
def D.flat : D → Bool
  | .non => true
  | .bl _ => true
  | .int _ => true
  | .str _ => true
  | _ => false
/-- membership: flat things in a list or tuple of such, or data in a list of data -/
def D.memB (x y : D) : Option Bool := match y.items with
  | none => none
  | some ys => if (x.flat && ys.all D.flat) = true then some (ys.any fun z => D.eqv z x) else (match y with
    | .lst _ => if (x.shal 60 && y.shal 60) = true then some (ys.any fun z => D.eqv z x) else none
    | _ => none)
def D.mem (x y : D) : Option D := (D.memB x y).map .bl
def D.nmem (x y : D) : Option D := (D.memB x y).map fun b => .bl (!b)
def D.isB : D → D → Option D
  | .bl a, .bl b => some (.bl (a == b))
  | _, _ => none
def D.notB : D → D → Option D
  | .bl a, .bl b => some (.bl (!(a == b)))
  | _, _ => none
def D.ix : D → D → Option D
  | .tup xs, .int i => (ixD xs.length i).bind fun j => xs[j]?
  | .lst xs, .int i => (ixD xs.length i).bind fun j => xs[j]?
  | _, _ => none
/-- a slice's end -/
def cutAt (n d : Nat) : Option Int → Nat
  | none => d
  | some i => if i < 0 then (i + (n : Int)).toNat else min i.toNat n
def cutD (xs : List D) (lo hi : Option Int) : List D := (xs.drop (cutAt xs.length 0 lo)).take (cutAt xs.length xs.length hi - cutAt xs.length 0 lo)
def D.slT : D → Option Int → Option Int → Option D
  | .tup xs, lo, hi => some (.tup (cutD xs lo hi))
  | _, _, _ => none
def D.slL : D → Option Int → Option Int → Option D
  | .lst xs, lo, hi => some (.lst (cutD xs lo hi))
  | _, _, _ => none

/-! ### built-in functions by values -/
def bLen : List D → Option D
  | [.tup xs] => some (.int xs.length)
  | [.lst xs] => some (.int xs.length)
  | [.str x] => if x.length ≤ sizeL then some (.int x.length) else none
  | _ => none
def bAbs : List D → Option D
  | [.int i] => some (.int (if i < 0 then -i else i))
  | _ => none
def bMax2 : List D → Option D
  | [.int i, .int j] => some (.int (if j > i then j else i))
  | _ => none
def bMin2 : List D → Option D
  | [.int i, .int j] => some (.int (if j < i then j else i))
  | _ => none
def bInt : List D → Option D
  | [.int i] => some (.int i)
  | [.bl b] => some (.int (if b = true then 1 else 0))
  | _ => none
def bTuple : List D → Option D
  | [.tup xs] => some (.tup xs)
  | [.lst xs] => some (.tup xs)
  | _ => none
/-- a new list -/
def bList : List D → Option D
  | [.tup xs] => some (.lst xs)
  | [.lst xs] => some (.lst xs)
  | _ => none
def intsOf : List D → Option (List Int)
  | [] => some []
  | .int i :: r => (intsOf r).map (i :: ·)
  | _ :: _ => none
def bools : List D → Option (List Bool)
  | [] => some []
  | .bl b :: r => (bools r).map (b :: ·)
  | _ :: _ => none
def bSum : List D → Option D
  | [.lst xs] => (intsOf xs).map fun ns => .int ns.sum
  | _ => none
def bAll : List D → Option D
  | [.lst xs] => (bools xs).map fun bs => .bl (bs.all id)
  | _ => none
def bAny : List D → Option D
  | [.lst xs] => (bools xs).map fun bs => .bl (bs.any id)
  | _ => none
def D.kind : D → Nat
  | .non => 0
  | .bl _ => 1
  | .int _ => 2
  | .str _ => 3
  | .tup _ => 4
  | .lst _ => 5
  | _ => 9
/-- isinstance(x, T): T by its number: 1 bool, 2 int, 3 str, 4 tuple, 5 list -/
def bIsi : List D → Option D
  | [x, .ty t] => if x.kind ≤ 5 ∧ 1 ≤ t ∧ t ≤ 5 then some (.bl (x.kind == t || (x.kind == 1 && t == 2))) else none
  | _ => none
def bStr : List D → Option D
  | [.int i] => if i.natAbs < 10 ^ 500 then some (.str (toString i |> Str.ofString)) else none
  | _ => none
end DL
namespace DL
/-! ### by any kind -/
def D.addA (x y : D) : Option D := (D.add x y).or (D.cat x y)
def D.mulA (x y : D) : Option D := (D.mul x y).or ((D.rep x y).or (D.repT x y))
def D.slA (x : D) (lo hi : Option Int) : Option D := (D.slT x lo hi).or (D.slL x lo hi)
/-! ### the cup -/
def cupGet (c : C) (k : Nat) : Int := if k = 0 then c.a else c.b
def cupPut (c : C) (k : Nat) (i : Int) : C := if k = 0 then ⟨i, c.b⟩ else ⟨c.a, i⟩
/-- cup[k], the cup in slot i -/
def dCup (i k : Nat) : DE := fun env c => match env[i]? with
  | some (.val .cup) => .ok (.pl (.int (cupGet c k))) c
  | _ => .st
/-- cup[k] = e -/
def sCup (i k : Nat) (e : DE) : DS := fun env c => match env[i]? with
  | some (.val .cup) => F.of (e env c) env fun x c => (match x.d with
    | .int j => .nx env (cupPut c k j)
    | _ => .st)
  | _ => .st
end DL
namespace DL
/-! ### more -/
/-- a test by a truth value alone -/
def tBl (e : DE) : DT := fun env c => (e env c).bind fun x c => match x.d with
  | .bl k => .ok k c
  | _ => .st
def m_gcd : List D → Option D
  | [.int a, .int b] => some (.int ((Nat.gcd a.natAbs b.natAbs : Nat) : Int))
  | _ => none
def fallD (n : Int) (k : Nat) : Int := (List.range k).foldl (fun (p : Int) (i : Nat) => p * (n - (i : Int))) 1
def m_comb : List D → Option D
  | [.int n, .int k] => if 0 ≤ n ∧ 0 ≤ k ∧ n ≤ 1000 then some (.int (if k > n then 0 else fallD n (min k (n - k)).toNat / fallD (min k (n - k)) (min k (n - k)).toNat)) else none
  | _ => none
end DL
namespace DL
open PySem (Str)
/-! ### errors caught -/
def strsOf : List D → Option (List Str)
  | [] => some []
  | .str x :: r => (strsOf r).map (x :: ·)
  | _ :: _ => none
/-- s.join(xs) -/
def D.join : D → D → Option D
  | .str s, .lst xs => (strsOf xs).bind fun ys => if (ys.map (·.length)).sum + ys.length * s.length ≤ 16777216 then some (.str (Str.join s ys)) else none
  | .str s, .tup xs => (strsOf xs).bind fun ys => if (ys.map (·.length)).sum + ys.length * s.length ≤ 16777216 then some (.str (Str.join s ys)) else none
  | _, _ => none
/-- isinstance(e, the k-th class), e the error x in hand, in slot i -/
def dIsX (sub : Nat → Nat → Bool) (x : Ex) (i k : Nat) : DE := fun env c => match env[i]? with
  | some (.val .exc) => .ok (.pl (.bl (sub x.cls k))) c
  | _ => .st
/-- try: lam() / except .. as e: suite / rest -/
def semTry (n ie : Nat) (catch_ : Nat → Bool) (suite : Ex → DS) (rest : DS) (lam : C → R D) : C → R D := fun c => match lam c with
  | .ok _ c => (match rest (List.replicate n .no) c with
    | .nx _ c => .ok .non c
    | .rt d c => .ok d c
    | _ => .st)
  | .er x c => if (catch_ x.cls && x.arg.isNon) = true then (match suite x ((List.replicate n .no).set ie (.val .exc)) c with
    | .rt d c => if d.flat = true then .ok d c else .st
    | _ => .st) else .st
  | .st => .st
/-- f(lambda: body) -/
def dLam (sem : (C → R D) → C → R D) (body : DE) : DE := fun env c => match sem (fun c => (body env c).bind fun x c => .ok x.d c) c with
  | .ok d c => .ok (.pl d) c
  | _ => .st
/-- lists only -/
def iLst (e : DE) : DI := fun env c => (e env c).bind fun x c => match x.d with
  | .lst xs => .ok xs c
  | _ => .st
end DL
namespace DL
/-- a call of what slot i holds: one of the defs of the table -/
def dCallV (tbl : Nat → Option Sem) (i : Nat) (es : List DE) : DE := fun env c => match env[i]? with
  | some (.val (.fn k)) => (match tbl k with
    | some sem => dCall sem es env c
    | none => .st)
  | _ => .st
end DL
namespace DL
/-- xs[::-1] -/
def D.revA : D → Option D
  | .lst xs => some (.lst xs.reverse)
  | _ => none
end DL
namespace DL
def D.subB : D → D → Option D
  | .bl a, .bl b => some (.int ((if a = true then 1 else 0) - (if b = true then 1 else 0)))
  | _, _ => none
def D.subA (x y : D) : Option D := (D.sub x y).or (D.subB x y)
end DL
namespace DL
/-- a, b = a list -/
def tgL (ts : List TG) : TG := fun x env => match x with
  | .lst xs => tgAll ts xs env
  | _ => none
end DL
namespace DL
/-! ### walks over lists and tuples alike -/
def kEnumA (st : Bool) (x : RV) (c : C) : R (List D) := if x.good st = true then (match x.d.items with
  | some xs => .ok (enumD 0 xs) c
  | none => .st) else .st
def iEnumA (st : Bool) (a : DE) : DI := fun env c => (a env c).bind (kEnumA st)
def kZip2A (st : Bool) (x y : RV) (c : C) : R (List D) := if (x.good st && y.good st) = true then (match x.d.items, y.d.items with
  | some xs, some ys => .ok (zipD xs ys) c
  | _, _ => .st) else .st
def iZip2A (st : Bool) (a b : DE) : DI := fun env c => (a env c).bind fun x c => (b env c).bind fun y c => kZip2A st x y c
def zipD3 : List D → List D → List D → List D
  | x :: xs, y :: ys, z :: zs => .tup [x, y, z] :: zipD3 xs ys zs
  | _, _, _ => []
def kZip3A (st : Bool) (x y z : RV) (c : C) : R (List D) := if (x.good st && y.good st && z.good st) = true then (match x.d.items, y.d.items, z.d.items with
  | some xs, some ys, some zs => .ok (zipD3 xs ys zs) c
  | _, _, _ => .st) else .st
def iZip3A (st : Bool) (a b e : DE) : DI := fun env c => (a env c).bind fun x c => (b env c).bind fun y c => (e env c).bind fun z c => kZip3A st x y z c
/-- two lists, within a suite -/
def kZipL (x y : RV) (c : C) : R (List D) := match x.d, y.d with
  | .lst xs, .lst ys => .ok (zipD xs ys) c
  | _, _ => .st
def iZipL (a b : DE) : DI := fun env c => (a env c).bind fun x c => (b env c).bind fun y c => kZipL x y c
/-- never reached -/
def dSt : DE := fun _ _ => .st
end DL
namespace DL
/-! ### the least, the greatest, in order -/
def bMin1 : List D → Option D
  | [.lst xs] => match intsOf xs with
    | some (n :: ns) => some (.int (ns.foldl (fun a b => if b < a then b else a) n))
    | _ => none
  | _ => none
def bMax1 : List D → Option D
  | [.lst xs] => match intsOf xs with
    | some (n :: ns) => some (.int (ns.foldl (fun a b => if a < b then b else a) n))
    | _ => none
  | _ => none
def insI (x : Int) : List Int → List Int
  | [] => [x]
  | y :: ys => if x ≤ y then x :: y :: ys else y :: insI x ys
def isort : List Int → List Int
  | [] => []
  | x :: xs => insI x (isort xs)
def bSorted : List D → Option D
  | [.lst xs] => (intsOf xs).map fun ns => .lst ((isort ns).map .int)
  | _ => none
end DL
namespace DL
/-- xs[::-1], a tuple or a list -/
def D.revX : D → Option D
  | .tup xs => some (.tup xs.reverse)
  | .lst xs => some (.lst xs.reverse)
  | _ => none
end DL

set_option linter.all false
set_option maxRecDepth 100000
set_option autoImplicit false
/-! ## further pure combinators -/
namespace DL
def dListRng1 (f : DE) : DE := fun env c => (f env c).bind fun x c => (kRng1 x c).bind fun xs c => .ok (.pl (.lst xs)) c
def dTupleRng1 (f : DE) : DE := fun env c => (f env c).bind fun x c => (kRng1 x c).bind fun xs c => .ok (.pl (.tup xs)) c
def dListRng2 (f g : DE) : DE := fun env c => (f env c).bind fun x c => (g env c).bind fun y c => (kRng2 x y c).bind fun xs c => .ok (.pl (.lst xs)) c
def dTupleRng2 (f g : DE) : DE := fun env c => (f env c).bind fun x c => (g env c).bind fun y c => (kRng2 x y c).bind fun xs c => .ok (.pl (.tup xs)) c
def bSumT : List D → Option D
  | [.tup xs] => (intsOf xs).map fun ns => .int ns.sum
  | _ => none
def bSumA : List D → Option D := fun x => (bSum x).or (bSumT x)
def D.repS : D → D → Option D
  | .tup xs, .int k => if (xs = [] ∧ -(2 ^ 63) ≤ k ∧ k < 2 ^ 63) ∨ k = 1 then some (.tup xs) else none
  | _, _ => none
def D.rep0 : D → D → Option D
  | .tup xs, .int k => if xs ≠ [] ∧ -(2 ^ 63) ≤ k ∧ k ≤ 0 then some (.tup []) else none
  | _, _ => none
def D.mulN : D → D → Option D := fun x y => (D.mulA x y).or ((D.repS x y).or (D.rep0 x y))
def D.index : D → D → Option D
  | .lst xs, .int k => (intsOf xs).bind fun ns => if k ∈ ns then some (.int (ns.idxOf k)) else none
  | _, _ => none
/-- xs.index(k) -/
def dIndex (f g : DE) : DE := fun env c => (f env c).bind fun x c => match x.d with
  | .lst xs => (g env c).bind fun y c => opt1 (D.index (.lst xs) y.d) c
  | _ => .st
/-- targets that write lists, too -/
abbrev MT := D → DS
def mtN (i : Nat) : MT := fun d env c => .nx (env.set i (.val d)) c
def mtP (i : Nat) (k : DE) : MT := fun d => sPut i k (dC d)
def mtAll : List MT → List D → DS
  | [], [], env, c => .nx env c
  | t :: ts, d :: ds, env, c => (match t d env c with
    | .nx env c => mtAll ts ds env c
    | _ => .st)
  | _, _, _, _ => .st
def mtT (ts : List MT) : MT := fun d => match d with
  | .tup ds => mtAll ts ds
  | _ => fun _ _ => .st
def sMulti (t : MT) (e : DE) : DS := fun env c => F.of (e env c) env fun x c => match x with
  | .pl d => (match t d env c with
    | .nx env c => .nx env c
    | _ => .st)
  | .ow _ _ => .st
/-- each number once -/
def dedupI (ns : List Int) : List Int := ns.foldr (fun k σ => if σ.contains k then σ else k :: σ) []
/-- len(set(x)) of whole numbers -/
def D.lenSet : D → Option D
  | .lst xs => (intsOf xs).bind fun ns => if ns.length ≤ 1000 then some (.int (dedupI ns).length) else none
  | .tup xs => (intsOf xs).bind fun ns => if ns.length ≤ 1000 then some (.int (dedupI ns).length) else none
  | _ => none
end DL
namespace DL
/-! ### pairs in order -/
def prD : D → Option (Int × Int)
  | .tup [.int i, .int j] => some (i, j)
  | _ => none
def pairsOf : List D → Option (List (Int × Int))
  | [] => some []
  | d :: r => (prD d).bind fun p => (pairsOf r).map (p :: ·)
def lexLe (p q : Int × Int) : Bool := decide (p.1 < q.1) || (decide (p.1 = q.1) && decide (p.2 ≤ q.2))
def insP (x : Int × Int) : List (Int × Int) → List (Int × Int)
  | [] => [x]
  | y :: ys => if lexLe x y = true then x :: y :: ys else y :: insP x ys
def isortP : List (Int × Int) → List (Int × Int)
  | [] => []
  | x :: xs => insP x (isortP xs)
def bSortedP : List D → Option D
  | [.lst xs] => (pairsOf xs).map fun ps => .lst ((isortP ps).map fun p => .tup [.int p.1, .int p.2])
  | _ => none
def bSortedA : List D → Option D := fun x => (bSorted x).or (bSortedP x)
def bSortedT : List D → Option D
  | [.tup xs] => (intsOf xs).map fun ns => .lst ((isort ns).map .int)
  | _ => none
/-- lists of whole numbers, of pairs, tuples of whole numbers -/
def bSortedB : List D → Option D := fun x => (bSortedA x).or (bSortedT x)
end DL

set_option Elab.async false
set_option autoImplicit false
namespace DL
/-- sorted(set(x)) of a list of fewer than 64 whole numbers -/
def D.sortSet : D → Option D
  | .lst xs => (intsOf xs).bind fun ns => if ns.length < 64 then some (.lst ((isort (dedupI ns)).map .int)) else none
  | _ => none
end DL

set_option Elab.async false
set_option linter.all false
set_option maxRecDepth 100000
set_option maxHeartbeats 4000000
set_option autoImplicit false
/-! ## values by data: the relation -/
namespace DL
open PySem PySem.Spec PyProof.Rows L2
/-- what is fixed for a whole law: the tables of code objects, the names of functions and of errors by number, what an error bears -/
structure Zp where
  T : List (Addr × Str)
  fnm : Nat → Str
  xnm : Nat → Str
  xfl : Nat → Str
  ex : Option Addr := none
def tyName : Nat → String
  | 1 => "bool"
  | 2 => "int"
  | 3 => "str"
  | 4 => "tuple"
  | 5 => "list"
  | _ => "object"
structure Yp where
  K : PySem.W.Frag
  mg : Str → Option Value
  Z : Zp
mutual
inductive Wt (Y : Yp) (G : Hp) (ca : Option Addr) : V → D → Prop
  | non : Wt Y G ca .non .non
  | bl (b : Bool) : Wt Y G ca (.bl b) (.bl b)
  | int (i : Int) : Wt Y G ca (.int i) (.int i)
  | str (x : Str) : Wt Y G ca (.str x) (.str x)
  | tup {a : Addr} {vs : List V} {ds : List D} : SqT Y.K G a vs → Wts Y G ca vs ds → ds.length ≤ sizeL → Wt Y G ca (.ref a) (.tup ds)
  | lst {a : Addr} {vs : List V} {ds : List D} : G a = some (.lst vs) → Wts Y G ca vs ds → ds.length ≤ sizeL → Wt Y G ca (.ref a) (.lst ds)
  | cup {a : Addr} : ca = some a → Wt Y G ca (.ref a) .cup
  | fn {k : Nat} {a : Addr} : Y.mg (Y.Z.fnm k) = some (.ref a) → Wt Y G ca (.ref a) (.fn k)
  | ty (k : Nat) : Wt Y G ca (.ty (tyName k)) (.ty k)
  | exc {a : Addr} : Y.Z.ex = some a → Wt Y G ca (.ref a) .exc
inductive Wts (Y : Yp) (G : Hp) (ca : Option Addr) : List V → List D → Prop
  | nil : Wts Y G ca [] []
  | cons {v : V} {vs : List V} {d : D} {ds : List D} : Wt Y G ca v d → Wts Y G ca vs ds → Wts Y G ca (v :: vs) (d :: ds)
end
theorem rd_mono {G G' : Hp} {a : Addr} {u : HO} (e : Same G G') (h : Rd G a u) : Rd G' a u := by
  rcases h with h | ⟨o, h⟩
  · exact .inl (e _ _ h)
  · exact .inr ⟨o, e _ _ h⟩
theorem sqT_mono {K : PySem.W.Frag} {G G' : Hp} {a : Addr} {vs : List V} (e : Same G G') (h : SqT K G a vs) : SqT K G' a vs := h.imp (rd_mono e) id
theorem sqL_mono {K : PySem.W.Frag} {G G' : Hp} {a : Addr} {vs : List V} (e : Same G G') (h : SqL K G a vs) : SqL K G' a vs := h.imp (rd_mono e) id
section
variable {Y : Yp} {G G' : Hp} {ca ca' : Option Addr}
mutual
theorem Wt.mono (e : Same G G') (k : ∀ a, ca = some a → ca' = some a) : ∀ {v : V} {d : D}, Wt Y G ca v d → Wt Y G' ca' v d
  | _, _, .non => .non
  | _, _, .bl b => .bl b
  | _, _, .int i => .int i
  | _, _, .str x => .str x
  | _, _, .tup h r l => .tup (sqT_mono e h) (Wts.mono e k r) l
  | _, _, .lst h r l => .lst (e _ _ h) (Wts.mono e k r) l
  | _, _, .cup h => .cup (k _ h)
  | _, _, .fn h => .fn h
  | _, _, .ty k => .ty k
  | _, _, .exc h => .exc h
theorem Wts.mono (e : Same G G') (k : ∀ a, ca = some a → ca' = some a) : ∀ {vs : List V} {ds : List D}, Wts Y G ca vs ds → Wts Y G' ca' vs ds
  | _, _, .nil => .nil
  | _, _, .cons h r => .cons (Wt.mono e k h) (Wts.mono e k r)
end
theorem Wts.length : ∀ {vs : List V} {ds : List D}, Wts Y G ca vs ds → vs.length = ds.length
  | _, _, .nil => rfl
  | _, _, .cons _ r => congrArg (· + 1) (Wts.length r)
theorem Wts.append : ∀ {vs us : List V} {ds es : List D}, Wts Y G ca vs ds → Wts Y G ca us es → Wts Y G ca (vs ++ us) (ds ++ es)
  | _, _, _, _, .nil, h => h
  | _, _, _, _, .cons h r, k => .cons h (Wts.append r k)
theorem Wts.take : ∀ {vs : List V} {ds : List D} (n : Nat), Wts Y G ca vs ds → Wts Y G ca (vs.take n) (ds.take n)
  | _, _, 0, _ => by simp only [List.take_zero]; exact .nil
  | _, _, _ + 1, .nil => .nil
  | _, _, n + 1, .cons h r => .cons h (Wts.take n r)
theorem Wts.drop : ∀ {vs : List V} {ds : List D} (n : Nat), Wts Y G ca vs ds → Wts Y G ca (vs.drop n) (ds.drop n)
  | _, _, 0, h => h
  | _, _, _ + 1, .nil => .nil
  | _, _, n + 1, .cons _ r => Wts.drop n r
theorem Wts.get : ∀ {vs : List V} {ds : List D} {i : Nat} {d : D}, Wts Y G ca vs ds → ds[i]? = some d → ∃ v, vs[i]? = some v ∧ Wt Y G ca v d
  | _, _, i, _, .nil, e => by simp at e
  | _, _, 0, _, .cons h _, e => by simp at e; subst e; exact ⟨_, rfl, h⟩
  | _, _, i + 1, d, .cons _ r, e => by
    obtain ⟨v, h1, h2⟩ := Wts.get (i := i) (d := d) r (by simpa using e)
    exact ⟨v, by simpa using h1, h2⟩
theorem Wts.set {v : V} {d : D} (h : Wt Y G ca v d) : ∀ {vs : List V} {ds : List D} (i : Nat), Wts Y G ca vs ds → Wts Y G ca (vs.set i v) (ds.set i d)
  | _, _, _, .nil => .nil
  | _, _, 0, .cons _ r => .cons h r
  | _, _, i + 1, .cons q r => .cons q (Wts.set h i r)
theorem Wts.reverse : ∀ {vs : List V} {ds : List D}, Wts Y G ca vs ds → Wts Y G ca vs.reverse ds.reverse
  | _, _, .nil => .nil
  | _, _, .cons h r => by
    rw [List.reverse_cons, List.reverse_cons]
    exact Wts.append (Wts.reverse r) (.cons h .nil)
theorem Wts.eraseIdx : ∀ {vs : List V} {ds : List D} (i : Nat), Wts Y G ca vs ds → Wts Y G ca (vs.eraseIdx i) (ds.eraseIdx i)
  | _, _, _, .nil => .nil
  | _, _, 0, .cons _ r => r
  | _, _, i + 1, .cons q r => .cons q (Wts.eraseIdx i r)
theorem Wts.flat {vs : List V} {ds : List D} (h : Wts Y G ca vs ds) : ∀ n : Nat, Wts Y G ca (List.replicate n vs).flatten (List.replicate n ds).flatten
  | 0 => by simpa using Wts.nil
  | n + 1 => by
    rw [List.replicate_succ, List.replicate_succ, List.flatten_cons, List.flatten_cons]
    exact h.append (Wts.flat h n)
theorem flat_len {α : Type} (vs : List α) (n : Nat) : (List.replicate n vs).flatten.length = vs.length * n := by
  induction n with
  | zero => simp
  | succ n ih => rw [List.replicate_succ, List.flatten_cons, List.length_append, ih, Nat.mul_succ, Nat.add_comm]
theorem Wts.ints : ∀ {vs : List V} {ds : List D} {ns : List Int}, Wts Y G ca vs ds → DL.intsOf ds = some ns → vs = ns.map V.int
  | _, _, ns, .nil, e => by simp [DL.intsOf] at e; subst e; rfl
  | _, _, ns, .cons h r, e => by
    cases h <;> simp only [DL.intsOf] at e <;> first | cases e | skip
    simp only [Option.map_eq_some_iff] at e
    obtain ⟨ms, e1, rfl⟩ := e
    rw [Wts.ints r e1]
    rfl
theorem Wts.bools : ∀ {vs : List V} {ds : List D} {ns : List Bool}, Wts Y G ca vs ds → DL.bools ds = some ns → vs = ns.map V.bl
  | _, _, ns, .nil, e => by simp [DL.bools] at e; subst e; rfl
  | _, _, ns, .cons h r, e => by
    cases h <;> simp only [DL.bools] at e <;> first | cases e | skip
    simp only [Option.map_eq_some_iff] at e
    obtain ⟨ms, e1, rfl⟩ := e
    rw [Wts.bools r e1]
    rfl
theorem Wts.ofInts : ∀ ns : List Int, Wts Y G ca (ns.map V.int) (ns.map D.int)
  | [] => .nil
  | n :: r => .cons (.int n) (Wts.ofInts r)
end

/-- the abstract heap of a law's state: G what never changes again, ca the cup's place -/
structure RS0 (Y : Yp) (G : Hp) (ca : Option Addr) (H : Hp) (c : C) : Prop where
  le : Same G H
  tab : LamX.Tabs Y.Z.T H
  cup : ∀ a, ca = some a → H a = some (.lst [.int c.a, .int c.b]) ∧ G a = none
  nt : ∀ b ps, G b ≠ some (.tbl ps)
/-- nothing stands at b but, maybe, a table -/
def NoO (H : Hp) (b : Addr) : Prop := ∀ o, H b = some o → ∃ ps, o = .tbl ps
theorem NoO.of {H : Hp} {b : Addr} (h : H b = none) : NoO H b := fun o e => by rw [h] at e; cases e
theorem NoO.no {H : Hp} {b : Addr} {o : HO} (h : NoO H b) (e : H b = some o) (n : ∀ ps, o ≠ .tbl ps) : False := by
  obtain ⟨ps, z⟩ := h o e
  exact n ps z
structure Stp (G : Hp) (ca : Option Addr) (H G' : Hp) (ca' : Option Addr) (H' : Hp) : Prop where
  le : Same G G'
  nw : ∀ b o, G' b = some o → G b = some o ∨ NoO H b
  dm : ∀ b, NoO H' b → NoO H b
  fr : ∀ b o, H b = some o → (∀ ps, o ≠ .tbl ps) → ca ≠ some b → H' b = some o
  cl : ∀ a, ca = some a → ca' = some a
  cn : ∀ a, ca' = some a → ca = some a ∨ NoO H a
section
variable {Y : Yp} {G G' G'' H H' H'' : Hp} {ca ca' ca'' : Option Addr} {c c' : C}
theorem Stp.refl : Stp G ca H G ca H := ⟨fun _ _ h => h, fun _ _ h => .inl h, fun _ h => h, fun _ _ h _ _ => h, fun _ h => h, fun _ h => .inl h⟩
theorem Stp.trans (s : Stp G ca H G' ca' H') (t : Stp G' ca' H' G'' ca'' H'') : Stp G ca H G'' ca'' H'' where
  le := fun b o h => t.le b o (s.le b o h)
  nw := fun b o h => by
    rcases t.nw b o h with h | h
    · exact s.nw b o h
    · exact .inr (s.dm b h)
  dm := fun b h => s.dm b (t.dm b h)
  fr := fun b o h n k => by
    refine t.fr b o (s.fr b o h n k) n fun z => ?_
    rcases s.cn b z with z | z
    · exact k z
    · exact z.no h n
  cl := fun a h => t.cl a (s.cl a h)
  cn := fun a h => by
    rcases t.cn a h with h | h
    · exact s.cn a h
    · exact .inr (s.dm a h)
/-- a new object that may be changed later: not in G -/
theorem Stp.new {p : Addr} {o : HO} (hp : H p = none) : Stp G ca H G ca (upd H p o) where
  le := fun _ _ h => h
  nw := fun _ _ h => .inl h
  dm := fun b h => by
    by_cases e : b = p
    · subst e; exact .of hp
    · exact fun u hu => h u (by rw [upd_ne e]; exact hu)
  fr := fun b u h _ _ => by rw [upd_ne (ne_of_none h hp)]; exact h
  cl := fun _ h => h
  cn := fun _ h => .inl h
theorem RS0.new (r : RS0 Y G ca H c) {p : Addr} {o : HO} (hp : H p = none) : RS0 Y G ca (upd H p o) c where
  le := fun b u h => by rw [upd_ne (ne_of_none (r.le b u h) hp)]; exact r.le b u h
  tab := r.tab.ext fun b u h => by rw [upd_ne (ne_of_none h hp)]; exact h
  cup := fun a h => by
    obtain ⟨h1, h2⟩ := r.cup a h
    exact ⟨by rw [upd_ne (ne_of_none h1 hp)]; exact h1, h2⟩
  nt := r.nt
theorem RS0.free (r : RS0 Y G ca H c) {p : Addr} (hp : H p = none) : G p = none := by
  cases e : G p with
  | none => rfl
  | some o => rw [r.le p o e] at hp; cases hp
/-- an object that stands, that is neither the cup nor known to G, is known from now on -/
theorem RS0.frz (r : RS0 Y G ca H c) {p : Addr} {o : HO} (hp : H p = some o) (hg : G p = none) (hc : ca ≠ some p) (ho : ∀ ps, o ≠ .tbl ps := by intro _ z; cases z) : RS0 Y (upd G p o) ca H c where
  le := fun b u h => by
    by_cases e : b = p
    · subst e; rw [upd_same] at h; cases h; exact hp
    · rw [upd_ne e] at h; exact r.le b u h
  tab := r.tab
  cup := fun a h => by
    obtain ⟨h1, h2⟩ := r.cup a h
    refine ⟨h1, ?_⟩
    rw [upd_ne (fun z => hc (by rw [← z]; exact h))]
    exact h2
  nt := fun b ps h => by
    by_cases e : b = p
    · subst e
      rw [upd_same] at h
      cases h
      exact ho ps rfl
    · rw [upd_ne e] at h
      exact r.nt b ps h
theorem same_upd {G : Hp} {p : Addr} {o : HO} (hg : G p = none) : Same G (upd G p o) := fun b u h => by rw [upd_ne (ne_of_none h hg)]; exact h
theorem Stp.newG (r : RS0 Y G ca H c) {p : Addr} {o : HO} (hp : H p = none) : Stp G ca H (upd G p o) ca (upd H p o) where
  le := same_upd (r.free hp)
  nw := fun b u h => by
    by_cases e : b = p
    · subst e; exact .inr (.of hp)
    · rw [upd_ne e] at h; exact .inl h
  dm := (Stp.new (G := G) (ca := ca) (o := o) hp).dm
  fr := (Stp.new (G := G) (ca := ca) (o := o) hp).fr
  cl := fun _ h => h
  cn := fun _ h => .inl h
theorem RS0.ncup (r : RS0 Y G ca H c) {p : Addr} (hp : H p = none) : ca ≠ some p := fun z => by rw [(r.cup p z).1] at hp; cases hp
theorem RS0.newG (r : RS0 Y G ca H c) {p : Addr} {o : HO} (hp : H p = none) (ho : ∀ ps, o ≠ .tbl ps := by intro _ z; cases z) : RS0 Y (upd G p o) ca (upd H p o) c :=
  (r.new hp).frz upd_same (r.free hp) (r.ncup hp) ho
end

/-- where the def was entered -/
structure En where
  G : Hp
  ca : Option Addr
  H : Hp
structure RS (Y : Yp) (N : En) (G : Hp) (ca : Option Addr) (σ : L2.St) (H : Hp) (env : Env) (c : C) : Prop where
  r0 : RS0 Y G ca H c
  st : Stp N.G N.ca N.H G ca H
  len : env.length = σ.length
  val : ∀ (i : Nat) (d : D), env[i]? = some (.val d) → ∃ v, σ[i]? = some (some v) ∧ Wt Y G ca v d
  own : ∀ (i : Nat) (xs : List D), env[i]? = some (.own xs) → ∃ a vs, σ[i]? = some (some (.ref a)) ∧ H a = some (.lst vs) ∧ Wts Y G ca vs xs ∧ G a = none ∧ ca ≠ some a ∧ NoO N.H a ∧ xs.length ≤ sizeL
  sep : ∀ (i j : Nat) (xs ys : List D) (a : Addr), env[i]? = some (.own xs) → env[j]? = some (.own ys) → σ[i]? = some (some (.ref a)) → σ[j]? = some (some (.ref a)) → i = j
/-- a value at hand -/
def WtR (Y : Yp) (G : Hp) (ca : Option Addr) (σ : L2.St) (env : Env) (v : V) : RV → Prop
  | .pl d => Wt Y G ca v d
  | .ow i xs => env[i]? = some (.own xs) ∧ σ[i]? = some (some v)
/-- .. as it may be read -/
def WtS (Y : Yp) (G H : Hp) (ca : Option Addr) (v : V) (d : D) : Prop :=
  Wt Y G ca v d ∨ ∃ a vs xs, v = .ref a ∧ d = .lst xs ∧ H a = some (.lst vs) ∧ Wts Y G ca vs xs ∧ xs.length ≤ sizeL
section
variable {Y : Yp} {N : En} {G G' H H' : Hp} {ca ca' : Option Addr} {σ : L2.St} {env : Env} {c c' : C} {v : V} {rv : RV} {d : D}
theorem notbl {vs : List V} : ∀ ps, HO.lst vs ≠ HO.tbl ps := fun ps z => by cases z
theorem RS.step (r : RS Y N G ca σ H env c) (s : Stp G ca H G' ca' H') (r' : RS0 Y G' ca' H' c') : RS Y N G' ca' σ H' env c' where
  r0 := r'
  st := r.st.trans s
  len := r.len
  val := fun i d h => by
    obtain ⟨v, h1, h2⟩ := r.val i d h
    exact ⟨v, h1, h2.mono s.le s.cl⟩
  own := fun i xs h => by
    obtain ⟨a, vs, h1, h2, h3, h4, h5, h6, h7⟩ := r.own i xs h
    refine ⟨a, vs, h1, s.fr a _ h2 notbl h5, h3.mono s.le s.cl, ?_, fun z => ?_, h6, h7⟩
    · cases e : G' a with
      | none => rfl
      | some o =>
        rcases s.nw a o e with z | z
        · rw [h4] at z; cases z
        · exact (z.no h2 notbl).elim
    · rcases s.cn a z with z | z
      · exact h5 z
      · exact z.no h2 notbl
  sep := r.sep
theorem WtR.step (w : WtR Y G ca σ env v rv) (s : Stp G ca H G' ca' H') : WtR Y G' ca' σ env v rv := by
  cases rv with
  | pl d => exact Wt.mono s.le s.cl w
  | ow i xs => exact w
theorem WtR.read (r : RS Y N G ca σ H env c) (w : WtR Y G ca σ env v rv) : WtS Y G H ca v rv.d := by
  cases rv with
  | pl d => exact .inl w
  | ow i xs =>
    obtain ⟨w1, w2⟩ := w
    obtain ⟨a, vs, h1, h2, h3, _, _, _, h7⟩ := r.own i xs w1
    rw [h1] at w2
    cases w2
    exact .inr ⟨a, vs, xs, rfl, rfl, h2, h3, h7⟩
/-- all of it as it stands in H -/
theorem WtS.all (r : RS0 Y G ca H c) (w : WtS Y G H ca v d) : Wt Y H ca v d := by
  rcases w with w | ⟨a, vs, xs, rfl, rfl, h, w, l⟩
  · exact w.mono r.le fun _ h => h
  · exact .lst h (w.mono r.le fun _ h => h) l
theorem WtS.bl (w : WtS Y G H ca v (.bl true) ∨ WtS Y G H ca v (.bl false)) : ∃ b, v = .bl b := by
  rcases w with (w | ⟨_, _, _, _, e, _⟩) | (w | ⟨_, _, _, _, e, _⟩)
  · cases w; exact ⟨_, rfl⟩
  · cases e
  · cases w; exact ⟨_, rfl⟩
  · cases e
/-- plain, unless it is a list -/
theorem WtS.atom (w : WtS Y G H ca v d) (h : ∀ xs, d ≠ .lst xs) : Wt Y G ca v d := by
  rcases w with w | ⟨_, _, _, _, e, _⟩
  · exact w
  · exact absurd e (h _)
theorem WtS.lst {xs : List D} (r : RS0 Y G ca H c) (w : WtS Y G H ca v (.lst xs)) : ∃ a vs, v = .ref a ∧ H a = some (.lst vs) ∧ Wts Y G ca vs xs ∧ xs.length ≤ sizeL := by
  rcases w with w | ⟨a, vs, ys, e1, e, h, w, l⟩
  · cases w with
    | lst h w l => exact ⟨_, _, rfl, r.le _ _ h, w, l⟩
  · cases e
    exact ⟨a, vs, e1, h, w, l⟩
theorem sql {K : PySem.W.Frag} {a : Addr} {vs : List V} (h : H a = some (.lst vs)) : SqL K H a vs := .inl (.inl h)
theorem WtS.tup {xs : List D} (r : RS0 Y G ca H c) (w : WtS Y G H ca v (.tup xs)) : ∃ a vs, v = .ref a ∧ SqT Y.K H a vs ∧ Wts Y G ca vs xs ∧ xs.length ≤ sizeL := by
  cases w.atom (fun _ e => by cases e) with
  | tup h w l => exact ⟨_, _, rfl, sqT_mono r.le h, w, l⟩
end

/-! ### readings -/
abbrev yOf (X : Cx) (Z : Zp) : Yp := ⟨X.K, X.mg, Z⟩
/-- the error's class and its own dict -/
def IsX (Y : Yp) (x : Ex) (cls : Value) (dd : Option Addr) (H : Hp) : Prop := ∃ a, Y.mg (Y.Z.xnm x.cls) = some (.ref a) ∧ cls = .ref a ∧
  (match x.arg with
    | .non => dd = none
    | .int i => ∃ dx, dd = some dx ∧ H dx = some (.xd [(Y.Z.xfl x.cls, .int i)])
    | _ => False)
/-- what follows an error -/
def Bad (Y : Yp) (N : En) (W : WX) (σ : L2.St) (env : Env) (x : Ex) (c : C) (G : Hp) (ca : Option Addr) (H : Hp) : Prop :=
  ∀ cls dd G' ca' H', IsX Y x cls dd H' → Stp G ca H G' ca' H' → RS Y N G' ca' σ H' env c → W cls dd σ H'
def tD (Y : Yp) (N : En) (W : WX) (f : DE) : TE := fun σ H Q => ∃ G ca env c, RS Y N G ca σ H env c ∧ (match f env c with
  | .ok rv c' => ∀ G' ca' H' v, Stp G ca H G' ca' H' → RS Y N G' ca' σ H' env c' → WtR Y G' ca' σ env v rv → Q v H'
  | .er x c' => Bad Y N W σ env x c' G ca H
  | .st => False)
/-- e makes a new list -/
def tDO (Y : Yp) (N : En) (W : WX) (f : DE) : TE := fun σ H Q => ∃ G ca env c, RS Y N G ca σ H env c ∧ (match f env c with
  | .ok rv c' => ∃ ds, rv = .pl (.lst ds) ∧ ∀ G' ca' H' a vs, Stp G ca H G' ca' H' → RS Y N G' ca' σ H' env c' → NoO H a → H' a = some (.lst vs) → G' a = none → ca' ≠ some a → Wts Y G' ca' vs ds → ds.length ≤ sizeL → Q (.ref a) H'
  | .er x c' => Bad Y N W σ env x c' G ca H
  | .st => False)
def tDT (Y : Yp) (N : En) (W : WX) (f : DT) : TT := fun σ H Q => ∃ G ca env c, RS Y N G ca σ H env c ∧ (match f env c with
  | .ok b c' => ∀ G' ca' H', Stp G ca H G' ca' H' → RS Y N G' ca' σ H' env c' → Q b H'
  | .er x c' => Bad Y N W σ env x c' G ca H
  | .st => False)
def WtRs (Y : Yp) (G : Hp) (ca : Option Addr) (σ : L2.St) (env : Env) : List V → List RV → Prop := Paired (WtR Y G ca σ env)
def tDA (Y : Yp) (N : En) (W : WX) (f : DA) : TA := fun σ H Q => ∃ G ca env c, RS Y N G ca σ H env c ∧ (match f env c with
  | .ok rvs c' => ∀ G' ca' H' vs, Stp G ca H G' ca' H' → RS Y N G' ca' σ H' env c' → WtRs Y G' ca' σ env vs rvs → Q vs H'
  | .er x c' => Bad Y N W σ env x c' G ca H
  | .st => False)
section
variable {X : Cx} {Z : Zp} {N : En} {W : WX}
abbrev PD (X : Cx) (Z : Zp) (N : En) (W : WX) (e : Expr) (f : DE) : Prop := PE X e (tD (yOf X Z) N W f)
abbrev PDO (X : Cx) (Z : Zp) (N : En) (W : WX) (e : Expr) (f : DE) : Prop := PE X e (tDO (yOf X Z) N W f)
abbrev PDT (X : Cx) (Z : Zp) (N : En) (W : WX) (e : Expr) (f : DT) : Prop := PT X e (tDT (yOf X Z) N W f)
abbrev PDA (X : Cx) (Z : Zp) (N : En) (W : WX) (es : List Expr) (f : DA) : Prop := PA X es (tDA (yOf X Z) N W f)
theorem pe_imp {e : Expr} {t t' : TE} (h : PE X e t) (i : ∀ σ H Q, t' σ H Q → t σ H Q) : PE X e t' := ⟨fun pins s σ H Q I q => h.run pins s σ H Q I (i _ _ _ q)⟩
theorem pt_imp {e : Expr} {t t' : TT} (h : PT X e t) (i : ∀ σ H Q, t' σ H Q → t σ H Q) : PT X e t' := ⟨fun pins s σ H Q I q => h.run pins s σ H Q I (i _ _ _ q)⟩
theorem pw_imp {e : Expr} {t t' : TT} (h : PW X e t) (i : ∀ σ H Q, t' σ H Q → t σ H Q) : PW X e t' := ⟨fun whole pins s σ H Q I q => h.run whole pins s σ H Q I (i _ _ _ q)⟩
theorem pa_imp {es : List Expr} {t t' : TA} (h : PA X es t) (i : ∀ σ H Q, t' σ H Q → t σ H Q) : PA X es t' := ⟨fun pos pins s σ H Q I q => h.run pos pins s σ H Q I (i _ _ _ q)⟩
theorem ps_imp {e : Stmt} {t t' : TS} (h : PS X e t) (i : ∀ D σ H, t' D σ H → t D σ H) : PS X e t' := ⟨fun pins s σ H D I q => h.run pins s σ H D I (i _ _ _ q)⟩
theorem pss_imp {e : List Stmt} {t t' : TS} (h : PSs X e t) (i : ∀ D σ H, t' D σ H → t D σ H) : PSs X e t' := ⟨fun pins s σ H D I q => h.run pins s σ H D I (i _ _ _ q)⟩
theorem pi_imp {tg e : Expr} {t t' : TI} (h : PI X tg e t) (i : ∀ σ H Q, t' σ H Q → t σ H Q) : PI X tg e t' := ⟨fun pins s σ H Q I q => h.run pins s σ H Q I (i _ _ _ q)⟩
theorem pg_imp {e : Expr} {t t' : L2.TG} (h : PG X e t) (i : ∀ v σ H Q, t' v σ H Q → t v σ H Q) : PG X e t' := ⟨fun pins s σ H v u Q I r q => h.run pins s σ H v u Q I r (i _ _ _ _ q)⟩

theorem Bad.back {Y : Yp} {σ : L2.St} {env : Env} {x : Ex} {c : C} {G G' H H' : Hp} {ca ca' : Option Addr} (b : Bad Y N W σ env x c G ca H) (s : Stp G ca H G' ca' H') : Bad Y N W σ env x c G' ca' H' :=
  fun cls dd G2 ca2 H2 h1 h2 h3 => b cls dd G2 ca2 H2 h1 (s.trans h2) h3

/-! ### names and constants -/
theorem pd_var {i : Nat} {x : Str} {pos : Pos} (hN : X.N[i]? = some x) (hv : Vis X.env.scope x) (hd : (x == ("__debug__" : Str)) = false) (hcd : (x == ("__classdict__" : Str)) = false) : PD X Z N W (.Name x pos) (dVar i) := by
  refine pe_imp (pe_var hN hv hd hcd) fun σ H Q h => ?_
  obtain ⟨G, ca, env, c, r, h⟩ := h
  unfold dVar at h
  cases e : env[i]? with
  | none => rw [e] at h; exact h.elim
  | some s =>
    rw [e] at h
    cases s with
    | no => exact h.elim
    | val d =>
      obtain ⟨v, h1, h2⟩ := r.val i d e
      exact ⟨v, h1, h _ _ _ v .refl r h2⟩
    | own xs =>
      obtain ⟨a, vs, h1, _⟩ := r.own i xs e
      exact ⟨.ref a, h1, h _ _ _ _ .refl r ⟨e, h1⟩⟩
theorem pd_c {e : Expr} {v : V} {d : D} (h : PE X e (tC v)) (w : ∀ G ca, Wt (yOf X Z) G ca v d) : PD X Z N W e (dC d) :=
  pe_imp h fun σ H Q ⟨G, ca, env, c, r, h⟩ => h _ _ _ v .refl r (w _ _)
theorem pd_int {i : Int} {j pos} : PD X Z N W (.Constant (.int i) j pos) (dC (.int i)) := pd_c pe_int fun _ _ => .int i
theorem pd_bl {b : Bool} {j pos} : PD X Z N W (.Constant (.bool b) j pos) (dC (.bl b)) := pd_c pe_bl fun _ _ => .bl b
theorem pd_non {j pos} : PD X Z N W (.Constant .none j pos) (dC .non) := pd_c pe_non fun _ _ => .non
theorem pd_str {x : Str} {j pos} : PD X Z N W (.Constant (.str x) j pos) (dC (.str x)) := pd_c pe_str fun _ _ => .str x
/-- a constant of the module -/
theorem pd_glob {x : Str} {u : Value} {v : V} {d : D} {pos : Pos} (hg : Gl X x) (hm : X.mg x = some u) (r : RelV v u) (w : ∀ G ca, Wt (yOf X Z) G ca v d) (hd : (x == ("__debug__" : Str)) = false) : PD X Z N W (.Name x pos) (dC d) := pd_c (pe_glob hg hm r hd) w

/-! ### what an operation leaves -/
def Done (Y : Yp) (G : Hp) (ca : Option Addr) (H : Hp) (c : C) (d : D) (Q : VK) : Prop := ∀ G' H' v, Stp G ca H G' ca H' → RS0 Y G' ca H' c → Wt Y G' ca v d → Q v H'
def DoneO (Y : Yp) (G : Hp) (ca : Option Addr) (H : Hp) (c : C) (ds : List D) (Q : VK) : Prop := ∀ H' a vs, Stp G ca H G ca H' → RS0 Y G ca H' c → H a = none → H' a = some (.lst vs) → Wts Y G ca vs ds → ds.length ≤ sizeL → Q (.ref a) H'
variable {Y : Yp} {G H : Hp} {ca : Option Addr} {c : C} {Q : VK}
theorem Done.here {d : D} {v : V} (k : Done Y G ca H c d Q) (r : RS0 Y G ca H c) (w : Wt Y G ca v d) : Q v H := k G H v .refl r w
theorem Done.tup {ds : List D} {vs : List V} {p : Addr} (k : Done Y G ca H c (.tup ds) Q) (r : RS0 Y G ca H c) (w : Wts Y G ca vs ds) (hl : ds.length ≤ sizeL) (hp : H p = none) : Q (.ref p) (upd H p (.tup vs)) :=
  k (upd G p (.tup vs)) _ _ (.newG r hp) (r.newG hp) (.tup (.inl (.inl upd_same)) (w.mono (same_upd (r.free hp)) fun _ h => h) hl)
theorem Done.lst {ds : List D} {vs : List V} {p : Addr} (k : Done Y G ca H c (.lst ds) Q) (r : RS0 Y G ca H c) (w : Wts Y G ca vs ds) (hl : ds.length ≤ sizeL) (hp : H p = none) : Q (.ref p) (upd H p (.lst vs)) :=
  k (upd G p (.lst vs)) _ _ (.newG r hp) (r.newG hp) (.lst upd_same (w.mono (same_upd (r.free hp)) fun _ h => h) hl)
theorem DoneO.new {ds : List D} {vs : List V} {p : Addr} (k : DoneO Y G ca H c ds Q) (r : RS0 Y G ca H c) (w : Wts Y G ca vs ds) (hl : ds.length ≤ sizeL) (hp : H p = none) : Q (.ref p) (upd H p (.lst vs)) :=
  k _ _ _ (.new hp) (r.new hp) hp upd_same w hl
theorem Done.o {ds : List D} (k : Done Y G ca H c (.lst ds) Q) (r : RS0 Y G ca H c) : DoneO Y G ca H c ds Q := fun H' a vs s r' hn ha w hl => by
  have ga : G a = none := r.free hn
  refine k (upd G a (.lst vs)) H' (.ref a) ⟨same_upd ga, fun b o h => ?_, s.dm, s.fr, s.cl, s.cn⟩ (r'.frz ha ga (r.ncup hn)) (.lst upd_same (w.mono (same_upd ga) fun _ h => h) hl)
  by_cases e : b = a
  · subst e; exact .inr (.of hn)
  · rw [upd_ne e] at h; exact .inl h
/-- a new list need not be owned -/
theorem pdo_pd {e : Expr} {f : DE} (h : PDO X Z N W e f) (hf : ∀ env c c' rv, f env c = .ok rv c' → ∃ ds, rv = .pl (.lst ds)) : PD X Z N W e f := by
  refine pe_imp h fun σ H Q h => ?_
  obtain ⟨G, ca, env, c, r, h⟩ := h
  refine ⟨G, ca, env, c, r, ?_⟩
  cases e : f env c with
  | st => rw [e] at h; exact h.elim
  | er x c' => rw [e] at h; exact h
  | ok rv c' =>
    rw [e] at h
    obtain ⟨ds, rfl⟩ := hf _ _ _ _ e
    refine ⟨ds, rfl, fun G' ca' H' a vs s r' hn ha ga na w hl => ?_⟩
    have s2 : Stp G ca H (upd G' a (.lst vs)) ca' H' := ⟨s.le.trans (same_upd ga), fun b o h => by
      by_cases e : b = a
      · subst e; exact .inr hn
      · rw [upd_ne e] at h; exact s.nw b o h, s.dm, s.fr, s.cl, s.cn⟩
    exact h _ _ _ (.ref a) s2 (r.step s2 (r'.r0.frz ha ga na)) (Wt.lst upd_same (w.mono (same_upd ga) fun _ h => h) hl)

/-! ### operators -/
/-- a binary operator, by its values -/
def OpD (X : Cx) (Z : Zp) (f : Value → Value → PySem.Sem Value) (g : D → D → Option D) : Prop := ∃ r : R2, OpR X f r ∧
  ∀ (G : Hp) (ca : Option Addr) (H : Hp) (c : C) (x y : V) (dx dy d : D) (Q : VK), RS0 (yOf X Z) G ca H c → WtS (yOf X Z) G H ca x dx → WtS (yOf X Z) G H ca y dy → g dx dy = some d → Done (yOf X Z) G ca H c d Q → r x y H Q
def OpDO (X : Cx) (Z : Zp) (f : Value → Value → PySem.Sem Value) (g : D → D → Option D) : Prop := ∃ r : R2, OpR X f r ∧
  ∀ (G : Hp) (ca : Option Addr) (H : Hp) (c : C) (x y : V) (dx dy d : D) (Q : VK), RS0 (yOf X Z) G ca H c → WtS (yOf X Z) G H ca x dx → WtS (yOf X Z) G H ca y dy → g dx dy = some d → ∃ ds, d = .lst ds ∧ (DoneO (yOf X Z) G ca H c ds Q → r x y H Q)
theorem td2 {N : En} {W : WX} {fa fb : DE} {r : R2} {g : D → D → Option D} {σ : L2.St} (hr : ∀ (G : Hp) (ca : Option Addr) (H : Hp) (c : C) (x y : V) (dx dy d : D) (Q : VK), RS0 Y G ca H c → WtS Y G H ca x dx → WtS Y G H ca y dy → g dx dy = some d → Done Y G ca H c d Q → r x y H Q)
    (h : tD Y N W (dO2 g fa fb) σ H Q) : tOp r (tD Y N W fa) (tD Y N W fb) σ H Q := by
  obtain ⟨G, ca, env, c, rs, h⟩ := h
  refine ⟨G, ca, env, c, rs, ?_⟩
  simp only [dO2] at h
  cases e : fa env c with
  | st => rw [e] at h; exact h
  | er x c1 => rw [e] at h; exact h
  | ok x c1 =>
    rw [e] at h
    simp only [R.bind] at h
    intro G1 ca1 H1 vx s1 r1 w1
    refine ⟨G1, ca1, env, c1, r1, ?_⟩
    cases e2 : fb env c1 with
    | st => rw [e2] at h; exact h
    | er z c2 => rw [e2] at h; exact Bad.back h s1
    | ok y c2 =>
      rw [e2] at h
      intro G2 ca2 H2 vy s2 r2 w2
      dsimp only at h
      cases e3 : g x.d y.d with
      | none => rw [e3] at h; exact h.elim
      | some d =>
        rw [e3] at h
        refine hr G2 ca2 H2 c2 vx vy x.d y.d d Q r2.r0 ((w1.step s2).read r2) (w2.read r2) e3 fun G3 H3 v s3 r3 w3 => ?_
        exact h G3 ca2 H3 v ((s1.trans s2).trans s3) (r2.step s3 r3) w3
theorem pd_bin {op : Operator} {a b : Expr} {fa fb : DE} {g : D → D → Option D} {pos : Pos} (ho : OpD X Z (binaryOp op) g) (ha : PD X Z N W a fa) (hb : PD X Z N W b fb) : PD X Z N W (.BinOp a op b pos) (dO2 g fa fb) := by
  obtain ⟨r, h1, h2⟩ := ho
  exact pe_imp (pe_op h1 ha hb) fun σ H Q h => td2 h2 h
theorem pd_cmp {op : CmpOp} {a b : Expr} {fa fb : DE} {g : D → D → Option D} {pos : Pos} (ho : OpD X Z (compareOp op) g) (ha : PD X Z N W a fa) (hb : PD X Z N W b fb) (hm : behindInMarks op b = false) : PD X Z N W (.Compare a [op] [b] pos) (dO2 g fa fb) := by
  obtain ⟨r, h1, h2⟩ := ho
  exact pe_imp (pe_cmpR h1 ha hb hm) fun σ H Q h => td2 h2 h
theorem td2o {N : En} {W : WX} {fa fb : DE} {r : R2} {g : D → D → Option D} {σ : L2.St} (hr : ∀ (G : Hp) (ca : Option Addr) (H : Hp) (c : C) (x y : V) (dx dy d : D) (Q : VK), RS0 Y G ca H c → WtS Y G H ca x dx → WtS Y G H ca y dy → g dx dy = some d → ∃ ds, d = .lst ds ∧ (DoneO Y G ca H c ds Q → r x y H Q))
    (h : tDO Y N W (dO2 g fa fb) σ H Q) : tOp r (tD Y N W fa) (tD Y N W fb) σ H Q := by
  obtain ⟨G, ca, env, c, rs, h⟩ := h
  refine ⟨G, ca, env, c, rs, ?_⟩
  simp only [dO2] at h
  cases e : fa env c with
  | st => rw [e] at h; exact h
  | er x c1 => rw [e] at h; exact h
  | ok x c1 =>
    rw [e] at h
    simp only [R.bind] at h
    intro G1 ca1 H1 vx s1 r1 w1
    refine ⟨G1, ca1, env, c1, r1, ?_⟩
    cases e2 : fb env c1 with
    | st => rw [e2] at h; exact h
    | er z c2 => rw [e2] at h; exact Bad.back h s1
    | ok y c2 =>
      rw [e2] at h
      intro G2 ca2 H2 vy s2 r2 w2
      dsimp only at h
      cases e3 : g x.d y.d with
      | none => rw [e3] at h; exact h.elim
      | some d =>
        rw [e3] at h
        obtain ⟨ds, e5, hr2⟩ := hr G2 ca2 H2 c2 vx vy x.d y.d d Q r2.r0 ((w1.step s2).read r2) (w2.read r2) e3
        obtain ⟨ds', e4, h⟩ := h
        cases e4
        cases e5
        refine hr2 fun H3 a vs s3 r3 hn ha w3 hl => ?_
        have s12 := s1.trans s2
        exact h G2 ca2 H3 a vs (s12.trans s3) (r2.step s3 r3) (s12.dm _ (.of hn)) ha (r2.r0.free hn) (r2.r0.ncup hn) w3 hl
theorem pdo_bin {op : Operator} {a b : Expr} {fa fb : DE} {g : D → D → Option D} {pos : Pos} (ho : OpDO X Z (binaryOp op) g) (ha : PD X Z N W a fa) (hb : PD X Z N W b fb) : PDO X Z N W (.BinOp a op b pos) (dO2 g fa fb) := by
  obtain ⟨r, h1, h2⟩ := ho
  exact pe_imp (pe_op h1 ha hb) fun σ H Q h => td2o h2 h
theorem opdo {f : Value → Value → PySem.Sem Value} {g : D → D → Option D} (h : OpDO X Z f g) : OpD X Z f g := by
  obtain ⟨r, h1, h2⟩ := h
  refine ⟨r, h1, fun G ca H c x y dx dy d Q rs w1 w2 e k => ?_⟩
  obtain ⟨ds, rfl, h3⟩ := h2 G ca H c x y dx dy d Q rs w1 w2 e
  exact h3 (k.o rs)
theorem opd_or {f : Value → Value → PySem.Sem Value} {g g' : D → D → Option D} (h : OpD X Z f g) (h' : OpD X Z f g') : OpD X Z f (fun x y => (g x y).or (g' x y)) := by
  obtain ⟨r, h1, h2⟩ := h
  obtain ⟨r', h1', h2'⟩ := h'
  refine ⟨_, h1.or h1', fun G ca H c x y dx dy d Q rs w1 w2 e k => ?_⟩
  dsimp only at e
  cases e1 : g dx dy with
  | some d' => rw [e1] at e; cases e; exact .inl (h2 _ _ _ _ _ _ _ _ _ _ rs w1 w2 e1 k)
  | none => rw [e1] at e; exact .inr (h2' _ _ _ _ _ _ _ _ _ _ rs w1 w2 e k)
theorem opd_imp {f : Value → Value → PySem.Sem Value} {g g' : D → D → Option D} (h : OpD X Z f g) (i : ∀ x y d, g' x y = some d → g x y = some d) : OpD X Z f g' := by
  obtain ⟨r, h1, h2⟩ := h
  exact ⟨r, h1, fun G ca H c x y dx dy d Q rs w1 w2 e k => h2 _ _ _ _ _ _ _ _ _ _ rs w1 w2 (i _ _ _ e) k⟩
/-- unary -/
def UnD (X : Cx) (Z : Zp) (f : Value → PySem.Sem Value) (g : D → Option D) : Prop := ∃ r, UnR X f r ∧
  ∀ (G : Hp) (ca : Option Addr) (H : Hp) (c : C) (x : V) (dx d : D) (Q : VK), RS0 (yOf X Z) G ca H c → WtS (yOf X Z) G H ca x dx → g dx = some d → Done (yOf X Z) G ca H c d Q → r x H Q
theorem td1 {N : En} {W : WX} {fa : DE} {r : V → Hp → VK → Prop} {g : D → Option D} {σ : L2.St} (hr : ∀ (G : Hp) (ca : Option Addr) (H : Hp) (c : C) (x : V) (dx d : D) (Q : VK), RS0 Y G ca H c → WtS Y G H ca x dx → g dx = some d → Done Y G ca H c d Q → r x H Q)
    (h : tD Y N W (dO1 g fa) σ H Q) : tD Y N W fa σ H (fun x H1 => r x H1 Q) := by
  obtain ⟨G, ca, env, c, rs, h⟩ := h
  refine ⟨G, ca, env, c, rs, ?_⟩
  simp only [dO1] at h
  cases e : fa env c with
  | st => rw [e] at h; exact h
  | er x c1 => rw [e] at h; exact h
  | ok x c1 =>
    rw [e] at h
    simp only [R.bind] at h
    intro G1 ca1 H1 vx s1 r1 w1
    cases e3 : g x.d with
    | none => rw [e3] at h; exact h.elim
    | some d =>
      rw [e3] at h
      exact hr G1 ca1 H1 c1 vx x.d d Q r1.r0 (w1.read r1) e3 fun G3 H3 v s3 r3 w3 => h G3 ca1 H3 v (s1.trans s3) (r1.step s3 r3) w3
theorem pd_un {op : UnaryOp} {a : Expr} {fa : DE} {g : D → Option D} {pos : Pos} (ho : UnD X Z (unaryOp op) g) (ha : PD X Z N W a fa) : PD X Z N W (.UnaryOp op a pos) (dO1 g fa) := by
  obtain ⟨r, h1, h2⟩ := ho
  exact pe_imp (pe_un h1 ha) fun σ H Q h => td1 h2 h

/-! ### argument lists, displays, calls of built-ins -/
theorem pda_nil : PDA X Z N W [] (dArgs []) := pa_imp pa_nil fun σ H Q ⟨G, ca, env, c, r, h⟩ => h _ _ _ [] .refl r .nil
theorem WtRs.step {σ : L2.St} {env : Env} {G G' H H' : Hp} {ca ca' : Option Addr} {vs : List V} {rvs : List RV} (w : WtRs Y G ca σ env vs rvs) (s : Stp G ca H G' ca' H') : WtRs Y G' ca' σ env vs rvs := Paired.mapP w fun _ _ z => z.step s
theorem pda_cons {e : Expr} {es : List Expr} {f : DE} {fs : List DE} (ha : PD X Z N W e f) (hr : PDA X Z N W es (dArgs fs)) (hs : starEach (e :: es) X.env = (false, eval e X.env) :: starEach es X.env := by rfl) : PDA X Z N W (e :: es) (dArgs (f :: fs)) := by
  refine pa_imp (pa_cons ha hr hs) fun σ H Q h => ?_
  obtain ⟨G, ca, env, c, rs, h⟩ := h
  refine ⟨G, ca, env, c, rs, ?_⟩
  simp only [dArgs] at h
  cases e : f env c with
  | st => rw [e] at h; exact h
  | er x c1 => rw [e] at h; exact h
  | ok x c1 =>
    rw [e] at h
    simp only [R.bind] at h
    intro G1 ca1 H1 vx s1 r1 w1
    refine ⟨G1, ca1, env, c1, r1, ?_⟩
    cases e2 : dArgs fs env c1 with
    | st => rw [e2] at h; exact h
    | er z c2 => rw [e2] at h; exact Bad.back h s1
    | ok ys c2 =>
      rw [e2] at h
      intro G2 ca2 H2 vs s2 r2 w2
      exact h G2 ca2 H2 (vx :: vs) (s1.trans s2) r2 (.cons (w1.step s2) w2)
theorem plain_wts {σ : L2.St} {env : Env} {G : Hp} {ca : Option Addr} : ∀ {vs : List V} {rvs : List RV}, WtRs Y G ca σ env vs rvs → rvs.all RV.plain = true → Wts Y G ca vs (rvs.map RV.d)
  | _, _, .nil, _ => .nil
  | _, rv :: _, .cons h r, e => by
    simp only [List.all_cons, Bool.and_eq_true] at e
    cases rv with
    | pl d => exact .cons h (plain_wts r e.2)
    | ow i xs => cases e.1
theorem dArgs_len : ∀ {fs : List DE} {env : Env} {c c' : C} {xs : List RV}, dArgs fs env c = .ok xs c' → xs.length = fs.length
  | [], _, _, _, _, h => by simp only [dArgs] at h; cases h; rfl
  | f :: fs, env, c, c', xs, h => by
    simp only [dArgs] at h
    cases e : f env c with
    | st => rw [e] at h; cases h
    | er x c1 => rw [e] at h; cases h
    | ok x c1 =>
      rw [e] at h
      simp only [R.bind] at h
      cases e2 : dArgs fs env c1 with
      | st => rw [e2] at h; cases h
      | er x c1 => rw [e2] at h; cases h
      | ok ys c2 =>
        rw [e2] at h
        cases h
        exact congrArg (· + 1) (dArgs_len e2)
theorem tda {N : En} {W : WX} {fs : List DE} {k : List RV → C → R RV} {σ : L2.St} {Q' : List V → Hp → Prop} {Post : Hp → Option Addr → Hp → Env → C → RV → C → Prop}
    {G : Hp} {ca : Option Addr} {env : Env} {c : C} (rs : RS Y N G ca σ H env c)
    (h : match (dArgs fs env c).bind k with
      | .ok rv c' => Post G ca H env c rv c'
      | .er x c' => Bad Y N W σ env x c' G ca H
      | .st => False)
    (hq : ∀ xs c1 G1 ca1 H1 vs, xs.length = fs.length → Stp G ca H G1 ca1 H1 → RS Y N G1 ca1 σ H1 env c1 → WtRs Y G1 ca1 σ env vs xs → (match k xs c1 with
      | .ok rv c' => Post G ca H env c rv c'
      | .er x c' => Bad Y N W σ env x c' G ca H
      | .st => False) → Q' vs H1) : tDA Y N W (dArgs fs) σ H Q' := by
  refine ⟨G, ca, env, c, rs, ?_⟩
  cases e : dArgs fs env c with
  | st => rw [e] at h; exact h
  | er x c1 => rw [e] at h; exact h
  | ok xs c1 =>
    rw [e] at h
    exact fun G1 ca1 H1 vs s1 r1 w1 => hq xs c1 G1 ca1 H1 vs (dArgs_len e) s1 r1 w1 h
theorem pd_tup {es : List Expr} {fs : List DE} {x1 pos} (h : PDA X Z N W es (dArgs fs)) (hl : fs.length ≤ 1000 := by exact Nat.le_of_ble_eq_true rfl) : PD X Z N W (.Tuple es x1 pos) (dTup fs) := by
  refine pe_imp (pe_tup h) fun σ H Q h => ?_
  obtain ⟨G, ca, env, c, rs, h⟩ := h
  refine tda (Post := fun G ca H env c rv c' => ∀ G' ca' H' v, Stp G ca H G' ca' H' → RS _ N G' ca' σ H' env c' → WtR _ G' ca' σ env v rv → Q v H') rs h fun xs c1 G1 ca1 H1 vs el s1 r1 w1 h => ?_
  refine ⟨Nat.le_of_lt (small1000 (by rw [Paired.length w1, el]; exact hl)), fun p hp => ?_⟩
  by_cases e2 : xs.all RV.plain = true
  · rw [if_pos e2] at h
    exact Done.tup (c := c1) (fun G3 H3 v s3 r3 w3 => h G3 ca1 H3 v (s1.trans s3) (r1.step s3 r3) w3) r1.r0 (plain_wts w1 e2) (by rw [List.length_map, el]; exact Nat.le_trans hl (by decide)) hp
  · rw [if_neg e2] at h; exact h.elim
theorem pdo_lst {es : List Expr} {fs : List DE} {pos} (h : PDA X Z N W es (dArgs fs)) (hl : fs.length ≤ 1000 := by exact Nat.le_of_ble_eq_true rfl) : PDO X Z N W (.List es pos) (dLst fs) := by
  refine pe_imp (pe_lst h) fun σ H Q h => ?_
  obtain ⟨G, ca, env, c, rs, h⟩ := h
  refine tda (Post := fun G ca H env c rv c' => ∃ ds, rv = .pl (.lst ds) ∧ ∀ G' ca' H' a vs, Stp G ca H G' ca' H' → RS _ N G' ca' σ H' env c' → NoO H a → H' a = some (.lst vs) → G' a = none → ca' ≠ some a → Wts _ G' ca' vs ds → ds.length ≤ sizeL → Q (.ref a) H') rs h fun xs c1 G1 ca1 H1 vs el s1 r1 w1 h => ?_
  refine ⟨Nat.le_of_lt (small1000 (by rw [Paired.length w1, el]; exact hl)), fun p hp => ?_⟩
  by_cases e2 : xs.all RV.plain = true
  · rw [if_pos e2] at h
    obtain ⟨ds, e3, h⟩ := h
    cases e3
    exact h G1 ca1 _ p vs (s1.trans (.new hp)) (r1.step (.new hp) (r1.r0.new hp)) (s1.dm p (.of hp)) upd_same (r1.r0.free hp) (r1.r0.ncup hp) (plain_wts w1 e2) (by rw [List.length_map, el]; exact Nat.le_trans hl (by decide))
  · rw [if_neg e2] at h; exact h.elim
/-- a built-in called, by its values -/
abbrev WtSs (Y : Yp) (G H : Hp) (ca : Option Addr) : List V → List D → Prop := Paired (WtS Y G H ca)
theorem WtRs.reads {N : En} {σ : L2.St} {env : Env} {G H : Hp} {ca : Option Addr} {c : C} (r : RS Y N G ca σ H env c) : ∀ {vs : List V} {rvs : List RV}, WtRs Y G ca σ env vs rvs → WtSs Y G H ca vs (rvs.map RV.d)
  | _, _, .nil => .nil
  | _, _, .cons h t => .cons (WtR.read r h) (WtRs.reads r t)
def CallD (X : Cx) (Z : Zp) (f : Value) (g : List D → Option D) : Prop := ∃ r, CallR X f r ∧
  ∀ (G : Hp) (ca : Option Addr) (H : Hp) (c : C) (xs : List V) (ds : List D) (d : D) (Q : VK), RS0 (yOf X Z) G ca H c → WtSs (yOf X Z) G H ca xs ds → g ds = some d → Done (yOf X Z) G ca H c d Q → r xs H Q
def CallDO (X : Cx) (Z : Zp) (f : Value) (g : List D → Option D) : Prop := ∃ r, CallR X f r ∧
  ∀ (G : Hp) (ca : Option Addr) (H : Hp) (c : C) (xs : List V) (ds : List D) (d : D) (Q : VK), RS0 (yOf X Z) G ca H c → WtSs (yOf X Z) G H ca xs ds → g ds = some d → ∃ es, d = .lst es ∧ (DoneO (yOf X Z) G ca H c es Q → r xs H Q)
theorem calld_or {f : Value} {g g' : List D → Option D} (h : CallD X Z f g) (h' : CallD X Z f g') : CallD X Z f (fun x => (g x).or (g' x)) := by
  obtain ⟨r, h1, h2⟩ := h
  obtain ⟨r', h1', h2'⟩ := h'
  refine ⟨_, h1.or h1', fun G ca H c x dx d Q rs w e k => ?_⟩
  dsimp only at e
  cases e1 : g dx with
  | some d' => rw [e1] at e; cases e; exact .inl (h2 _ _ _ _ _ _ _ _ rs w e1 k)
  | none => rw [e1] at e; exact .inr (h2' _ _ _ _ _ _ _ _ rs w e k)
theorem calld_imp {f : Value} {g g' : List D → Option D} (h : CallD X Z f g) (i : ∀ x d, g' x = some d → g x = some d) : CallD X Z f g' := by
  obtain ⟨r, h1, h2⟩ := h
  exact ⟨r, h1, fun G ca H c x dx d Q rs w e k => h2 _ _ _ _ _ _ _ _ rs w (i _ _ e) k⟩
theorem calldo {f : Value} {g : List D → Option D} (h : CallDO X Z f g) : CallD X Z f g := by
  obtain ⟨r, h1, h2⟩ := h
  refine ⟨r, h1, fun G ca H c x dx d Q rs w e k => ?_⟩
  obtain ⟨es, rfl, h3⟩ := h2 _ _ _ _ _ _ _ Q rs w e
  exact h3 (k.o rs)
theorem tdb {N : En} {W : WX} {fs : List DE} {r : List V → Hp → VK → Prop} {g : List D → Option D} {σ : L2.St} (hr : ∀ (G : Hp) (ca : Option Addr) (H : Hp) (c : C) (xs : List V) (ds : List D) (d : D) (Q : VK), RS0 Y G ca H c → WtSs Y G H ca xs ds → g ds = some d → Done Y G ca H c d Q → r xs H Q)
    (h : tD Y N W (dB g fs) σ H Q) : tDA Y N W (dArgs fs) σ H fun vs H1 => r vs H1 Q := by
  obtain ⟨G, ca, env, c, rs, h⟩ := h
  refine tda (Post := fun G ca H env c rv c' => ∀ G' ca' H' v, Stp G ca H G' ca' H' → RS Y N G' ca' σ H' env c' → WtR Y G' ca' σ env v rv → Q v H') rs h fun xs c1 G1 ca1 H1 vs el s1 r1 w1 h => ?_
  cases e3 : g (xs.map RV.d) with
  | none => rw [e3] at h; exact h.elim
  | some d =>
    rw [e3] at h
    exact hr G1 ca1 H1 c1 vs _ d Q r1.r0 (WtRs.reads r1 w1) e3 fun G3 H3 v s3 r3 w3 => h G3 ca1 H3 v (s1.trans s3) (r1.step s3 r3) w3
theorem tdbo {N : En} {W : WX} {fs : List DE} {r : List V → Hp → VK → Prop} {g : List D → Option D} {σ : L2.St} (hr : ∀ (G : Hp) (ca : Option Addr) (H : Hp) (c : C) (xs : List V) (ds : List D) (d : D) (Q : VK), RS0 Y G ca H c → WtSs Y G H ca xs ds → g ds = some d → ∃ es, d = .lst es ∧ (DoneO Y G ca H c es Q → r xs H Q))
    (h : tDO Y N W (dB g fs) σ H Q) : tDA Y N W (dArgs fs) σ H fun vs H1 => r vs H1 Q := by
  obtain ⟨G, ca, env, c, rs, h⟩ := h
  refine tda (Post := fun G ca H env c rv c' => ∃ ds, rv = .pl (.lst ds) ∧ ∀ G' ca' H' a vs, Stp G ca H G' ca' H' → RS Y N G' ca' σ H' env c' → NoO H a → H' a = some (.lst vs) → G' a = none → ca' ≠ some a → Wts Y G' ca' vs ds → ds.length ≤ sizeL → Q (.ref a) H') rs h fun xs c1 G1 ca1 H1 vs el s1 r1 w1 h => ?_
  cases e3 : g (xs.map RV.d) with
  | none => rw [e3] at h; exact h.elim
  | some d =>
    rw [e3] at h
    obtain ⟨es, e5, hr2⟩ := hr G1 ca1 H1 c1 vs _ d Q r1.r0 (WtRs.reads r1 w1) e3
    obtain ⟨ds, e4, h⟩ := h
    cases e4
    cases e5
    exact hr2 fun H3 a us s3 r3 hn ha w3 hl => h G1 ca1 H3 a us (s1.trans s3) (r1.step s3 r3) (s1.dm _ (.of hn)) ha (r1.r0.free hn) (r1.r0.ncup hn) w3 hl
theorem pd_callB {x : Str} {id : String} {e : Expr} {es : List Expr} {fs : List DE} {g : List D → Option D} {p pos : Pos} (hc : CallD X Z (.builtin id) g) (hg : Gl X x) (hm : X.mg x = none) (hv : bootBuiltins x = some (.builtin id)) (hn : x ≠ "__name__") (hdb : (x == ("__debug__" : Str)) = false)
    (ha : PDA X Z N W (e :: es) (dArgs fs)) (he : starEach (e :: es) X.env = (false, eval e X.env) :: starEach es X.env := by rfl) (hpl : (backTo pos (starEach es X.env)).any (·.1) = false := by rfl) : PD X Z N W (.Call (.Name x p) (e :: es) [] pos) (dB g fs) := by
  obtain ⟨r, h1, h2⟩ := hc
  exact pe_imp (pe_callB h1 hg hm hv ha hn hdb he hpl) fun σ H Q h => tdb h2 h
theorem pd_callTy {x : Str} {T : String} {e : Expr} {es : List Expr} {fs : List DE} {g : List D → Option D} {p pos : Pos} (hc : CallD X Z (.type T) g) (hg : Gl X x) (hm : X.mg x = none) (hv : bootBuiltins x = some (.type T)) (hn : x ≠ "__name__") (hdb : (x == ("__debug__" : Str)) = false)
    (ha : PDA X Z N W (e :: es) (dArgs fs)) (he : starEach (e :: es) X.env = (false, eval e X.env) :: starEach es X.env := by rfl) (hpl : (backTo pos (starEach es X.env)).any (·.1) = false := by rfl) : PD X Z N W (.Call (.Name x p) (e :: es) [] pos) (dB g fs) := by
  obtain ⟨r, h1, h2⟩ := hc
  exact pe_imp (pe_callTy h1 hg hm hv ha hn hdb he hpl) fun σ H Q h => tdb h2 h
theorem pdo_callTy {x : Str} {T : String} {e : Expr} {es : List Expr} {fs : List DE} {g : List D → Option D} {p pos : Pos} (hc : CallDO X Z (.type T) g) (hg : Gl X x) (hm : X.mg x = none) (hv : bootBuiltins x = some (.type T)) (hn : x ≠ "__name__") (hdb : (x == ("__debug__" : Str)) = false)
    (ha : PDA X Z N W (e :: es) (dArgs fs)) (he : starEach (e :: es) X.env = (false, eval e X.env) :: starEach es X.env := by rfl) (hpl : (backTo pos (starEach es X.env)).any (·.1) = false := by rfl) : PDO X Z N W (.Call (.Name x p) (e :: es) [] pos) (dB g fs) := by
  obtain ⟨r, h1, h2⟩ := hc
  exact pe_imp (pe_callTy h1 hg hm hv ha hn hdb he hpl) fun σ H Q h => tdbo h2 h
theorem pdo_callB {x : Str} {id : String} {e : Expr} {es : List Expr} {fs : List DE} {g : List D → Option D} {p pos : Pos} (hc : CallDO X Z (.builtin id) g) (hg : Gl X x) (hm : X.mg x = none) (hv : bootBuiltins x = some (.builtin id)) (hn : x ≠ "__name__") (hdb : (x == ("__debug__" : Str)) = false)
    (ha : PDA X Z N W (e :: es) (dArgs fs)) (he : starEach (e :: es) X.env = (false, eval e X.env) :: starEach es X.env := by rfl) (hpl : (backTo pos (starEach es X.env)).any (·.1) = false := by rfl) : PDO X Z N W (.Call (.Name x p) (e :: es) [] pos) (dB g fs) := by
  obtain ⟨r, h1, h2⟩ := hc
  exact pe_imp (pe_callB h1 hg hm hv ha hn hdb he hpl) fun σ H Q h => tdbo h2 h

/-! ### and, or, if .. else, chains -/
theorem pd_one {op : BoolOp} {a : Expr} {fa : DE} {pos : Pos} (ha : PD X Z N W a fa) : PD X Z N W (.BoolOp op [a] pos) fa := pe_one ha
theorem td_bl {σ : L2.St} {env : Env} {G H : Hp} {ca : Option Addr} {v : V} {rv : RV} {b : Bool} (w : WtR Y G ca σ env v rv) (e : rv.d = .bl b) : v = .bl b := by
  cases rv with
  | pl d =>
    have e : d = .bl b := e
    subst e
    cases w
    rfl
  | ow i xs => cases e
theorem pd_and {a b : Expr} {rest : List Expr} {fa fb : DE} {pos : Pos} (ha : PD X Z N W a fa) (hb : PD X Z N W (.BoolOp .And (b :: rest) pos) fb) : PD X Z N W (.BoolOp .And (a :: b :: rest) pos) (dAnd fa fb) := by
  refine pe_imp (pe_and ha hb) fun σ H Q h => ?_
  obtain ⟨G, ca, env, c, rs, h⟩ := h
  refine ⟨G, ca, env, c, rs, ?_⟩
  simp only [dAnd] at h
  cases e : fa env c with
  | st => rw [e] at h; exact h
  | er x c1 => rw [e] at h; exact h
  | ok x c1 =>
    rw [e] at h
    simp only [R.bind] at h
    intro G1 ca1 H1 vx s1 r1 w1
    cases e3 : x.d with
    | bl k =>
      refine ⟨k, td_bl (H := H1) w1 e3, ?_⟩
      rw [e3] at h
      cases k with
      | false =>
        refine iteF ?_
        exact h _ _ _ _ s1 r1 (.bl false)
      | true =>
        refine iteT ?_
        refine ⟨G1, ca1, env, c1, r1, ?_⟩
        dsimp only at h
        cases e2 : fb env c1 with
        | st => rw [e2] at h; exact h
        | er z c2 => rw [e2] at h; exact Bad.back h s1
        | ok y c2 => rw [e2] at h; exact fun G2 ca2 H2 v s2 r2 w2 => h G2 ca2 H2 v (s1.trans s2) r2 w2
    | _ => rw [e3] at h; exact h.elim
theorem pd_or {a b : Expr} {rest : List Expr} {fa fb : DE} {pos : Pos} (ha : PD X Z N W a fa) (hb : PD X Z N W (.BoolOp .Or (b :: rest) pos) fb) : PD X Z N W (.BoolOp .Or (a :: b :: rest) pos) (dOr fa fb) := by
  refine pe_imp (pe_or ha hb) fun σ H Q h => ?_
  obtain ⟨G, ca, env, c, rs, h⟩ := h
  refine ⟨G, ca, env, c, rs, ?_⟩
  simp only [dOr] at h
  cases e : fa env c with
  | st => rw [e] at h; exact h
  | er x c1 => rw [e] at h; exact h
  | ok x c1 =>
    rw [e] at h
    simp only [R.bind] at h
    intro G1 ca1 H1 vx s1 r1 w1
    cases e3 : x.d with
    | bl k =>
      refine ⟨k, td_bl (H := H1) w1 e3, ?_⟩
      rw [e3] at h
      cases k with
      | true =>
        refine iteT ?_
        exact h _ _ _ _ s1 r1 (.bl true)
      | false =>
        refine iteF ?_
        refine ⟨G1, ca1, env, c1, r1, ?_⟩
        dsimp only at h
        cases e2 : fb env c1 with
        | st => rw [e2] at h; exact h
        | er z c2 => rw [e2] at h; exact Bad.back h s1
        | ok y c2 => rw [e2] at h; exact fun G2 ca2 H2 v s2 r2 w2 => h G2 ca2 H2 v (s1.trans s2) r2 w2
    | _ => rw [e3] at h; exact h.elim
theorem pd_if {t a b : Expr} {ft : DT} {fa fb : DE} {pos : Pos} (ht : PDT X Z N W t ft) (ha : PD X Z N W a fa) (hb : PD X Z N W b fb) : PD X Z N W (.IfExp t a b pos) (dIf ft fa fb) := by
  refine pe_imp (pe_ifExp ht ha hb) fun σ H Q h => ?_
  obtain ⟨G, ca, env, c, rs, h⟩ := h
  refine ⟨G, ca, env, c, rs, ?_⟩
  simp only [dIf] at h
  cases e : ft env c with
  | st => rw [e] at h; exact h
  | er x c1 => rw [e] at h; exact h
  | ok k c1 =>
    rw [e] at h
    simp only [R.bind] at h
    intro G1 ca1 H1 s1 r1
    cases k with
    | true =>
      rw [if_pos rfl] at h
      refine iteT ⟨G1, ca1, env, c1, r1, ?_⟩
      cases e2 : fa env c1 with
      | st => rw [e2] at h; exact h
      | er z c2 => rw [e2] at h; exact Bad.back h s1
      | ok y c2 => rw [e2] at h; exact fun G2 ca2 H2 v s2 r2 w2 => h G2 ca2 H2 v (s1.trans s2) r2 w2
    | false =>
      rw [if_neg Bool.false_ne_true] at h
      refine iteF ⟨G1, ca1, env, c1, r1, ?_⟩
      cases e2 : fb env c1 with
      | st => rw [e2] at h; exact h
      | er z c2 => rw [e2] at h; exact Bad.back h s1
      | ok y c2 => rw [e2] at h; exact fun G2 ca2 H2 v s2 r2 w2 => h G2 ca2 H2 v (s1.trans s2) r2 w2
/-! ### tests -/
theorem sizeL_eq : sizeL = sizeLine := rfl
theorem pdt_e {a : Expr} {fa : DE} (ha : PD X Z N W a fa) (he : ∀ whole, isTrue a X.env whole = (do let v ← whole; standAt a.pos; holding [v] (truthy v)) := by intro _; rfl) : PDT X Z N W a (tE fa) := by
  refine pt_imp (pt_truth ha he) fun σ H Q h => ?_
  obtain ⟨G, ca, env, c, rs, h⟩ := h
  refine ⟨G, ca, env, c, rs, ?_⟩
  simp only [tE] at h
  cases e : fa env c with
  | st => rw [e] at h; exact h
  | er x c1 => rw [e] at h; exact h
  | ok x c1 =>
    rw [e] at h
    simp only [R.bind] at h
    intro G1 ca1 H1 vx s1 r1 w1
    have w := w1.read r1
    cases e3 : x.d with
    | bl k =>
      rw [e3] at h w
      cases w.atom (fun _ e => by cases e)
      exact ⟨k, rfl, h _ _ _ s1 r1⟩
    | non =>
      rw [e3] at h w
      cases w.atom (fun _ e => by cases e)
      exact ⟨false, rfl, h _ _ _ s1 r1⟩
    | int i =>
      rw [e3] at h w
      cases w.atom (fun _ e => by cases e)
      exact ⟨_, rfl, h _ _ _ s1 r1⟩
    | str z =>
      rw [e3] at h w
      cases w.atom (fun _ e => by cases e)
      simp only [D.truth] at h
      by_cases hz : z.length ≤ sizeL
      · rw [if_pos hz] at h
        exact ⟨_, ⟨hz, rfl⟩, h _ _ _ s1 r1⟩
      · rw [if_neg hz] at h
        exact h.elim
    | tup xs =>
      rw [e3] at h w
      obtain ⟨a, vs, rfl, hs, ws, _⟩ := w.tup r1.r0
      have e4 : vs.isEmpty = xs.isEmpty := by
        have := ws.length
        cases vs <;> cases xs <;> first | rfl | cases this
      exact ⟨_, .inr (.inl ⟨vs, hs, by rw [e4]⟩), h _ _ _ s1 r1⟩
    | lst xs =>
      rw [e3] at h w
      obtain ⟨a, vs, rfl, hs, ws, _⟩ := w.lst r1.r0
      have e4 : vs.isEmpty = xs.isEmpty := by
        have := ws.length
        cases vs <;> cases xs <;> first | rfl | cases this
      exact ⟨_, .inl ⟨vs, sql hs, by rw [e4]⟩, h _ _ _ s1 r1⟩
    | _ => rw [e3] at h; exact h.elim
theorem pdt_not {a : Expr} {t : DT} {pos : Pos} (ha : PDT X Z N W a t) : PDT X Z N W (.UnaryOp .Not a pos) (tNot t) := by
  refine pt_imp (pt_not ha) fun σ H Q h => ?_
  obtain ⟨G, ca, env, c, rs, h⟩ := h
  refine ⟨G, ca, env, c, rs, ?_⟩
  simp only [DL.tNot] at h
  cases e : t env c with
  | st => rw [e] at h; exact h
  | er x c1 => rw [e] at h; exact h
  | ok x c1 => rw [e] at h; exact h
abbrev PDW (X : Cx) (Z : Zp) (N : En) (W : WX) (e : Expr) (f : DT) : Prop := PW X e (tDT (yOf X Z) N W f)
theorem pdw_and1 {a : Expr} {t : DT} {pos : Pos} (ha : PDT X Z N W a t) : PDW X Z N W (.BoolOp .And [a] pos) t := pw_and1 ha
theorem pdw_or1 {a : Expr} {t : DT} {pos : Pos} (ha : PDT X Z N W a t) : PDW X Z N W (.BoolOp .Or [a] pos) t := pw_or1 ha
theorem tdt_and {N : En} {W : WX} {σ : L2.St} {H : Hp} {Q : Bool → Hp → Prop} {t u : DT} (h : tDT Y N W (tAnd t u) σ H Q) : L2.tAnd (tDT Y N W t) (tDT Y N W u) σ H Q := by
  obtain ⟨G, ca, env, c, rs, h⟩ := h
  refine ⟨G, ca, env, c, rs, ?_⟩
  simp only [tAnd] at h
  cases e : t env c with
  | st => rw [e] at h; exact h
  | er x c1 => rw [e] at h; exact h
  | ok k c1 =>
    rw [e] at h
    simp only [R.bind] at h
    intro G1 ca1 H1 s1 r1
    cases k with
    | false => exact iteF (h _ _ _ s1 r1)
    | true =>
      rw [if_pos rfl] at h
      refine iteT ⟨G1, ca1, env, c1, r1, ?_⟩
      cases e2 : u env c1 with
      | st => rw [e2] at h; exact h
      | er z c2 => rw [e2] at h; exact Bad.back h s1
      | ok y c2 => rw [e2] at h; exact fun G2 ca2 H2 s2 r2 => h G2 ca2 H2 (s1.trans s2) r2
theorem tdt_or {N : En} {W : WX} {σ : L2.St} {H : Hp} {Q : Bool → Hp → Prop} {t u : DT} (h : tDT Y N W (tOr t u) σ H Q) : L2.tOr (tDT Y N W t) (tDT Y N W u) σ H Q := by
  obtain ⟨G, ca, env, c, rs, h⟩ := h
  refine ⟨G, ca, env, c, rs, ?_⟩
  simp only [tOr] at h
  cases e : t env c with
  | st => rw [e] at h; exact h
  | er x c1 => rw [e] at h; exact h
  | ok k c1 =>
    rw [e] at h
    simp only [R.bind] at h
    intro G1 ca1 H1 s1 r1
    cases k with
    | true => exact iteT (h _ _ _ s1 r1)
    | false =>
      rw [if_neg Bool.false_ne_true] at h
      refine iteF ⟨G1, ca1, env, c1, r1, ?_⟩
      cases e2 : u env c1 with
      | st => rw [e2] at h; exact h
      | er z c2 => rw [e2] at h; exact Bad.back h s1
      | ok y c2 => rw [e2] at h; exact fun G2 ca2 H2 s2 r2 => h G2 ca2 H2 (s1.trans s2) r2
theorem pdw_and {a b : Expr} {rest : List Expr} {t u : DT} {pos : Pos} (ha : PDT X Z N W a t) (hb : PDW X Z N W (.BoolOp .And (b :: rest) pos) u) : PDW X Z N W (.BoolOp .And (a :: b :: rest) pos) (tAnd t u) :=
  pw_imp (pw_and ha hb) fun _ _ _ h => tdt_and h
theorem pdw_or {a b : Expr} {rest : List Expr} {t u : DT} {pos : Pos} (ha : PDT X Z N W a t) (hb : PDW X Z N W (.BoolOp .Or (b :: rest) pos) u) : PDW X Z N W (.BoolOp .Or (a :: b :: rest) pos) (tOr t u) :=
  pw_imp (pw_or ha hb) fun _ _ _ h => tdt_or h
theorem pdw_pt {e : Expr} {t : DT} (h : PDW X Z N W e t) : PDT X Z N W e t := PW.pt h

/-! ### a chain of two comparisons -/
theorem pd_chain {op op' : CmpOp} {a b c : Expr} {g g' : D → D → Option D} {fa fb fc : DE} {pos : Pos} (ho : OpD X Z (compareOp op) g) (ho' : OpD X Z (compareOp op') g') (ha : PD X Z N W a fa) (hb : PD X Z N W b fb) (hc : PD X Z N W c fc)
    (hm : lastMarks [op, op'] [b, c] = false := by with_unfolding_all rfl) : PD X Z N W (.Compare a [op, op'] [b, c] pos) (dChain g g' fa fb fc) := by
  obtain ⟨r, h1, h2⟩ := ho
  obtain ⟨r', h1', h2'⟩ := ho'
  refine pe_imp (pe_chain h1 h1' ha hb hc hm) fun σ H Q h => ?_
  obtain ⟨G, ca, env, c, rs, h⟩ := h
  refine ⟨G, ca, env, c, rs, ?_⟩
  simp only [dChain] at h
  cases e : fa env c with
  | st => rw [e] at h; exact h
  | er x c1 => rw [e] at h; exact h
  | ok x c1 =>
    rw [e] at h
    simp only [R.bind] at h
    intro G1 ca1 H1 vx s1 r1 w1
    refine ⟨G1, ca1, env, c1, r1, ?_⟩
    cases e2 : fb env c1 with
    | st => rw [e2] at h; exact h
    | er z c2 => rw [e2] at h; exact Bad.back h s1
    | ok y c2 =>
      rw [e2] at h
      dsimp only at h
      intro G2 ca2 H2 vy s2 r2 w2
      have s12 := s1.trans s2
      cases e3 : g x.d y.d with
      | none => rw [e3] at h; exact h.elim
      | some d =>
        rw [e3] at h
        refine h2 G2 ca2 H2 c2 vx vy x.d y.d d _ r2.r0 ((w1.step s2).read r2) (w2.read r2) e3 fun G3 H3 v s3 r3 w3 => ?_
        have rs3 := r2.step s3 r3
        have s123 := s12.trans s3
        cases d with
        | bl k =>
          cases w3
          refine ⟨k, rfl, ?_⟩
          cases k with
          | false => exact iteF (h G3 ca2 H3 _ s123 rs3 (.bl false))
          | true =>
            refine iteT ⟨G3, ca2, env, c2, rs3, ?_⟩
            dsimp only at h
            cases e4 : fc env c2 with
            | st => rw [e4] at h; exact h
            | er z c2 => rw [e4] at h; exact Bad.back h s123
            | ok z c4 =>
              rw [e4] at h
              dsimp only at h
              intro G4 ca4 H4 vz s4 r4 w4
              cases e5 : g' y.d z.d with
              | none => rw [e5] at h; exact h.elim
              | some d =>
                rw [e5] at h
                exact h2' G4 ca4 H4 c4 vy vz y.d z.d d _ r4.r0 (((w2.step s3).step s4).read r4) (w4.read r4) e5 fun G5 H5 v s5 r5 w5 => h G5 ca4 H5 v ((s123.trans s4).trans s5) (r4.step s5 r5) w5
        | _ => exact h.elim

/-! ### a subscript, a slice -/
def IxD (X : Cx) (Z : Zp) (g : D → D → Option D) : Prop := ∃ r : R2, IxR X r ∧
  ∀ (G : Hp) (ca : Option Addr) (H : Hp) (c : C) (x y : V) (dx dy d : D) (Q : VK), RS0 (yOf X Z) G ca H c → WtS (yOf X Z) G H ca x dx → WtS (yOf X Z) G H ca y dy → g dx dy = some d → Done (yOf X Z) G ca H c d Q → r x y H Q
theorem pd_ix {a b : Expr} {fa fb : DE} {g : D → D → Option D} {pos : Pos} (ho : IxD X Z g) (ha : PD X Z N W a fa) (hb : PD X Z N W b fb) (hs : PlainIx b := by exact fun _ _ => rfl) : PD X Z N W (.Subscript a b pos) (dO2 g fa fb) := by
  obtain ⟨r, h1, h2⟩ := ho
  exact pe_imp (pe_ix h1 ha hb hs) fun σ H Q h => td2 h2 h
def tDP (Y : Yp) (N : En) (W : WX) (f : DL.Env → C → R (Option Int)) : TO := fun σ H Q => ∃ G ca env c, RS Y N G ca σ H env c ∧ (match f env c with
  | .ok o c' => ∀ G' ca' H', Stp G ca H G' ca' H' → RS Y N G' ca' σ H' env c' → Q o H'
  | .er x c' => Bad Y N W σ env x c' G ca H
  | .st => False)
theorem po_imp {e : Option Expr} {t t' : TO} (h : PO X e t) (i : ∀ σ H Q, t' σ H Q → t σ H Q) : PO X e t' := ⟨fun pins s σ H Q I q => h.run pins s σ H Q I (i _ _ _ q)⟩
abbrev PDP (X : Cx) (Z : Zp) (N : En) (W : WX) (e : Option Expr) (f : Option DE) : Prop := PO X e (tDP (yOf X Z) N W (dPart f))
theorem pdp_none : PDP X Z N W none none := po_imp po_none fun σ H Q ⟨G, ca, env, c, rs, h⟩ => h _ _ _ .refl rs
theorem pdp_some {e : Expr} {f : DE} (h : PD X Z N W e f) : PDP X Z N W (some e) (some f) := by
  refine po_imp (po_some h) fun σ H Q h => ?_
  obtain ⟨G, ca, env, c, rs, h⟩ := h
  refine ⟨G, ca, env, c, rs, ?_⟩
  simp only [dPart] at h
  cases e : f env c with
  | st => rw [e] at h; exact h
  | er x c1 => rw [e] at h; exact h
  | ok x c1 =>
    rw [e] at h
    simp only [R.bind] at h
    intro G1 ca1 H1 vx s1 r1 w1
    have w := w1.read r1
    cases e3 : x.d with
    | int i =>
      rw [e3] at h w
      cases w.atom (fun _ e => by cases e)
      exact ⟨i, rfl, h _ _ _ s1 r1⟩
    | _ => rw [e3] at h; exact h.elim
def SlD (X : Cx) (Z : Zp) (g : D → Option Int → Option Int → Option D) : Prop := ∃ r, L2.SlR X r ∧
  ∀ (G : Hp) (ca : Option Addr) (H : Hp) (c : C) (x : V) (dx d : D) (lo hi : Option Int) (Q : VK), RS0 (yOf X Z) G ca H c → WtS (yOf X Z) G H ca x dx → g dx lo hi = some d → Done (yOf X Z) G ca H c d Q → r x lo hi H Q
def SlDO (X : Cx) (Z : Zp) (g : D → Option Int → Option Int → Option D) : Prop := ∃ r, L2.SlR X r ∧
  ∀ (G : Hp) (ca : Option Addr) (H : Hp) (c : C) (x : V) (dx d : D) (lo hi : Option Int) (Q : VK), RS0 (yOf X Z) G ca H c → WtS (yOf X Z) G H ca x dx → g dx lo hi = some d → ∃ es, d = .lst es ∧ (DoneO (yOf X Z) G ca H c es Q → r x lo hi H Q)
theorem sldo {g : D → Option Int → Option Int → Option D} (h : SlDO X Z g) : SlD X Z g := by
  obtain ⟨r, h1, h2⟩ := h
  refine ⟨r, h1, fun G ca H c x dx d lo hi Q rs w e k => ?_⟩
  obtain ⟨es, rfl, h3⟩ := h2 _ _ _ _ _ _ _ _ _ Q rs w e
  exact h3 (k.o rs)
theorem tdsl {N : En} {W : WX} {f : DE} {lo hi : Option DE} {k : RV → Option Int → Option Int → C → R RV} {σ : L2.St} {r : V → Option Int → Option Int → Hp → VK → Prop} {Q : VK} {Post : Hp → Option Addr → Hp → DL.Env → C → RV → C → Prop}
    {G : Hp} {ca : Option Addr} {H : Hp} {env : DL.Env} {c : C} (rs : RS Y N G ca σ H env c)
    (h : match ((f env c).bind fun x c => (dPart lo env c).bind fun a c => (dPart hi env c).bind fun b c => k x a b c) with
      | .ok rv c' => Post G ca H env c rv c'
      | .er x c' => Bad Y N W σ env x c' G ca H
      | .st => False)
    (hq : ∀ x a b c1 G1 ca1 H1 v, Stp G ca H G1 ca1 H1 → RS Y N G1 ca1 σ H1 env c1 → WtR Y G1 ca1 σ env v x → (match k x a b c1 with
      | .ok rv c' => Post G ca H env c rv c'
      | .er x c' => Bad Y N W σ env x c' G ca H
      | .st => False) → r v a b H1 Q) : L2.tSl r (tD Y N W f) (tDP Y N W (dPart lo)) (tDP Y N W (dPart hi)) σ H Q := by
  refine ⟨G, ca, env, c, rs, ?_⟩
  cases e : f env c with
  | st => rw [e] at h; exact h
  | er x c1 => rw [e] at h; exact h
  | ok x c1 =>
    rw [e] at h
    simp only [R.bind] at h
    intro G1 ca1 H1 vx s1 r1 w1
    refine ⟨G1, ca1, env, c1, r1, ?_⟩
    cases e2 : dPart lo env c1 with
    | st => rw [e2] at h; exact h
    | er z c2 => rw [e2] at h; exact Bad.back h s1
    | ok a c2 =>
      rw [e2] at h
      dsimp only at h
      intro G2 ca2 H2 s2 r2
      refine ⟨G2, ca2, env, c2, r2, ?_⟩
      have s12 := s1.trans s2
      cases e3 : dPart hi env c2 with
      | st => rw [e3] at h; exact h
      | er z c2 => rw [e3] at h; exact Bad.back h s12
      | ok b c3 =>
        rw [e3] at h
        dsimp only at h
        intro G3 ca3 H3 s3 r3
        exact hq x a b c3 G3 ca3 H3 vx (s12.trans s3) r3 ((w1.step s2).step s3) h
theorem pd_sl {e : Expr} {lo hi : Option Expr} {f : DE} {flo fhi : Option DE} {g : D → Option Int → Option Int → Option D} {p2 pos : Pos} (ho : SlD X Z g) (he : PD X Z N W e f) (hl : PDP X Z N W lo flo) (hh : PDP X Z N W hi fhi) : PD X Z N W (.Subscript e (.Slice lo hi none p2) pos) (dSl g f flo fhi) := by
  obtain ⟨r, h1, h2⟩ := ho
  refine pe_imp (pe_slice h1 he hl hh) fun σ H Q h => ?_
  obtain ⟨G, ca, env, c, rs, h⟩ := h
  refine tdsl (Post := fun G ca H env c rv c' => ∀ G' ca' H' v, Stp G ca H G' ca' H' → RS _ N G' ca' σ H' env c' → WtR _ G' ca' σ env v rv → Q v H') rs h fun x a b c1 G1 ca1 H1 v s1 r1 w1 h => ?_
  cases e3 : g x.d a b with
  | none => rw [e3] at h; exact h.elim
  | some d =>
    rw [e3] at h
    exact h2 G1 ca1 H1 c1 v x.d d a b Q r1.r0 (w1.read r1) e3 fun G3 H3 v s3 r3 w3 => h G3 ca1 H3 v (s1.trans s3) (r1.step s3 r3) w3
theorem pdo_sl {e : Expr} {lo hi : Option Expr} {f : DE} {flo fhi : Option DE} {g : D → Option Int → Option Int → Option D} {p2 pos : Pos} (ho : SlDO X Z g) (he : PD X Z N W e f) (hl : PDP X Z N W lo flo) (hh : PDP X Z N W hi fhi) : PDO X Z N W (.Subscript e (.Slice lo hi none p2) pos) (dSl g f flo fhi) := by
  obtain ⟨r, h1, h2⟩ := ho
  refine pe_imp (pe_slice h1 he hl hh) fun σ H Q h => ?_
  obtain ⟨G, ca, env, c, rs, h⟩ := h
  refine tdsl (Post := fun G ca H env c rv c' => ∃ ds, rv = .pl (.lst ds) ∧ ∀ G' ca' H' a vs, Stp G ca H G' ca' H' → RS _ N G' ca' σ H' env c' → NoO H a → H' a = some (.lst vs) → G' a = none → ca' ≠ some a → Wts _ G' ca' vs ds → ds.length ≤ sizeL → Q (.ref a) H') rs h fun x a b c1 G1 ca1 H1 v s1 r1 w1 h => ?_
  cases e3 : g x.d a b with
  | none => rw [e3] at h; exact h.elim
  | some d =>
    rw [e3] at h
    obtain ⟨es, e5, hr2⟩ := h2 G1 ca1 H1 c1 v x.d d a b Q r1.r0 (w1.read r1) e3
    obtain ⟨ds, e4, h⟩ := h
    cases e4
    cases e5
    exact hr2 fun H3 a us s3 r3 hn ha w3 hl => h G1 ca1 H3 a us (s1.trans s3) (r1.step s3 r3) (s1.dm _ (.of hn)) ha (r1.r0.free hn) (r1.r0.ncup hn) w3 hl
end
end DL

set_option Elab.async false
set_option linter.all false
set_option maxRecDepth 100000
set_option maxHeartbeats 4000000
set_option autoImplicit false
namespace DL
open PySem PySem.Spec PyProof.Rows L2
section
variable {X : Cx} {Z : Zp} {N : En} {W : WX} {Y : Yp}
/-! ### what is walked -/
def Aft (st : Bool) (G1 : Hp) (ca1 : Option Addr) (H1 G : Hp) (ca : Option Addr) (H : Hp) : Prop := if st = true then (Same G1 G ∧ ∀ a, ca1 = some a → ca = some a) else Stp G1 ca1 H1 G ca H
theorem Aft.le {st : Bool} {G1 H1 G H : Hp} {ca1 ca : Option Addr} (a : Aft st G1 ca1 H1 G ca H) : Same G1 G ∧ ∀ a, ca1 = some a → ca = some a := by
  cases st with
  | true => exact a
  | false =>
    have s : Stp G1 ca1 H1 G ca H := a
    exact ⟨s.le, s.cl⟩
/-- J gives the items -/
def ItD (Y : Yp) (st : Bool) (J : It) (items : List D) (G1 : Hp) (ca1 : Option Addr) (H1 : Hp) : Prop := items.length ≤ sizeL ∧ ∀ (i : Nat) (G : Hp) (ca : Option Addr) (H : Hp) (c : C), Aft st G1 ca1 H1 G ca H → RS0 Y G ca H c →
  (∀ d, items[i]? = some d → J.go i H ∧ ∀ x H', J.yld i H x H' → ∃ G', Stp G ca H G' ca H' ∧ RS0 Y G' ca H' c ∧ Wt Y G' ca x d) ∧ (items.length ≤ i → J.stop i H)
def tDI (Y : Yp) (N : En) (W : WX) (st : Bool) (f : DI) : TI := fun σ H R => ∃ G ca env c, RS Y N G ca σ H env c ∧ (f env c).post (fun items c' => ∀ G' ca' H' J, Stp G ca H G' ca' H' → RS Y N G' ca' σ H' env c' → ItD Y st J items G' ca' H' → R J H') (fun x c' => Bad Y N W σ env x c' G ca H)
abbrev PDI (X : Cx) (Z : Zp) (N : En) (W : WX) (st : Bool) (tg it : Expr) (f : DI) : Prop := PI X tg it (tDI (yOf X Z) N W st f)
theorem aft_lst {st : Bool} {G1 H1 : Hp} {ca1 : Option Addr} {σ : L2.St} {env : DL.Env} {c1 : C} {v : V} {rv : RV} {xs : List D} (rs : RS Y N G1 ca1 σ H1 env c1) (w : WtR Y G1 ca1 σ env v rv) (e : rv.d = .lst xs) (hp : rv.good st = true) :
    ∃ a vs, v = .ref a ∧ vs.length = xs.length ∧ xs.length ≤ sizeL ∧ ∀ G ca H c, Aft st G1 ca1 H1 G ca H → RS0 Y G ca H c → H a = some (.lst vs) ∧ Wts Y G ca vs xs := by
  cases rv with
  | pl d =>
    have e : d = .lst xs := e
    subst e
    cases w with
    | lst h w l => exact ⟨_, _, rfl, w.length, l, fun G ca H c A r => ⟨r.le _ _ (A.le.1 _ _ h), w.mono A.le.1 A.le.2⟩⟩
  | ow i ys =>
    cases e
    cases st with
    | true => cases hp
    | false =>
      obtain ⟨w1, w2⟩ := w
      obtain ⟨a, vs, h1, h2, h3, h4, h5, h6, h7⟩ := rs.own i xs w1
      rw [h1] at w2
      cases w2
      exact ⟨a, vs, rfl, h3.length, h7, fun G ca H c (A : Stp G1 ca1 H1 G ca H) r => ⟨A.fr a _ h2 notbl h5, h3.mono A.le A.cl⟩⟩
theorem aft_tup {st : Bool} {G1 H1 : Hp} {ca1 : Option Addr} {σ : L2.St} {env : DL.Env} {v : V} {rv : RV} {xs : List D} (w : WtR Y G1 ca1 σ env v rv) (e : rv.d = .tup xs) :
    ∃ a vs, v = .ref a ∧ vs.length = xs.length ∧ xs.length ≤ sizeL ∧ ∀ G ca H c, Aft st G1 ca1 H1 G ca H → RS0 Y G ca H c → SqT Y.K H a vs ∧ Wts Y G ca vs xs := by
  cases rv with
  | pl d =>
    have e : d = .tup xs := e
    subst e
    cases w with
    | tup h w l => exact ⟨_, _, rfl, w.length, l, fun G ca H c A r => ⟨sqT_mono r.le (sqT_mono A.le.1 h), w.mono A.le.1 A.le.2⟩⟩
  | ow i ys => cases e
theorem aft_refl {st : Bool} {G H : Hp} {ca : Option Addr} : Aft st G ca H G ca H := by
  cases st with
  | true => exact ⟨fun _ _ h => h, fun _ h => h⟩
  | false => exact Stp.refl
def iSeqQ (K : PySem.W.Frag) (tl : TE) : TI := fun σ H R => tl σ H fun x H1 => ∃ a, x = .ref a ∧ ((∃ xs, SqL K H1 a xs ∧ R (Itl K a) H1) ∨ ∃ xs, SqT K H1 a xs ∧ R (Itt K a) H1)
theorem pi_seq {tg l : Expr} {tl : TE} (hl : PE X l tl) : PI X tg l (iSeqQ X.K tl) := by
  refine ⟨fun pins s σ H R I h => ?_⟩
  refine thn (hl.run pins s σ H _ I h) fun v s1 ⟨x, H1, I1, r1, q1⟩ => ?_
  obtain ⟨a, e, q⟩ := q1
  subst e
  cases r1
  rcases q with ⟨xs, hq, q⟩ | ⟨xs, hq, q⟩
  · obtain ⟨its, rv, p, hz⟩ := I1.list hq
    refine wpAny_pyIter_list p.isList ?_
    refine ⟨s1.heap.objs.size, [s1.heap.objs.size], _, _, H1, rfl, I1.kept (t' := s1.toks) fun b o e => Heap.get?_push_of_some _ e, turn_list a _, ⟨_, Heap.get?_push_size _ rfl, rfl, rfl⟩, fun b hb => ?_, q⟩
    have e : b = s1.heap.objs.size := by simpa using hb
    subst e
    exact I1.fpOk (Nat.le_refl _) (I1.hok.fresh (Nat.le_refl _))
  · obtain ⟨its, rv, p, hz⟩ := I1.tuple hq
    refine wpAny_pyIter_tuple (show s1.heap.IsTuple a its.toArray from p) ?_
    refine ⟨s1.heap.objs.size, [s1.heap.objs.size], _, _, H1, rfl, I1.kept (t' := s1.toks) fun b o e => Heap.get?_push_of_some _ e, turn_tuple a _, ⟨_, Heap.get?_push_size _ rfl, rfl, rfl⟩, fun b hb => ?_, q⟩
    have e : b = s1.heap.objs.size := by simpa using hb
    subst e
    exact I1.fpOk (Nat.le_refl _) (I1.hok.fresh (Nat.le_refl _))
theorem pdi_seq {st : Bool} {tg l : Expr} {f : DE} (hl : PD X Z N W l f) : PDI X Z N W st tg l (iSeq st f) := by
  refine pi_imp (pi_seq hl) fun σ H R h => ?_
  obtain ⟨G, ca, env, c, rs, h⟩ := h
  refine ⟨G, ca, env, c, rs, ?_⟩
  simp only [iSeq] at h
  cases e : f env c with
  | st => rw [e] at h; exact h
  | er x c1 => rw [e] at h; exact h
  | ok x c1 =>
    rw [e] at h
    simp only [DL.R.bind] at h
    intro G1 ca1 H1 vx s1 r1 w1
    by_cases hg : x.good st = true
    · rw [if_pos hg] at h
      cases e3 : x.d with
      | tup xs =>
        rw [e3] at h
        obtain ⟨a, vs, rfl, hlen, hsz, k⟩ := aft_tup (st := st) (H1 := H1) w1 e3
        refine ⟨a, rfl, .inr ⟨vs, (k G1 ca1 H1 c1 aft_refl r1.r0).1, h G1 ca1 H1 _ s1 r1 ⟨by first | exact hsz | (rw [zip_len]; omega), fun i G ca H c A r => ?_⟩⟩⟩
        obtain ⟨k1, k2⟩ := k G ca H c A r
        refine ⟨fun d hd => ?_, fun hi => ⟨vs, k1, by rw [hlen]; exact hi⟩⟩
        obtain ⟨v, e1, w⟩ := k2.get hd
        refine ⟨⟨vs, v, k1, e1⟩, fun x H' hy => ?_⟩
        obtain ⟨rfl, hy⟩ := hy
        have e2 := hy vs k1
        rw [e1] at e2
        cases e2
        exact ⟨G, .refl, r, w⟩
      | lst xs =>
        rw [e3] at h
        obtain ⟨a, vs, rfl, hlen, hsz, k⟩ := aft_lst r1 w1 e3 hg
        refine ⟨a, rfl, .inl ⟨vs, sql (k G1 ca1 H1 c1 aft_refl r1.r0).1, h G1 ca1 H1 _ s1 r1 ⟨by first | exact hsz | (rw [zip_len]; omega), fun i G ca H c A r => ?_⟩⟩⟩
        obtain ⟨k1, k2⟩ := k G ca H c A r
        refine ⟨fun d hd => ?_, fun hi => ⟨vs, sql k1, by rw [hlen]; exact hi⟩⟩
        obtain ⟨v, e1, w⟩ := k2.get hd
        refine ⟨⟨vs, v, sql k1, e1⟩, fun x H' hy => ?_⟩
        obtain ⟨rfl, hy⟩ := hy
        have e2 := hy vs (sql k1)
        rw [e1] at e2
        cases e2
        exact ⟨G, .refl, r, w⟩
      | _ => rw [e3] at h; exact h.elim
    · rw [if_neg hg] at h
      exact h.elim
theorem rng_get : ∀ (n : Nat) (lo : Int) (i : Nat) (d : D), (rng lo n)[i]? = some d → i < n ∧ d = .int (lo + i)
  | 0, _, _, _, h => by simp [rng] at h
  | n + 1, lo, 0, d, h => by
    simp [rng] at h
    subst h
    exact ⟨Nat.succ_pos _, by simp⟩
  | n + 1, lo, i + 1, d, h => by
    simp only [rng, List.getElem?_cons_succ] at h
    obtain ⟨h1, h2⟩ := rng_get n (lo + 1) i d h
    refine ⟨Nat.succ_lt_succ h1, ?_⟩
    rw [h2]
    congr 1
    omega
theorem rng_len : ∀ (n : Nat) (lo : Int), (rng lo n).length = n
  | 0, _ => rfl
  | n + 1, lo => by simp only [rng, List.length_cons]; rw [rng_len n]
theorem it_rng {st : Bool} {G1 H1 : Hp} {ca1 : Option Addr} (lo : Int) (n : Nat) (hn : n ≤ sizeL) : ItD Y st (Itr lo n) (rng lo n) G1 ca1 H1 := ⟨by rw [rng_len]; exact hn, fun i G ca H c A r => by
  refine ⟨fun d hd => ?_, fun hi => by rw [rng_len] at hi; exact hi⟩
  obtain ⟨h1, rfl⟩ := rng_get _ _ _ _ hd
  refine ⟨h1, fun x H' hy => ?_⟩
  obtain ⟨rfl, rfl⟩ := hy
  exact ⟨G, .refl, r, .int _⟩⟩
theorem okR_of {i : Int} (h : okR i = true) : -(2 ^ 62) ≤ i ∧ i < 2 ^ 62 := by
  unfold okR rngLine at h
  rw [Bool.and_eq_true] at h
  exact ⟨of_decide_eq_true h.1, of_decide_eq_true h.2⟩
theorem Paired.two {α β : Type} {F : α → β → Prop} {xs : List α} {a b : β} (h : Paired F xs [a, b]) : ∃ x y, xs = [x, y] ∧ F x a ∧ F y b := by
  cases h with
  | cons h1 h2 =>
    cases h2 with
    | cons h2 h3 =>
      cases h3
      exact ⟨_, _, rfl, h1, h2⟩
theorem Paired.one {α β : Type} {F : α → β → Prop} {xs : List α} {a : β} (h : Paired F xs [a]) : ∃ x, xs = [x] ∧ F x a := by
  cases h with
  | cons h1 h2 =>
    cases h2
    exact ⟨_, rfl, h1⟩
/-- one argument -/
theorem tda1 {σ : L2.St} {G H : Hp} {ca : Option Addr} {env : DL.Env} {c : C} {f : DE} {α : Type} {k : RV → C → R α} {Q' : List V → Hp → Prop} {Post : α → C → Prop} (rs : RS Y N G ca σ H env c)
    (h : ((f env c).bind k).post Post fun x c' => Bad Y N W σ env x c' G ca H)
    (hq : ∀ x c1 G1 ca1 H1 v, Stp G ca H G1 ca1 H1 → RS Y N G1 ca1 σ H1 env c1 → WtR Y G1 ca1 σ env v x → (k x c1).post Post (fun x c' => Bad Y N W σ env x c' G ca H) → Q' [v] H1) : tDA Y N W (dArgs [f]) σ H Q' := by
  refine ⟨G, ca, env, c, rs, ?_⟩
  simp only [dArgs]
  cases e : f env c with
  | st => rw [e] at h; exact h
  | er x c1 => rw [e] at h; exact h
  | ok x c1 =>
    rw [e] at h
    intro G1 ca1 H1 vs s1 r1 w1
    obtain ⟨v, rfl, w⟩ := Paired.one w1
    exact hq x c1 G1 ca1 H1 v s1 r1 w h
theorem tda2 {σ : L2.St} {G H : Hp} {ca : Option Addr} {env : DL.Env} {c : C} {f g : DE} {α : Type} {k : RV → RV → C → R α} {Q' : List V → Hp → Prop} {Post : α → C → Prop} (rs : RS Y N G ca σ H env c)
    (h : ((f env c).bind fun x c => (g env c).bind fun y c => k x y c).post Post fun x c' => Bad Y N W σ env x c' G ca H)
    (hq : ∀ x y c1 G1 ca1 H1 v u, Stp G ca H G1 ca1 H1 → RS Y N G1 ca1 σ H1 env c1 → WtR Y G1 ca1 σ env v x → WtR Y G1 ca1 σ env u y → (k x y c1).post Post (fun x c' => Bad Y N W σ env x c' G ca H) → Q' [v, u] H1) : tDA Y N W (dArgs [f, g]) σ H Q' := by
  refine ⟨G, ca, env, c, rs, ?_⟩
  simp only [dArgs]
  cases e : f env c with
  | st => rw [e] at h; exact h
  | er x c1 => rw [e] at h; exact h
  | ok x c1 =>
    rw [e] at h
    simp only [DL.R.bind] at h ⊢
    cases e2 : g env c1 with
    | st => rw [e2] at h; exact h
    | er x c1 => rw [e2] at h; exact h
    | ok y c2 =>
      rw [e2] at h
      intro G1 ca1 H1 vs s1 r1 w1
      obtain ⟨v, u, rfl, w, w2⟩ := Paired.two w1
      exact hq x y c2 G1 ca1 H1 v u s1 r1 w w2 h
theorem atom_int {σ : L2.St} {env : DL.Env} {G : Hp} {ca : Option Addr} {v : V} {rv : RV} {i : Int} (w : WtR Y G ca σ env v rv) (e : rv.d = .int i) : v = .int i := by
  cases rv with
  | pl d =>
    have e : d = .int i := e
    subst e
    cases w
    rfl
  | ow i xs => cases e
theorem pdi_rng1 {st : Bool} {tg a : Expr} {f : DE} {p pos : Pos} (hg : Gl X "range") (hm : X.mg "range" = none) (ha : PDA X Z N W [a] (dArgs [f]))
    (hs : starEach [a] X.env = [(false, eval a X.env)] := by rfl) : PDI X Z N W st tg (.Call (.Name "range" p) [a] [] pos) (iRng1 f) := by
  refine pi_imp (pi_range1 hg hm ha hs) fun σ H R h => ?_
  obtain ⟨G, ca, env, c, rs, h⟩ := h
  refine tda1 (k := kRng1) (Post := fun items c' => ∀ G' ca' H' J, Stp G ca H G' ca' H' → RS (yOf X Z) N G' ca' σ H' env c' → ItD (yOf X Z) st J items G' ca' H' → R J H') rs h fun x c1 G1 ca1 H1 v s1 r1 w1 h => ?_
  simp only [kRng1] at h
  cases e3 : x.d with
  | int j =>
    rw [e3] at h
    dsimp only at h
    by_cases hj : (okR j && decide (j.toNat ≤ sizeL)) = true
    · rw [if_pos hj] at h
      rw [Bool.and_eq_true] at hj
      obtain ⟨h1, h2⟩ := okR_of hj.1
      exact ⟨j, by rw [atom_int w1 e3], h1, h2, h _ _ _ _ s1 r1 (it_rng 0 j.toNat (of_decide_eq_true hj.2))⟩
    · rw [if_neg hj] at h; exact h.elim
  | _ => rw [e3] at h; exact h.elim
theorem pdi_rng2 {st : Bool} {tg a b : Expr} {f g : DE} {p pos : Pos} (hg : Gl X "range") (hm : X.mg "range" = none) (ha : PDA X Z N W [a, b] (dArgs [f, g]))
    (hs : starEach [a, b] X.env = [(false, eval a X.env), (false, eval b X.env)] := by rfl) (hs2 : starEach [b] X.env = [(false, eval b X.env)] := by rfl) : PDI X Z N W st tg (.Call (.Name "range" p) [a, b] [] pos) (iRng2 f g) := by
  refine pi_imp (pi_range2 hg hm ha hs hs2) fun σ H R h => ?_
  obtain ⟨G, ca, env, c, rs, h⟩ := h
  refine tda2 (k := kRng2) (Post := fun items c' => ∀ G' ca' H' J, Stp G ca H G' ca' H' → RS (yOf X Z) N G' ca' σ H' env c' → ItD (yOf X Z) st J items G' ca' H' → R J H') rs h fun x y c1 G1 ca1 H1 v u s1 r1 w1 w2 h => ?_
  simp only [kRng2] at h
  cases e3 : x.d with
  | int i =>
    rw [e3] at h
    cases e4 : y.d with
    | int j =>
      rw [e4] at h
      dsimp only at h
      by_cases hj : (okR i && okR j && decide ((j - i).toNat ≤ sizeL)) = true
      · rw [if_pos hj] at h
        rw [Bool.and_eq_true, Bool.and_eq_true] at hj
        obtain ⟨h1, h2⟩ := okR_of hj.1.1
        obtain ⟨h3, h4⟩ := okR_of hj.1.2
        exact ⟨i, j, by rw [atom_int w1 e3, atom_int w2 e4], ⟨h1, h2, h3, h4⟩, h _ _ _ _ s1 r1 (it_rng i _ (of_decide_eq_true hj.2))⟩
      · rw [if_neg hj] at h; exact h.elim
    | _ => rw [e4] at h; exact h.elim
  | _ => rw [e3] at h; exact h.elim
theorem zip_get : ∀ {xs ys : List D} {i : Nat} {d : D}, (zipD xs ys)[i]? = some d → ∃ x y, xs[i]? = some x ∧ ys[i]? = some y ∧ d = .tup [x, y]
  | x :: xs, y :: ys, 0, d, h => by
    simp [zipD] at h
    exact ⟨x, y, rfl, rfl, h.symm⟩
  | x :: xs, y :: ys, i + 1, d, h => by
    simp only [zipD, List.getElem?_cons_succ] at h
    obtain ⟨a, b, h1, h2, h3⟩ := zip_get h
    exact ⟨a, b, by simpa using h1, by simpa using h2, h3⟩
  | [], _, _, _, h => by simp [zipD] at h
  | _ :: _, [], _, _, h => by simp [zipD] at h
theorem zip_len : ∀ xs ys : List D, (zipD xs ys).length = min xs.length ys.length
  | x :: xs, y :: ys => by simp only [zipD, List.length_cons, zip_len xs ys]; omega
  | [], _ => by simp [zipD]
  | _ :: _, [] => by simp [zipD]
theorem pair_new {G H : Hp} {ca : Option Addr} {c : C} {p : Addr} {x y : V} {d e : D} (r : RS0 Y G ca H c) (w1 : Wt Y G ca x d) (w2 : Wt Y G ca y e) (hp : H p = none) :
    ∃ G', Stp G ca H G' ca (upd H p (.tup [x, y])) ∧ RS0 Y G' ca (upd H p (.tup [x, y])) c ∧ Wt Y G' ca (.ref p) (.tup [d, e]) :=
  ⟨upd G p (.tup [x, y]), .newG r hp, r.newG hp, .tup (.inl (.inl upd_same)) ((Wts.cons w1 (.cons w2 .nil)).mono (same_upd (r.free hp)) fun _ h => h) (by show 2 ≤ sizeL; decide)⟩
theorem pdi_zip {st : Bool} {e e2 : Expr} {f g : DE} {p pos tpos : Pos} {elts : List Expr} {kk : Nat} (hg : Gl X "zip") (hm : X.mg "zip" = none) (ha : PDA X Z N W [e, e2] (dArgs [f, g]))
    (hs : starEach [e, e2] X.env = (false, eval e X.env) :: starEach [e2] X.env := by rfl) (hpl : (backTo pos (starEach [e2] X.env)).any (·.1) = false := by rfl) :
    PDI X Z N W st (.Tuple elts kk tpos) (.Call (.Name "zip" p) [e, e2] [] pos) (iZip st f g) := by
  refine pi_imp (RZ.pi_zipA hg hm ha hs hpl) fun σ H R h => ?_
  obtain ⟨G, ca, env, c, rs, h⟩ := h
  refine tda2 (k := kZip st) (Post := fun items c' => ∀ G' ca' H' J, Stp G ca H G' ca' H' → RS (yOf X Z) N G' ca' σ H' env c' → ItD (yOf X Z) st J items G' ca' H' → R J H') rs h fun x y c1 G1 ca1 H1 v u s1 r1 w1 w2 h => ?_
  simp only [kZip] at h
  by_cases hgd : (x.good st && y.good st) = true
  · rw [if_pos hgd] at h
    simp only [Bool.and_eq_true] at hgd
    cases e3 : x.d with
    | tup xs =>
      rw [e3] at h
      cases e4 : y.d with
      | tup ys =>
        rw [e4] at h
        simp only [zip2] at h
        obtain ⟨a, vs, rfl, hlen, hsz, k⟩ := aft_tup (st := st) (H1 := H1) w1 e3
        obtain ⟨b, us, rfl, hlen2, hsz2, k2⟩ := aft_tup (st := st) (H1 := H1) w2 e4
        refine ⟨a, b, vs, us, rfl, .inr ⟨(k G1 ca1 H1 c1 aft_refl r1.r0).1, (k2 G1 ca1 H1 c1 aft_refl r1.r0).1, h G1 ca1 H1 _ s1 r1 ⟨by first | exact hsz | (rw [zip_len]; omega), fun i G ca H c A r => ?_⟩⟩⟩
        obtain ⟨q1, q2⟩ := k G ca H c A r
        obtain ⟨q3, q4⟩ := k2 G ca H c A r
        refine ⟨fun d hd => ?_, fun hi => ⟨vs, us, q1, q3, by rw [zip_len] at hi; omega⟩⟩
        obtain ⟨dx, dy, e5, e6, rfl⟩ := zip_get hd
        obtain ⟨vx, e7, wx⟩ := q2.get e5
        obtain ⟨vy, e8, wy⟩ := q4.get e6
        refine ⟨⟨vs, us, vx, vy, q1, q3, e7, e8⟩, fun z H' hy => ?_⟩
        obtain ⟨T, x', y', rfl, hT, rfl, g1, g2⟩ := hy
        have g1 := g1 vs q1
        have g2 := g2 us q3
        rw [e7] at g1
        rw [e8] at g2
        cases g1
        cases g2
        exact pair_new r wx wy hT
      | _ => rw [e4] at h; exact h.elim
    | lst xs =>
      rw [e3] at h
      cases e4 : y.d with
      | lst ys =>
        rw [e4] at h
        simp only [zip2] at h
        obtain ⟨a, vs, rfl, hlen, hsz, k⟩ := aft_lst r1 w1 e3 hgd.1
        obtain ⟨b, us, rfl, hlen2, hsz2, k2⟩ := aft_lst r1 w2 e4 hgd.2
        refine ⟨a, b, vs, us, rfl, .inl ⟨sql (k G1 ca1 H1 c1 aft_refl r1.r0).1, sql (k2 G1 ca1 H1 c1 aft_refl r1.r0).1, h G1 ca1 H1 _ s1 r1 ⟨by first | exact hsz | (rw [zip_len]; omega), fun i G ca H c A r => ?_⟩⟩⟩
        obtain ⟨q1, q2⟩ := k G ca H c A r
        obtain ⟨q3, q4⟩ := k2 G ca H c A r
        refine ⟨fun d hd => ?_, fun hi => ⟨vs, us, sql q1, sql q3, by rw [zip_len] at hi; omega⟩⟩
        obtain ⟨dx, dy, e5, e6, rfl⟩ := zip_get hd
        obtain ⟨vx, e7, wx⟩ := q2.get e5
        obtain ⟨vy, e8, wy⟩ := q4.get e6
        refine ⟨⟨vs, us, vx, vy, sql q1, sql q3, e7, e8⟩, fun z H' hy => ?_⟩
        obtain ⟨T, x', y', rfl, hT, rfl, g1, g2⟩ := hy
        have g1 := g1 vs (sql q1)
        have g2 := g2 us (sql q3)
        rw [e7] at g1
        rw [e8] at g2
        cases g1
        cases g2
        exact pair_new r wx wy hT
      | _ => rw [e4] at h; exact h.elim
    | _ => rw [e3] at h; exact h.elim
  · rw [if_neg hgd] at h; exact h.elim
theorem enum_get : ∀ {xs : List D} {k : Int} {i : Nat} {d : D}, (enumD k xs)[i]? = some d → ∃ x, xs[i]? = some x ∧ d = .tup [.int (k + i), x]
  | x :: xs, k, 0, d, h => by
    simp [enumD] at h
    exact ⟨x, rfl, by simp [h]⟩
  | x :: xs, k, i + 1, d, h => by
    simp only [enumD, List.getElem?_cons_succ] at h
    obtain ⟨a, h1, h3⟩ := enum_get h
    refine ⟨a, by simpa using h1, ?_⟩
    rw [h3]
    congr 3
    omega
  | [], _, _, _, h => by simp [enumD] at h
theorem enum_len : ∀ (xs : List D) (k : Int), (enumD k xs).length = xs.length
  | x :: xs, k => by simp only [enumD, List.length_cons, enum_len xs]
  | [], _ => rfl
theorem pdi_enum {st : Bool} {e : Expr} {f : DE} {p pos tpos : Pos} {elts : List Expr} {kk : Nat} (hg : Gl X "enumerate") (hm : X.mg "enumerate" = none) (ha : PDA X Z N W [e] (dArgs [f])) (hs : starEach [e] X.env = [(false, eval e X.env)] := by rfl) :
    PDI X Z N W st (.Tuple elts kk tpos) (.Call (.Name "enumerate" p) [e] [] pos) (iEnum st f) := by
  refine pi_imp (pi_enum hg hm ha hs) fun σ H R h => ?_
  obtain ⟨G, ca, env, c, rs, h⟩ := h
  refine tda1 (k := kEnum st) (Post := fun items c' => ∀ G' ca' H' J, Stp G ca H G' ca' H' → RS (yOf X Z) N G' ca' σ H' env c' → ItD (yOf X Z) st J items G' ca' H' → R J H') rs h fun x c1 G1 ca1 H1 v s1 r1 w1 h => ?_
  simp only [kEnum] at h
  by_cases hgd : x.good st = true
  · rw [if_pos hgd] at h
    cases e3 : x.d with
    | lst xs =>
      rw [e3] at h
      obtain ⟨a, vs, rfl, hlen, hsz, k⟩ := aft_lst r1 w1 e3 hgd
      refine ⟨a, vs, rfl, sql (k G1 ca1 H1 c1 aft_refl r1.r0).1, h G1 ca1 H1 _ s1 r1 ⟨by rw [enum_len]; exact hsz, fun i G ca H c A r => ?_⟩⟩
      obtain ⟨q1, q2⟩ := k G ca H c A r
      refine ⟨fun d hd => ?_, fun hi => ⟨vs, sql q1, by rw [enum_len] at hi; omega⟩⟩
      obtain ⟨dx, e5, rfl⟩ := enum_get hd
      obtain ⟨vx, e7, wx⟩ := q2.get e5
      refine ⟨⟨vs, vx, sql q1, e7⟩, fun z H' hy => ?_⟩
      obtain ⟨T, x', rfl, hT, rfl, g1⟩ := hy
      have g1 := g1 vs (sql q1)
      rw [e7] at g1
      cases g1
      have := pair_new (d := .int (0 + i)) r (by rw [Int.zero_add]; exact .int (i : Nat)) wx hT
      exact this
    | _ => rw [e3] at h; exact h.elim
  · rw [if_neg hgd] at h; exact h.elim
end
end DL

set_option Elab.async false
set_option linter.all false
set_option maxRecDepth 100000
set_option maxHeartbeats 4000000
set_option autoImplicit false
namespace DL
open PySem PySem.Spec PyProof.Rows L2
section
variable {X : Cx} {Z : Zp} {N : En} {W : WX} {Y : Yp}
/-! ### targets -/
def OnlyAt (is : List Nat) (σ σ' : L2.St) : Prop := σ'.length = σ.length ∧ ∀ j : Nat, j ∉ is → σ'[j]? = σ[j]?
theorem wipe_get (σ : L2.St) : ∀ (vs : List Nat) (j : Nat), (wipe σ vs)[j]? = if j ∈ vs then (if j < σ.length then some none else none) else σ[j]?
  | [], j => by simp [wipe]
  | v :: vs, j => by
    unfold wipe
    rw [List.getElem?_set, wipe_get σ vs j, wipe_length]
    by_cases h : v = j
    · subst h
      simp
    · have h2 : ¬ j = v := fun e => h e.symm
      simp [h, h2]
theorem OnlyAt.wipe {is vs : List Nat} {σ σ' : L2.St} (h : OnlyAt is σ σ') (hs : ∀ i ∈ is, i ∈ vs) : L2.wipe σ' vs = L2.wipe σ vs := by
  apply List.ext_getElem?
  intro j
  rw [wipe_get, wipe_get, h.1]
  by_cases hj : j ∈ vs
  · rw [if_pos hj, if_pos hj]
  · rw [if_neg hj, if_neg hj, h.2 j fun z => hj (hs j z)]
theorem wipe_wipe (σ : L2.St) (vs : List Nat) : L2.wipe (L2.wipe σ vs) vs = L2.wipe σ vs := by
  apply List.ext_getElem?
  intro j
  rw [wipe_get, wipe_get, wipe_length]
  by_cases hj : j ∈ vs
  · rw [if_pos hj, if_pos hj]
  · rw [if_neg hj, if_neg hj]
theorem OnlyAt.set {i : Nat} {σ : L2.St} {o : Option V} : OnlyAt [i] σ (σ.set i o) := ⟨List.length_set, fun j h => List.getElem?_set_ne fun e => h (by simp [e])⟩
theorem OnlyAt.trans {is js : List Nat} {σ σ' σ'' : L2.St} (a : OnlyAt is σ σ') (b : OnlyAt js σ' σ'') : OnlyAt (is ++ js) σ σ'' :=
  ⟨b.1.trans a.1, fun j h => by
    rw [List.mem_append, not_or] at h
    exact (b.2 j h.2).trans (a.2 j h.1)⟩
theorem wipeE_len (env : DL.Env) : ∀ vs : List Nat, (wipeE env vs).length = env.length
  | [] => rfl
  | v :: vs => by unfold wipeE; rw [List.length_set, wipeE_len env vs]
theorem wipeE_get (env : DL.Env) : ∀ (vs : List Nat) (j : Nat), (wipeE env vs)[j]? = if j ∈ vs then (if j < env.length then some .no else none) else env[j]?
  | [], j => by simp [wipeE]
  | v :: vs, j => by
    unfold wipeE
    rw [List.getElem?_set, wipeE_get env vs j, wipeE_len]
    by_cases h : v = j
    · subst h
      simp
    · have h2 : ¬ j = v := fun e => h e.symm
      simp [h, h2]
section
variable {G H : Hp} {ca : Option Addr} {σ : L2.St} {env : DL.Env} {c : C}
theorem RS.set (r : RS Y N G ca σ H env c) {i : Nat} {v : V} {d : D} (w : Wt Y G ca v d) : RS Y N G ca (σ.set i (some v)) H (env.set i (.val d)) c where
  r0 := r.r0
  st := r.st
  len := by rw [List.length_set, List.length_set]; exact r.len
  val := fun j e h => by
    by_cases hj : i = j
    · subst hj
      rw [List.getElem?_set] at h
      by_cases hl : i < env.length
      · rw [if_pos rfl, if_pos hl] at h
        cases h
        exact ⟨v, List.getElem?_set_self (by rw [← r.len]; exact hl), w⟩
      · rw [if_pos rfl, if_neg hl] at h
        cases h
    · rw [List.getElem?_set_ne hj] at h
      obtain ⟨u, h1, h2⟩ := r.val j e h
      exact ⟨u, by rw [List.getElem?_set_ne hj]; exact h1, h2⟩
  own := fun j xs h => by
    by_cases hj : i = j
    · subst hj
      rw [List.getElem?_set] at h
      by_cases hl : i < env.length
      · rw [if_pos rfl, if_pos hl] at h
        cases h
      · rw [if_pos rfl, if_neg hl] at h
        cases h
    · rw [List.getElem?_set_ne hj] at h
      obtain ⟨a, vs, h1, h2⟩ := r.own j xs h
      exact ⟨a, vs, by rw [List.getElem?_set_ne hj]; exact h1, h2⟩
  sep := fun j k xs ys a h1 h2 h3 h4 => by
    by_cases hj : i = j
    · subst hj
      rw [List.getElem?_set] at h1
      by_cases hl : i < env.length
      · rw [if_pos rfl, if_pos hl] at h1; cases h1
      · rw [if_pos rfl, if_neg hl] at h1; cases h1
    · by_cases hk : i = k
      · subst hk
        rw [List.getElem?_set] at h2
        by_cases hl : i < env.length
        · rw [if_pos rfl, if_pos hl] at h2; cases h2
        · rw [if_pos rfl, if_neg hl] at h2; cases h2
      · rw [List.getElem?_set_ne hj] at h1 h3
        rw [List.getElem?_set_ne hk] at h2 h4
        exact r.sep j k xs ys a h1 h2 h3 h4
theorem RS.wipe (r : RS Y N G ca σ H env c) (vs : List Nat) : RS Y N G ca (L2.wipe σ vs) H (wipeE env vs) c where
  r0 := r.r0
  st := r.st
  len := by rw [wipeE_len, wipe_length]; exact r.len
  val := fun j e h => by
    rw [wipeE_get] at h
    by_cases hj : j ∈ vs
    · rw [if_pos hj] at h
      split at h <;> cases h
    · rw [if_neg hj] at h
      rw [wipe_get, if_neg hj]
      exact r.val j e h
  own := fun j xs h => by
    rw [wipeE_get] at h
    by_cases hj : j ∈ vs
    · rw [if_pos hj] at h
      split at h <;> cases h
    · rw [if_neg hj] at h
      rw [wipe_get, if_neg hj]
      exact r.own j xs h
  sep := fun j k xs ys a h1 h2 h3 h4 => by
    rw [wipeE_get] at h1 h2
    rw [wipe_get] at h3 h4
    by_cases hj : j ∈ vs
    · rw [if_pos hj] at h1
      split at h1 <;> cases h1
    · by_cases hk : k ∈ vs
      · rw [if_pos hk] at h2
        split at h2 <;> cases h2
      · rw [if_neg hj] at h1 h3
        rw [if_neg hk] at h2 h4
        exact r.sep j k xs ys a h1 h2 h3 h4
end
def gD (Y : Yp) (N : En) (is : List Nat) (tg : TG) : L2.TG := fun v σ H Q => ∃ G ca env c d env', RS Y N G ca σ H env c ∧ Wt Y G ca v d ∧ tg d env = some env' ∧ ∀ σ', RS Y N G ca σ' H env' c → OnlyAt is σ σ' → Q σ' H
def gDs (Y : Yp) (N : En) (is : List Nat) (tgs : List TG) : L2.TGs := fun vs σ H Q => ∃ G ca env c ds env', RS Y N G ca σ H env c ∧ Wts Y G ca vs ds ∧ tgAll tgs ds env = some env' ∧ ∀ σ', RS Y N G ca σ' H env' c → OnlyAt is σ σ' → Q σ' H
abbrev PGD (X : Cx) (Z : Zp) (N : En) (is : List Nat) (tg : Expr) (f : TG) : Prop := PG X tg (gD (yOf X Z) N is f)
abbrev PGsD (X : Cx) (Z : Zp) (N : En) (is : List Nat) (tgs : List Expr) (f : List TG) : Prop := PGs X tgs (gDs (yOf X Z) N is f)
theorem pgs_imp {e : List Expr} {t t' : TGs} (h : PGs X e t) (i : ∀ v σ H Q, t' v σ H Q → t v σ H Q) : PGs X e t' := ⟨fun pins s σ H v u Q I r q => h.run pins s σ H v u Q I r (i _ _ _ _ q)⟩
theorem pgd_name {i : Nat} {x : Str} {pos : Pos} (hN : X.N.Nodup) (hi : X.N[i]? = some x) (hx : Loc X.env.scope x) (hf : X.fn x = true ∨ X.env.scope.names.lookup x = some .local := by first | exact .inl rfl | exact .inr rfl | assumption) : PGD X Z N [i] (.Name x pos) (tgN i) :=
  pg_imp (pg_name hN hi hx hf) fun v σ H Q ⟨G, ca, env, c, d, env', r, w, e, k⟩ => by
    cases e
    exact k _ (r.set w) .set
theorem pgsd_nil : PGsD X Z N [] [] [] :=
  pgs_imp pgs_nil fun v σ H Q ⟨G, ca, env, c, ds, env', r, w, e, k⟩ => by
    cases ds with
    | nil =>
      cases w
      cases e
      exact ⟨rfl, k σ r ⟨rfl, fun _ _ => rfl⟩⟩
    | cons d ds => cases e
theorem pgsd_cons {e : Expr} {es : List Expr} {is js : List Nat} {f : TG} {fs : List TG} (h1 : PGD X Z N is e f) (h2 : PGsD X Z N js es fs) (hs : (assignEach (e :: es) X.env).map (·.2) = assign e X.env :: (assignEach es X.env).map (·.2) := by rfl) : PGsD X Z N (is ++ js) (e :: es) (f :: fs) :=
  pgs_imp (pgs_cons h1 h2 hs) fun v σ H Q ⟨G, ca, env, c, ds, env', r, w, e, k⟩ => by
    cases w with
    | nil => cases e
    | @cons v vs d ds w ws =>
      simp only [tgAll] at e
      cases e1 : f d env with
      | none => rw [e1] at e; cases e
      | some env1 =>
        rw [e1] at e
        exact ⟨v, vs, rfl, G, ca, env, c, d, env1, r, w, e1, fun σ1 r1 o1 => ⟨G, ca, env1, c, ds, env', r1, ws, e, fun σ2 r2 o2 => k σ2 r2 (o1.trans o2)⟩⟩
theorem tgAll_len : ∀ {fs : List TG} {ds : List D} {env env' : DL.Env}, tgAll fs ds env = some env' → ds.length = fs.length
  | [], [], _, _, _ => rfl
  | [], _ :: _, _, _, h => by cases h
  | _ :: _, [], _, _, h => by cases h
  | f :: fs, d :: ds, env, env', h => by
    simp only [tgAll] at h
    cases e : f d env with
    | none => rw [e] at h; cases h
    | some env1 => rw [e] at h; exact congrArg (· + 1) (tgAll_len h)
theorem pgd_tup {es : List Expr} {k : Nat} {is : List Nat} {fs : List TG} {pos : Pos} (hc : X.calm = true) (h : PGsD X Z N is es fs) (hl : fs.length = es.length)
    (hn : (assignEach es X.env).length = es.length := by rfl) (hst : (assignEach es X.env).findIdx? (·.1) = none := by rfl) : PGD X Z N is (.Tuple es k pos) (tgT fs) :=
  pg_imp (pg_tup hc h hn hst) fun v σ H Q ⟨G, ca, env, c, d, env', r, w, e, k⟩ => by
    cases d with
    | tup ds =>
      cases w with
      | tup hs w l => exact ⟨_, _, rfl, sqT_mono r.r0.le hs, by rw [w.length, tgAll_len e, hl], G, ca, env, c, ds, env', r, w, e, k⟩
    | _ => cases e
/-! ### comprehensions -/
theorem Stp.mod {G1 H1 G H : Hp} {ca1 ca : Option Addr} {D : Addr} {o : HO} (s : Stp G1 ca1 H1 G ca H) (hn : NoO H1 D) : Stp G1 ca1 H1 G ca (upd H D o) where
  le := s.le
  nw := s.nw
  dm := fun b h => by
    by_cases e : b = D
    · subst e; exact hn
    · exact s.dm b fun u hu => h u (by rw [upd_ne e]; exact hu)
  fr := fun b u h n k => by rw [upd_ne fun (e : b = D) => hn.no (by rw [← e]; exact h) n]; exact s.fr b u h n k
  cl := s.cl
  cn := s.cn
theorem RS0.mod {G H : Hp} {ca : Option Addr} {c : C} {D : Addr} {xs ys : List V} (r : RS0 Y G ca H c) (hd : H D = some (.lst xs)) (hg : G D = none) (hc : ca ≠ some D) : RS0 Y G ca (upd H D (.lst ys)) c where
  le := fun b u h => by rw [upd_ne (ne_of_none h hg)]; exact r.le b u h
  tab := fun p hp => by
    obtain ⟨ps, h1, h2, h3⟩ := r.tab p hp
    have ne : ∀ b u, H b = some u → (∀ zs, u ≠ .lst zs) → b ≠ D := fun b u e n z => by subst z; rw [hd] at e; cases e; exact n _ rfl
    refine ⟨ps, by rw [upd_ne (ne _ _ h1 fun zs z => by cases z)]; exact h1, h2, fun pos cv hcv => ?_⟩
    obtain ⟨c', e1, e2⟩ := h3 pos cv hcv
    exact ⟨c', e1, by rw [upd_ne (ne _ _ e2 fun zs z => by unfold LamX.CodeO at z; cases z)]; exact e2⟩
  cup := fun a h => by
    obtain ⟨h1, h2⟩ := r.cup a h
    have : a ≠ D := fun e => hc (by rw [← e]; exact h)
    exact ⟨by rw [upd_ne this]; exact h1, h2⟩
  nt := r.nt
abbrev W0 : WX := fun _ _ _ _ => False
theorem bad0 {σ : L2.St} {env : DL.Env} {x : Ex} {c : C} {G H : Hp} {ca : Option Addr} {α : Type} {m : R α} {P : α → C → Prop} (h : m.calm.post P (fun x c' => Bad Y N W σ env x c' G ca H)) : m.post P (fun _ _ => False) := by
  cases m <;> exact h
theorem post_bind {α β : Type} {m : DL.R α} {k : α → C → DL.R β} {P : β → C → Prop} {B : Ex → C → Prop} : (m.bind k).post P B ↔ m.post (fun a c => (k a c).post P B) B := by
  cases m <;> exact Iff.rfl
theorem post_imp {α : Type} {m : DL.R α} {P P' : α → C → Prop} {B B' : Ex → C → Prop} (h : m.post P B) (i : ∀ a c, P a c → P' a c) (j : ∀ x c, B x c → B' x c) : m.post P' B' := by
  cases m with
  | ok a c => exact i _ _ h
  | er x c => exact j _ _ h
  | st => exact h
/-- a block's turn: the list at A grows -/
theorem tlc {J : It} {items : List D} {tg : TG} {t : DT} {e : DE} {vs : List Nat} {is : List Nat} {σ : L2.St} {env : DL.Env} {G1 H1 : Hp} {ca1 : Option Addr} {c1 : C} {Q : Hp → Prop} {A : Addr} {FQ : List D → C → Prop}
    (r1 : RS Y N G1 ca1 σ H1 env c1) (hit : ItD Y false J items G1 ca1 H1) (hA : H1 A = none) (hs : ∀ i ∈ is, i ∈ vs)
    (hQ : ∀ (ds : List D) (c' : C) (G' : Hp) (ca' : Option Addr) (H' : Hp) (us : List V), FQ ds c' → Stp G1 ca1 H1 G' ca' H' → RS0 Y G' ca' H' c' → H' A = some (.lst us) → G' A = none → ca' ≠ some A → Wts Y G' ca' us ds → ds.length ≤ sizeL → Q H')
    (h : (dLoop tg t e (wipeE env vs) items c1).post FQ (fun _ _ => False)) :
    ∃ Wi : Nat → Nat → Hp → Prop, (∃ m, Wi 0 m (upd H1 A (.lst []))) ∧ ∀ i m H, Wi i m H →
      (J.stop i H ∧ Q H) ∨ (J.go i H ∧ ∃ Nx : Hp → Prop, (∀ H', Nx H' → ∃ m', m' < m ∧ Wi (i + 1) m' H') ∧ ∀ x H', J.yld i H x H' → gD Y N is tg x (L2.wipe σ vs) H' fun σ2 H2 => L2.wipe σ2 vs = L2.wipe σ vs ∧ tDT Y N W0 t σ2 H2 fun b H3 =>
        if b = true then tD Y N W0 e σ2 H3 fun y H4 => ∃ acc, H4 A = some (.lst acc) ∧ acc.length < sizeLine ∧ Nx (upd H4 A (.lst (acc ++ [y]))) else Nx H3) := by
  refine ⟨fun i m H => m = items.length - i ∧ i ≤ items.length ∧ ∃ G ca c acc dacc, Stp G1 ca1 H1 G ca H ∧ RS0 Y G ca H c ∧ H A = some (.lst acc) ∧ Wts Y G ca acc dacc ∧ G A = none ∧ ca ≠ some A ∧ dacc.length ≤ i ∧
    (dLoop tg t e (wipeE env vs) (items.drop i) c).post (fun ds c' => FQ (dacc ++ ds) c') (fun _ _ => False),
    ⟨items.length, by simp, Nat.zero_le _, G1, ca1, c1, [], [], .new hA, r1.r0.new hA, upd_same, .nil, r1.r0.free hA, r1.r0.ncup hA, Nat.le_refl _, by simpa using h⟩, ?_⟩
  rintro i m H ⟨rfl, hi, G, ca, c, acc, dacc, st, r0, hAH, wa, gA, nA, hl, hp⟩
  have rw_ := (r1.wipe vs).step st r0
  obtain ⟨h1, h2⟩ := hit.2 i G ca H c st r0
  by_cases hlt : i < items.length
  · have e1 : items.drop i = items[i] :: items.drop (i + 1) := List.drop_eq_getElem_cons hlt
    obtain ⟨hgo, hy⟩ := h1 items[i] (List.getElem?_eq_getElem hlt)
    rw [e1] at hp
    simp only [dLoop] at hp
    refine .inr ⟨hgo, _, fun H' hn => ⟨items.length - (i + 1), by omega, hn⟩, fun x H' hyl => ?_⟩
    obtain ⟨G', sy, ry, wx⟩ := hy x H' hyl
    cases e2 : tg items[i] (wipeE env vs) with
    | none => rw [e2] at hp; exact hp.elim
    | some env2 =>
      rw [e2] at hp
      dsimp only at hp
      refine ⟨G', ca, wipeE env vs, c, items[i], env2, rw_.step sy ry, wx, e2, fun σ2 r2 o2 => ⟨(o2.wipe hs).trans (wipe_wipe σ vs), G', ca, env2, c, r2, ?_⟩⟩
      cases e3 : t env2 c with
      | st => rw [e3] at hp; exact hp
      | er x c1 => rw [e3] at hp; exact hp.elim
      | ok k c2 =>
        rw [e3] at hp
        simp only [DL.R.bind] at hp
        intro G2 ca2 H2 s2 r2'
        have s12 := sy.trans s2
        have keep : ∀ {G3 : Hp} {ca3 : Option Addr} {H3 : Hp}, Stp G ca H G3 ca3 H3 → H3 A = some (.lst acc) ∧ G3 A = none ∧ ca3 ≠ some A := fun {G3 ca3 H3} s => by
          refine ⟨s.fr A _ hAH notbl nA, ?_, fun z => ?_⟩
          · cases q : G3 A with
            | none => rfl
            | some o =>
              rcases s.nw A o q with z | z
              · rw [gA] at z; cases z
              · exact (z.no hAH notbl).elim
          · rcases s.cn A z with z | z
            · exact nA z
            · exact z.no hAH notbl
        cases k with
        | false =>
          rw [if_neg Bool.false_ne_true] at hp
          refine iteF ?_
          obtain ⟨q1, q2, q3⟩ := keep s12
          exact ⟨rfl, hlt, G2, ca2, c2, acc, dacc, st.trans s12, r2'.r0, q1, wa.mono s12.le s12.cl, q2, q3, Nat.le_succ_of_le hl, hp⟩
        | true =>
          rw [if_pos rfl] at hp
          refine iteT ⟨G2, ca2, env2, c2, r2', ?_⟩
          cases e4 : e env2 c2 with
          | st => rw [e4] at hp; exact hp
          | er x c1 => rw [e4] at hp; exact hp.elim
          | ok rv c3 =>
            rw [e4] at hp
            cases rv with
            | ow j ys => exact hp.elim
            | pl dd =>
              dsimp only at hp
              intro G3 ca3 H3 v s3 r3 w3
              have s13 := s12.trans s3
              obtain ⟨q1, q2, q3⟩ := keep s13
              refine ⟨acc, q1, ?_, rfl, hlt, G3, ca3, c3, acc ++ [v], dacc ++ [dd], (st.trans s13).mod (.of hA), r3.r0.mod q1 q2 q3, upd_same, (wa.mono s13.le s13.cl).append (.cons w3 .nil), q2, q3, ?_, ?_⟩
              · rw [wa.length]
                exact Nat.lt_of_le_of_lt hl (Nat.lt_of_lt_of_le hlt hit.1)
              · rw [List.length_append, List.length_singleton]
                omega
              · refine post_imp (post_bind.mp hp) (fun ds c' q => ?_) fun _ _ q => q
                rw [List.append_assoc]
                exact q
  · have e1 : i = items.length := by omega
    refine .inl ⟨h2 (by omega), ?_⟩
    rw [e1, List.drop_length] at hp
    simp only [dLoop] at hp
    have hp : FQ (dacc ++ []) c := hp
    rw [List.append_nil] at hp
    exact hQ dacc c G ca H acc hp st r0 hAH gA nA wa (Nat.le_trans hl (by rw [e1]; exact hit.1))
theorem pdo_lc {elt tg iter : Expr} {ifs : List Expr} {scope : Scope} {own : List (Str × Nat)} {pos : Pos} {it : DI} {g : TG} {t : DT} {e : DE} {is : List Nat} (hc : X.calm = true) (hN : X.N.Nodup) (hi : PDI X Z N W false tg iter it) (ok : BlkOk X.N X.env.scope scope own)
    (hg : ∀ (s : Shared) (H : Hp) (C : Addr) (cl : List (Str × Addr)) (fp : List Addr), PGD (X.blk s H scope (compEnvC scope cl C X.env) fp) Z N is tg g)
    (ht : ∀ (s : Shared) (H : Hp) (C : Addr) (cl : List (Str × Addr)) (fp : List Addr), PTs (X.blk s H scope (compEnvC scope cl C X.env) fp) ifs (tDT (yOf X Z) N W0 t))
    (he : ∀ (s : Shared) (H : Hp) (C : Addr) (cl : List (Str × Addr)) (fp : List Addr), PD (X.blk s H scope (compEnvC scope cl C X.env) fp) Z N W0 elt e)
    (hsb : ∀ i ∈ is, i ∈ own.map (·.2)) (hs : ∀ x, foldedSetIterable iter X.env x = pure x := by intro _; rfl) :
    PDO X Z N W (.ListComp elt [⟨tg, iter, ifs, 0⟩] scope pos) (dComp it g t e (own.map (·.2))) := by
  refine pe_imp (pe_lc (g := gD (yOf X Z) N is g) (te := tD (yOf X Z) N W0 e) hc hN hi ok hg ht he hs) fun σ H Q h => ?_
  obtain ⟨G, ca, env, c, rs, h⟩ := h
  refine ⟨G, ca, env, c, rs, ?_⟩
  simp only [dComp] at h
  cases e1 : it env c with
  | st => rw [e1] at h; exact h
  | er x c1 => rw [e1] at h; exact h
  | ok items c1 =>
    rw [e1] at h
    simp only [DL.R.bind] at h
    intro G1 ca1 H1 J s1 r1 hit A hA
    refine tlc (Q := fun H' => Q (.ref A) H') (FQ := fun ds c' => ∀ G' ca' H' a vs, Stp G ca H G' ca' H' → RS (yOf X Z) N G' ca' σ H' env c' → NoO H a → H' a = some (.lst vs) → G' a = none → ca' ≠ some a → Wts (yOf X Z) G' ca' vs ds → ds.length ≤ sizeL → Q (.ref a) H') r1 hit hA hsb (fun ds c' G' ca' H' us q s2 r2 hA' gA nA w l => ?_) ?_
    · exact q G' ca' H' A us (s1.trans s2) (r1.step s2 r2) (s1.dm A (.of hA)) hA' gA nA w l
    · cases e2 : dLoop g t e (wipeE env (own.map (·.2))) items c1 with
      | st => rw [e2] at h; exact h
      | er x c2 => rw [e2] at h; exact h
      | ok ds c2 =>
        rw [e2] at h
        obtain ⟨ds', e3, h⟩ := h
        cases e3
        exact h
theorem pts_yes {X' : Cx} {Y : Yp} : PTs X' [] (tDT Y N W0 DL.tYes) := ⟨fun pins s σ H Q I ⟨G, ca, env, c, rs, h⟩ => pts_nil.run pins s σ H Q I (h _ _ _ .refl rs)⟩

/-! ### statements -/
/-- what is known never changes -/
def Gr (G0 : Hp) (ca0 : Option Addr) (G : Hp) (ca : Option Addr) : Prop := Same G0 G ∧ ∀ a, ca0 = some a → ca = some a
theorem Gr.refl {G : Hp} {ca : Option Addr} : Gr G ca G ca := ⟨fun _ _ h => h, fun _ h => h⟩
theorem Gr.trans {G G' G'' : Hp} {ca ca' ca'' : Option Addr} (a : Gr G ca G' ca') (b : Gr G' ca' G'' ca'') : Gr G ca G'' ca'' := ⟨a.1.trans b.1, fun x h => b.2 x (a.2 x h)⟩
theorem Stp.gr {G H G' H' : Hp} {ca ca' : Option Addr} (s : Stp G ca H G' ca' H') : Gr G ca G' ca' := ⟨s.le, s.cl⟩
/-- behind a statement -/
def Fin (Y : Yp) (N : En) (W : WX) (D : Ends) (G0 : Hp) (ca0 : Option Addr) : F → Prop
  | .nx env c => ∀ G ca σ H, RS Y N G ca σ H env c → Gr G0 ca0 G ca → D.nx σ H
  | .rt d c => ∀ G ca H v, Stp N.G N.ca N.H G ca H → RS0 Y G ca H c → Wt Y G ca v d → D.rt v H
  | .bk env c => ∀ G ca σ H, RS Y N G ca σ H env c → Gr G0 ca0 G ca → D.bk σ H
  | .ct env c => ∀ G ca σ H, RS Y N G ca σ H env c → Gr G0 ca0 G ca → D.ct σ H
  | .er x env c => ∀ cls dd G ca σ H, IsX Y x cls dd H → RS Y N G ca σ H env c → W cls dd σ H
  | .st => False
theorem Fin.up {D : Ends} {G G' : Hp} {ca ca' : Option Addr} {f : F} (h : Fin Y N W D G ca f) (g : Gr G ca G' ca') : Fin Y N W D G' ca' f := by
  cases f with
  | nx env c => exact fun G2 ca2 σ H r q => h G2 ca2 σ H r (g.trans q)
  | bk env c => exact fun G2 ca2 σ H r q => h G2 ca2 σ H r (g.trans q)
  | ct env c => exact fun G2 ca2 σ H r q => h G2 ca2 σ H r (g.trans q)
  | _ => exact h
def tS (Y : Yp) (N : En) (W : WX) (f : DS) : TS := fun D σ H => ∃ G ca env c, RS Y N G ca σ H env c ∧ Fin Y N W D G ca (f env c)
abbrev PSD (X : Cx) (Z : Zp) (N : En) (W : WX) (s : Stmt) (f : DS) : Prop := PS X s (tS (yOf X Z) N W f)
abbrev PSsD (X : Cx) (Z : Zp) (N : En) (W : WX) (s : List Stmt) (f : DS) : Prop := PSs X s (tS (yOf X Z) N W f)
/-- an expression ahead of what follows -/
theorem tds {D : Ends} {σ : L2.St} {H : Hp} {f : DE} {k : DL.Env → RV → C → F} {Q : VK} (h : tS Y N W (fun env c => F.of (f env c) env (k env)) D σ H)
    (hq : ∀ rv c G ca H v env, RS Y N G ca σ H env c → WtR Y G ca σ env v rv → Fin Y N W D G ca (k env rv c) → Q v H) : tD Y N W f σ H Q := by
  obtain ⟨G, ca, env, c, rs, h⟩ := h
  refine ⟨G, ca, env, c, rs, ?_⟩
  dsimp only at h
  cases e : f env c with
  | st => rw [e] at h; exact h
  | er x c1 =>
    rw [e] at h
    exact fun cls dd G' ca' H' h1 h2 h3 => h cls dd G' ca' σ H' h1 h3
  | ok rv c1 =>
    rw [e] at h
    exact fun G' ca' H' v s r w => hq rv c1 G' ca' H' v env r w (h.up s.gr)
/-- a list of one's own, known to be changed no more -/
theorem RS.frz {G H : Hp} {ca : Option Addr} {σ : L2.St} {env : DL.Env} {c : C} (r : RS Y N G ca σ H env c) {i : Nat} {xs : List D} (e : env[i]? = some (.own xs)) :
    ∃ G' v, RS Y N G' ca σ H (env.set i (.val (.lst xs))) c ∧ σ[i]? = some (some v) ∧ Wt Y G' ca v (.lst xs) ∧ Gr G ca G' ca := by
  obtain ⟨a, vs, h1, h2, h3, h4, h5, h6, h7⟩ := r.own i xs e
  have sm : Same G (upd G a (.lst vs)) := same_upd h4
  have w : Wt Y (upd G a (.lst vs)) ca (.ref a) (.lst xs) := .lst upd_same (h3.mono sm fun _ h => h) h7
  have hl : i < env.length := (List.getElem?_eq_some_iff.mp e).1
  refine ⟨upd G a (.lst vs), .ref a, ⟨r.r0.frz h2 h4 h5, ⟨r.st.le.trans sm, fun b o h => ?_, r.st.dm, r.st.fr, r.st.cl, r.st.cn⟩, by rw [List.length_set]; exact r.len, fun j d h => ?_, fun j ys h => ?_, fun j k ys zs b q1 q2 q3 q4 => ?_⟩, h1, w, sm, fun _ h => h⟩
  · by_cases z : b = a
    · subst z; exact .inr h6
    · rw [upd_ne z] at h; exact r.st.nw b o h
  · by_cases hj : i = j
    · subst hj
      rw [List.getElem?_set_self hl] at h
      cases h
      exact ⟨_, h1, w⟩
    · rw [List.getElem?_set_ne hj] at h
      obtain ⟨v, q1, q2⟩ := r.val j d h
      exact ⟨v, q1, q2.mono sm fun _ h => h⟩
  · by_cases hj : i = j
    · subst hj
      rw [List.getElem?_set_self hl] at h
      cases h
    · rw [List.getElem?_set_ne hj] at h
      obtain ⟨b, us, q1, q2, q3, q4, q5, q6, q7⟩ := r.own j ys h
      refine ⟨b, us, q1, q2, q3.mono sm fun _ h => h, ?_, q5, q6, q7⟩
      rw [upd_ne fun z => hj (r.sep i j xs ys a e h h1 (by rw [← z]; exact q1))]
      exact q4
  · by_cases hj : i = j
    · subst hj
      rw [List.getElem?_set_self hl] at q1
      cases q1
    · by_cases hk : i = k
      · subst hk
        rw [List.getElem?_set_self hl] at q2
        cases q2
      · rw [List.getElem?_set_ne hj] at q1
        rw [List.getElem?_set_ne hk] at q2
        exact r.sep j k ys zs b q1 q2 q3 q4
theorem RS.frzS {G H : Hp} {ca : Option Addr} {σ : L2.St} {env : DL.Env} {c : C} (r : RS Y N G ca σ H env c) (i : Nat) : ∃ G', RS Y N G' ca σ H (DL.frzS env i) c ∧ Gr G ca G' ca := by
  unfold DL.frzS
  cases e : env[i]? with
  | none => exact ⟨G, r, .refl⟩
  | some s =>
    cases s with
    | own xs =>
      obtain ⟨G', v, r', _, _, g⟩ := r.frz e
      exact ⟨G', r', g⟩
    | _ => exact ⟨G, r, .refl⟩
theorem RS.frzE {H : Hp} {ca : Option Addr} {σ : L2.St} {env : DL.Env} {c : C} : ∀ (is : List Nat) {G : Hp}, RS Y N G ca σ H env c → ∃ G', RS Y N G' ca σ H (DL.frzE env is) c ∧ Gr G ca G' ca
  | [], G, r => ⟨G, r, .refl⟩
  | i :: is, G, r => by
    obtain ⟨G', r', g⟩ := RS.frzE is r
    obtain ⟨G'', r'', g'⟩ := r'.frzS i
    exact ⟨G'', r'', g.trans g'⟩
theorem psd_frz {st : Stmt} {f : DS} (is : List Nat) (h : PSD X Z N W st f) : PSD X Z N W st (sFrz is f) := ps_imp h fun D σ H ⟨G, ca, env, c, rs, q⟩ => by
  obtain ⟨G', r', g⟩ := RS.frzE is rs
  exact ⟨G', ca, _, c, r', q.up g⟩
theorem fin_set {D : Ends} {i : Nat} {σ : L2.St} {rv : RV} {c : C} {G H : Hp} {ca : Option Addr} {v : V} {env : DL.Env} (rs : RS Y N G ca σ H env c) (w : WtR Y G ca σ env v rv)
    (h : Fin Y N W D G ca (kSet i env rv c)) : D.nx (σ.set i (some v)) H := by
  cases rv with
  | pl d => exact h G ca _ H (rs.set w) .refl
  | ow j xs =>
    obtain ⟨w1, w2⟩ := w
    obtain ⟨G', u, r', e1, w', g⟩ := rs.frz w1
    rw [w2] at e1
    cases e1
    simp only [kSet, DL.frzS, w1] at h
    exact h G' ca _ H (r'.set w') g
theorem psd_set {i : Nat} {x : Str} {e : Expr} {f : DE} {pos pos' : Pos} (hN : X.N.Nodup) (hi : X.N[i]? = some x) (hx : Loc X.env.scope x) (he : PD X Z N W e f) (hs : swapsWith e (some (.Name x pos')) pos.line X.env = pure false := by rfl)
    (hf : X.fn x = true ∨ X.env.scope.names.lookup x = some .local := by first | exact .inl rfl | exact .inr rfl | assumption) : PSD X Z N W (.Assign [.Name x pos'] e pos) (sSet i f) :=
  ps_imp (ps_set hN hi hx he hs hf) fun D σ H h => tds h fun rv c G ca H v env rs w q => fin_set rs w q
/-- a slot owns a new list -/
theorem RS.setOwn {G H : Hp} {ca : Option Addr} {σ : L2.St} {env : DL.Env} {c : C} (r : RS Y N G ca σ H env c) {i : Nat} {a : Addr} {vs : List V} {ds : List D} (ha : H a = some (.lst vs)) (w : Wts Y G ca vs ds) (gA : G a = none) (nA : ca ≠ some a) (hN : NoO N.H a)
    (hl : ds.length ≤ sizeL) (hne : ∀ (j : Nat) (xs : List D), env[j]? = some (.own xs) → σ[j]? ≠ some (some (.ref a))) : RS Y N G ca (σ.set i (some (.ref a))) H (env.set i (.own ds)) c where
  r0 := r.r0
  st := r.st
  len := by rw [List.length_set, List.length_set]; exact r.len
  val := fun j e h => by
    by_cases hj : i = j
    · subst hj
      rw [List.getElem?_set] at h
      by_cases hl : i < env.length
      · rw [if_pos rfl, if_pos hl] at h
        cases h
      · rw [if_pos rfl, if_neg hl] at h
        cases h
    · rw [List.getElem?_set_ne hj] at h
      obtain ⟨u, h1, h2⟩ := r.val j e h
      exact ⟨u, by rw [List.getElem?_set_ne hj]; exact h1, h2⟩
  own := fun j xs h => by
    by_cases hj : i = j
    · subst hj
      rw [List.getElem?_set] at h
      by_cases hlt : i < env.length
      · rw [if_pos rfl, if_pos hlt] at h
        cases h
        exact ⟨a, vs, List.getElem?_set_self (by rw [← r.len]; exact hlt), ha, w, gA, nA, hN, hl⟩
      · rw [if_pos rfl, if_neg hlt] at h
        cases h
    · rw [List.getElem?_set_ne hj] at h
      obtain ⟨b, us, h1, h2⟩ := r.own j xs h
      exact ⟨b, us, by rw [List.getElem?_set_ne hj]; exact h1, h2⟩
  sep := fun j k xs ys b h1 h2 h3 h4 => by
    by_cases hj : i = j
    · subst hj
      by_cases hk : i = k
      · exact hk
      · exfalso
        rw [List.getElem?_set_ne hk] at h2 h4
        rw [List.getElem?_set] at h1 h3
        by_cases hlt : i < env.length
        · rw [if_pos rfl, if_pos (by rw [← r.len]; exact hlt)] at h3
          cases h3
          exact hne k ys h2 h4
        · rw [if_pos rfl, if_neg hlt] at h1
          cases h1
    · rw [List.getElem?_set_ne hj] at h1 h3
      by_cases hk : i = k
      · subst hk
        exfalso
        rw [List.getElem?_set] at h2 h4
        by_cases hlt : i < env.length
        · rw [if_pos rfl, if_pos (by rw [← r.len]; exact hlt)] at h4
          cases h4
          exact hne j xs h1 h3
        · rw [if_pos rfl, if_neg hlt] at h2
          cases h2
      · rw [List.getElem?_set_ne hk] at h2 h4
        exact r.sep j k xs ys b h1 h2 h3 h4
theorem RS.notOwn {G H : Hp} {ca : Option Addr} {σ : L2.St} {env : DL.Env} {c : C} (r : RS Y N G ca σ H env c) {a : Addr} (ha : NoO H a) (j : Nat) (xs : List D) (h : env[j]? = some (.own xs)) : σ[j]? ≠ some (some (.ref a)) := fun z => by
  obtain ⟨b, us, h1, h2, _⟩ := r.own j xs h
  rw [z] at h1
  cases h1
  exact ha.no h2 notbl
theorem own_asg {D : Ends} {σ : L2.St} {H : Hp} {i : Nat} {f : DE} (h : tS Y N W (sOwn i f) D σ H) : tDO Y N W f σ H (fun x H1 => gName i x σ H1 D.nx) := by
  obtain ⟨G, ca, env, c, rs, h⟩ := h
  refine ⟨G, ca, env, c, rs, ?_⟩
  simp only [sOwn] at h
  cases e : f env c with
  | st => rw [e] at h; exact h
  | er x c1 =>
    rw [e] at h
    exact fun cls dd G' ca' H' h1 h2 h3 => h cls dd G' ca' σ H' h1 h3
  | ok rv c1 =>
    rw [e] at h
    cases rv with
    | ow j xs => exact h.elim
    | pl d =>
      cases d with
      | lst ds =>
        refine ⟨ds, rfl, fun G' ca' H' a vs s r hn ha gA nA w l => ?_⟩
        exact h G' ca' _ H' (r.setOwn ha w gA nA (rs.st.dm a hn) l (rs.notOwn hn)) s.gr
      | _ => exact h.elim
theorem psd_own {i : Nat} {x : Str} {e : Expr} {f : DE} {pos pos' : Pos} (hN : X.N.Nodup) (hi : X.N[i]? = some x) (hx : Loc X.env.scope x) (he : PDO X Z N W e f) (hs : swapsWith e (some (.Name x pos')) pos.line X.env = pure false := by rfl)
    (hf : X.fn x = true ∨ X.env.scope.names.lookup x = some .local := by first | exact .inl rfl | exact .inr rfl | assumption) : PSD X Z N W (.Assign [.Name x pos'] e pos) (sOwn i f) :=
  ps_imp (ps_set hN hi hx he hs hf) fun D σ H h => own_asg h
/-- e, as a new list that need not be owned -/
theorem td_tdo {f : DE} {σ : L2.St} {H : Hp} {Q : VK} (hf : ∀ env c c' rv, f env c = .ok rv c' → ∃ ds, rv = .pl (.lst ds)) (h : tD Y N W f σ H Q) : tDO Y N W f σ H Q := by
  obtain ⟨G, ca, env, c, r, h⟩ := h
  refine ⟨G, ca, env, c, r, ?_⟩
  cases e : f env c with
  | st => rw [e] at h; exact h.elim
  | er x c' => rw [e] at h; exact h
  | ok rv c' =>
    rw [e] at h
    obtain ⟨ds, rfl⟩ := hf _ _ _ _ e
    refine ⟨ds, rfl, fun G' ca' H' a vs s r' hn ha ga na w hl => ?_⟩
    have s2 : Stp G ca H (upd G' a (.lst vs)) ca' H' := ⟨s.le.trans (same_upd ga), fun b o h => by
      by_cases e : b = a
      · subst e; exact .inr hn
      · rw [upd_ne e] at h; exact s.nw b o h, s.dm, s.fr, s.cl, s.cn⟩
    exact h _ _ _ (.ref a) s2 (r.step s2 (r'.r0.frz ha ga na)) (Wt.lst upd_same (w.mono (same_upd ga) fun _ h => h) hl)
theorem dComp_lst {it : DI} {g : TG} {t : DT} {e : DE} {vs : List Nat} (env : DL.Env) (c c' : C) (rv : RV) (h : dComp it g t e vs env c = .ok rv c') : ∃ ds, rv = .pl (.lst ds) := by
  simp only [dComp] at h
  cases e1 : it env c with
  | st => rw [e1] at h; cases h
  | er x c1 => rw [e1] at h; cases h
  | ok items c1 =>
    rw [e1] at h
    simp only [DL.R.bind] at h
    cases e2 : dLoop g t e (wipeE env vs) items c1 with
    | st => rw [e2] at h; cases h
    | er x c2 => rw [e2] at h; cases h
    | ok ds c2 => rw [e2] at h; cases h; exact ⟨ds, rfl⟩
theorem opt1_lst {o : Option D} {c c' : C} {rv : RV} (ho : ∀ d, o = some d → ∃ ds, d = .lst ds) (h : opt1 o c = .ok rv c') : ∃ ds, rv = .pl (.lst ds) := by
  cases o with
  | none => cases h
  | some d =>
    obtain ⟨ds, rfl⟩ := ho d rfl
    cases h
    exact ⟨ds, rfl⟩
theorem dLst_lst {es : List DE} (env : DL.Env) (c c' : C) (rv : RV) (h : dLst es env c = .ok rv c') : ∃ ds, rv = .pl (.lst ds) := by
  simp only [dLst] at h
  cases e1 : dArgs es env c with
  | st => rw [e1] at h; cases h
  | er x c1 => rw [e1] at h; cases h
  | ok xs c1 =>
    rw [e1] at h
    simp only [DL.R.bind] at h
    by_cases e2 : xs.all RV.plain = true
    · rw [if_pos e2] at h; cases h; exact ⟨_, rfl⟩
    · rw [if_neg e2] at h; cases h
theorem dO2_lst {g : D → D → Option D} {a b : DE} (hg : ∀ x y d, g x y = some d → ∃ ds, d = .lst ds) (env : DL.Env) (c c' : C) (rv : RV) (h : dO2 g a b env c = .ok rv c') : ∃ ds, rv = .pl (.lst ds) := by
  simp only [dO2] at h
  cases e1 : a env c with
  | st => rw [e1] at h; cases h
  | er x c1 => rw [e1] at h; cases h
  | ok x c1 =>
    rw [e1] at h
    simp only [DL.R.bind] at h
    cases e2 : b env c1 with
    | st => rw [e2] at h; cases h
    | er x c1 => rw [e2] at h; cases h
    | ok y c2 => rw [e2] at h; exact opt1_lst (fun d q => hg _ _ _ q) h
theorem dB_lst {g : List D → Option D} {es : List DE} (hg : ∀ x d, g x = some d → ∃ ds, d = .lst ds) (env : DL.Env) (c c' : C) (rv : RV) (h : dB g es env c = .ok rv c') : ∃ ds, rv = .pl (.lst ds) := by
  simp only [dB] at h
  cases e1 : dArgs es env c with
  | st => rw [e1] at h; cases h
  | er x c1 => rw [e1] at h; cases h
  | ok xs c1 =>
    rw [e1] at h
    exact opt1_lst (fun d q => hg _ _ q) h
theorem dSl_lst {g : D → Option Int → Option Int → Option D} {e : DE} {lo hi : Option DE} (hg : ∀ x a b d, g x a b = some d → ∃ ds, d = .lst ds) (env : DL.Env) (c c' : C) (rv : RV) (h : dSl g e lo hi env c = .ok rv c') : ∃ ds, rv = .pl (.lst ds) := by
  simp only [dSl] at h
  cases e1 : e env c with
  | st => rw [e1] at h; cases h
  | er x c1 => rw [e1] at h; cases h
  | ok x c1 =>
    rw [e1] at h
    simp only [DL.R.bind] at h
    cases e2 : dPart lo env c1 with
    | st => rw [e2] at h; cases h
    | er x c1 => rw [e2] at h; cases h
    | ok y c2 =>
      rw [e2] at h
      dsimp only at h
      cases e3 : dPart hi env c2 with
      | st => rw [e3] at h; cases h
      | er x c1 => rw [e3] at h; cases h
      | ok y c2 => rw [e3] at h; exact opt1_lst (fun d q => hg _ _ _ _ q) h
theorem tlc_of {J0 : True} {it : DI} {g : TG} {t : DT} {e : DE} {vs is : List Nat} {σ : L2.St} {H : Hp} {Q : VK} (hsb : ∀ i ∈ is, i ∈ vs) (h : tDO Y N W (dComp it g t e vs) σ H Q) : tLc (tDI Y N W false it) (gD Y N is g) (tDT Y N W0 t) (tD Y N W0 e) vs σ H Q := by
  obtain ⟨G, ca, env, c, rs, h⟩ := h
  refine ⟨G, ca, env, c, rs, ?_⟩
  simp only [dComp] at h
  cases e1 : it env c with
  | st => rw [e1] at h; exact h
  | er x c1 => rw [e1] at h; exact h
  | ok items c1 =>
    rw [e1] at h
    simp only [DL.R.bind] at h
    intro G1 ca1 H1 J s1 r1 hit A hA
    refine tlc (Q := fun H' => Q (.ref A) H') (FQ := fun ds c' => ∀ G' ca' H' a vs, Stp G ca H G' ca' H' → RS Y N G' ca' σ H' env c' → NoO H a → H' a = some (.lst vs) → G' a = none → ca' ≠ some a → Wts Y G' ca' vs ds → ds.length ≤ sizeL → Q (.ref a) H') r1 hit hA hsb (fun ds c' G' ca' H' us q s2 r2 hA' gA nA w l => ?_) ?_
    · exact q G' ca' H' A us (s1.trans s2) (r1.step s2 r2) (s1.dm A (.of hA)) hA' gA nA w l
    · cases e2 : dLoop g t e (wipeE env vs) items c1 with
      | st => rw [e2] at h; exact h
      | er x c2 => rw [e2] at h; exact h
      | ok ds c2 =>
        rw [e2] at h
        obtain ⟨ds', e3, h⟩ := h
        cases e3
        exact h
section
variable {i : Nat} {y : Str} {py : Pos} {elt tg iter : Expr} {ifs : List Expr} {scope : Scope} {own : List (Str × Nat)} {pos spos : Pos} {it : DI} {g : TG} {t : DT} {e : DE} {is : List Nat}
theorem psd_ownLc (hc : X.calm = true) (hN : X.N.Nodup) (hy : X.N[i]? = some y) (hyl : X.env.scope.names.lookup y = some .local)
    (hsw : swapsWith (.ListComp elt [⟨tg, iter, ifs, 0⟩] scope pos) (some (.Name y py)) spos.line X.env = pure true) (hi : PDI X Z N W false tg iter it) (ok : BlkOk X.N X.env.scope scope own)
    (hg : ∀ (s : Shared) (H : Hp) (C : Addr) (cl : List (Str × Addr)) (fp : List Addr), PGD (X.blk s H scope (compEnvC scope cl C X.env) fp) Z N is tg g)
    (ht : ∀ (s : Shared) (H : Hp) (C : Addr) (cl : List (Str × Addr)) (fp : List Addr), PTs (X.blk s H scope (compEnvC scope cl C X.env) fp) ifs (tDT (yOf X Z) N W0 t))
    (he : ∀ (s : Shared) (H : Hp) (C : Addr) (cl : List (Str × Addr)) (fp : List Addr), PD (X.blk s H scope (compEnvC scope cl C X.env) fp) Z N W0 elt e)
    (hsb : ∀ i ∈ is, i ∈ own.map (·.2)) (hs : ∀ x, foldedSetIterable iter X.env x = pure x := by intro _; rfl) :
    PSD X Z N W (.Assign [.Name y py] (.ListComp elt [⟨tg, iter, ifs, 0⟩] scope pos) spos) (sOwn i (dComp it g t e (own.map (·.2)))) :=
  ps_imp (ps_setLc (g := gD (yOf X Z) N is g) (te := tD (yOf X Z) N W0 e) hc hN hy hyl hsw hi ok hg ht he hs) fun D σ H h => tlc_of (J0 := trivial) hsb (own_asg h)
theorem psd_setLc (hc : X.calm = true) (hN : X.N.Nodup) (hy : X.N[i]? = some y) (hyl : X.env.scope.names.lookup y = some .local)
    (hsw : swapsWith (.ListComp elt [⟨tg, iter, ifs, 0⟩] scope pos) (some (.Name y py)) spos.line X.env = pure true) (hi : PDI X Z N W false tg iter it) (ok : BlkOk X.N X.env.scope scope own)
    (hg : ∀ (s : Shared) (H : Hp) (C : Addr) (cl : List (Str × Addr)) (fp : List Addr), PGD (X.blk s H scope (compEnvC scope cl C X.env) fp) Z N is tg g)
    (ht : ∀ (s : Shared) (H : Hp) (C : Addr) (cl : List (Str × Addr)) (fp : List Addr), PTs (X.blk s H scope (compEnvC scope cl C X.env) fp) ifs (tDT (yOf X Z) N W0 t))
    (he : ∀ (s : Shared) (H : Hp) (C : Addr) (cl : List (Str × Addr)) (fp : List Addr), PD (X.blk s H scope (compEnvC scope cl C X.env) fp) Z N W0 elt e)
    (hsb : ∀ i ∈ is, i ∈ own.map (·.2)) (hs : ∀ x, foldedSetIterable iter X.env x = pure x := by intro _; rfl) :
    PSD X Z N W (.Assign [.Name y py] (.ListComp elt [⟨tg, iter, ifs, 0⟩] scope pos) spos) (sSet i (dComp it g t e (own.map (·.2)))) :=
  ps_imp (ps_setLc (g := gD (yOf X Z) N is g) (te := tD (yOf X Z) N W0 e) hc hN hy hyl hsw hi ok hg ht he hs) fun D σ H h => tlc_of (J0 := trivial) hsb (td_tdo dComp_lst (tds h fun rv c G ca H v env rs w q => fin_set rs w q))
end
theorem psd_tgt {tg e : Expr} {f : DE} {g : TG} {is : List Nat} {pos : Pos} (he : PD X Z N W e f) (hg : PGD X Z N is tg g) (hs : swapsWithSole [tg] e pos.line X.env = pure false := by rfl) (hw : swappedStores [tg] e X.env = pure none := by rfl)
    (h1 : (assignEach [tg] X.env).map (·.2) = [assign tg X.env] := by rfl) : PSD X Z N W (.Assign [tg] e pos) (sTgt g f) :=
  ps_imp (ps_asg he hg hs hw h1) fun D σ H h => tds h fun rv c G ca H v env rs w q => by
    cases rv with
    | ow j xs => exact q.elim
    | pl d =>
      dsimp only at q
      cases e1 : g d env with
      | none => rw [e1] at q; exact q.elim
      | some env' =>
        rw [e1] at q
        exact ⟨G, ca, env, c, d, env', rs, w, e1, fun σ' r' _ => q G ca σ' H r' .refl⟩
theorem psd_expr {e : Expr} {f : DE} {pos : Pos} (he : PD X Z N W e f) (hs : swapsWith e none pos.line X.env = pure false := by rfl) : PSD X Z N W (.Expr e pos) (sExpr f) :=
  ps_imp (ps_expr he hs) fun D σ H h => tds h fun rv c G ca H v env rs w q => q G ca σ H rs .refl
theorem psd_ret {e : Expr} {f : DE} {pos : Pos} (he : PD X Z N W e f) : PSD X Z N W (.Return (some e) pos) (sRet f) :=
  ps_imp (ps_ret he) fun D σ H h => tds h fun rv c G ca H v env rs w q => by
    cases rv with
    | pl d => exact q G ca H v rs.st rs.r0 w
    | ow j xs =>
      obtain ⟨w1, w2⟩ := w
      obtain ⟨G', u, r', e1, w', _⟩ := rs.frz w1
      rw [w2] at e1
      cases e1
      exact q G' ca H _ r'.st r'.r0 w'
theorem psd_retN {pos : Pos} : PSD X Z N W (.Return none pos) sRetN := ps_imp ps_retN fun D σ H ⟨G, ca, env, c, rs, q⟩ => q G ca H .non rs.st rs.r0 .non
theorem psd_pass {pos : Pos} : PSD X Z N W (.Pass pos) sPass := ps_imp ps_pass fun D σ H ⟨G, ca, env, c, rs, q⟩ => q G ca σ H rs .refl
theorem psd_brk {pos : Pos} : PSD X Z N W (.Break pos) sBrk := ps_imp ps_break fun D σ H ⟨G, ca, env, c, rs, q⟩ => q G ca σ H rs .refl
theorem psd_cnt {pos : Pos} : PSD X Z N W (.Continue pos) sCnt := ps_imp ps_continue fun D σ H ⟨G, ca, env, c, rs, q⟩ => q G ca σ H rs .refl
theorem pssd_nil : PSsD X Z N W [] sNil := pss_imp pss_nil fun D σ H ⟨G, ca, env, c, rs, q⟩ => q G ca σ H rs .refl
theorem pssd_cons {s : Stmt} {ss : List Stmt} {f g : DS} (h1 : PSD X Z N W s f) (h2 : PSsD X Z N W ss g) : PSsD X Z N W (s :: ss) (sSeq f g) :=
  pss_imp (pss_cons h1 h2) fun D σ H ⟨G, ca, env, c, rs, q⟩ => by
    refine ⟨G, ca, env, c, rs, ?_⟩
    simp only [sSeq] at q
    cases e : f env c with
    | nx env1 c1 =>
      rw [e] at q
      exact fun G' ca' σ' H' r' g => ⟨G', ca', env1, c1, r', q.up g⟩
    | _ => rw [e] at q; exact q
theorem pssd_one {s : Stmt} {f : DS} (h1 : PSD X Z N W s f) : PSsD X Z N W [s] f := pss_one h1
theorem psd_if {t : Expr} {a b : List Stmt} {ft : DT} {f g : DS} {pos : Pos} (ht : PDT X Z N W t ft) (ha : PSsD X Z N W a f) (hb : PSsD X Z N W b g) : PSD X Z N W (.If t a b pos) (sIf ft f g) :=
  ps_imp (ps_if ht ha hb) fun D σ H ⟨G, ca, env, c, rs, q⟩ => by
    refine ⟨G, ca, env, c, rs, ?_⟩
    simp only [sIf] at q
    cases e : ft env c with
    | st => rw [e] at q; exact q
    | er x c1 =>
      rw [e] at q
      exact fun cls dd G' ca' H' h1 h2 h3 => q cls dd G' ca' σ H' h1 h3
    | ok k c1 =>
      rw [e] at q
      intro G1 ca1 H1 s1 r1
      cases k with
      | true => exact iteT ⟨G1, ca1, env, c1, r1, q.up s1.gr⟩
      | false => exact iteF ⟨G1, ca1, env, c1, r1, q.up s1.gr⟩


/-! ### loops -/
/-- the ends of a turn -/
abbrev endsT (D : Ends) (Nx : L2.St → Hp → Prop) : Ends := { D with nx := Nx, ct := Nx, bk := D.nx }
theorem psd_for {tg iter : Expr} {body : List Stmt} {it : DI} {g : TG} {f : DS} {is : List Nat} {pos : Pos} (hp : PassesOwn (model X.prog X.w) X.A X.env X.xe) (hc : X.calm = true) (hi : PDI X Z N W true tg iter it) (hg : PGD X Z N is tg g) (hb : PSsD X Z N W body f)
    (hs : ∀ x, foldedSetIterable iter X.env x = pure x := by intro _; rfl) : PSD X Z N W (.For tg iter body [] pos) (sFor it g f) :=
  ps_imp (ps_for hp hc hi hg hb hs) fun D σ H ⟨G, ca, env, c, rs, q⟩ => by
    refine ⟨G, ca, env, c, rs, ?_⟩
    simp only [sFor] at q
    cases e : it env c with
    | st => rw [e] at q; exact q
    | er x c1 =>
      rw [e] at q
      exact fun cls dd G' ca' H' h1 h2 h3 => q cls dd G' ca' σ H' h1 h3
    | ok items c1 =>
      rw [e] at q
      intro G1 ca1 H1 J s1 r1 hit
      have q : Fin (yOf X Z) N W D G1 ca1 (sForL g f items env c1) := Fin.up q s1.gr
      refine ⟨fun i m σ H => m = items.length - i ∧ i ≤ items.length ∧ ∃ G ca env c, RS (yOf X Z) N G ca σ H env c ∧ Gr G1 ca1 G ca ∧ Fin (yOf X Z) N W D G ca (sForL g f (items.drop i) env c), ⟨items.length, by simp, Nat.zero_le _, G1, ca1, env, c1, r1, .refl, by simpa using q⟩, ?_⟩
      rintro i m σ H ⟨rfl, hi, G, ca, env, c, rs, gr, q⟩
      obtain ⟨h1, h2⟩ := hit.2 i G ca H c gr rs.r0
      by_cases hlt : i < items.length
      · obtain ⟨hgo, hy⟩ := h1 items[i] (List.getElem?_eq_getElem hlt)
        rw [List.drop_eq_getElem_cons hlt] at q
        simp only [sForL] at q
        refine .inr ⟨hgo, _, fun σ' H' hn => ⟨items.length - (i + 1), by omega, hn⟩, fun x H' hyl => ?_⟩
        obtain ⟨G', sy, ry, wx⟩ := hy x H' hyl
        cases e2 : g items[i] env with
        | none => rw [e2] at q; exact q.elim
        | some env2 =>
          rw [e2] at q
          dsimp only at q
          refine ⟨G', ca, env, c, items[i], env2, rs.step sy ry, wx, e2, fun σ2 r2 _ => ⟨G', ca, env2, c, r2, ?_⟩⟩
          have gr2 := gr.trans sy.gr
          have q : Fin (yOf X Z) N W D G' ca _ := Fin.up q sy.gr
          cases e3 : f env2 c with
          | nx env3 c3 =>
            rw [e3] at q
            exact fun G3 ca3 σ3 H3 r3 g3 => ⟨rfl, hlt, G3, ca3, env3, c3, r3, gr2.trans g3, Fin.up q g3⟩
          | ct env3 c3 =>
            rw [e3] at q
            exact fun G3 ca3 σ3 H3 r3 g3 => ⟨rfl, hlt, G3, ca3, env3, c3, r3, gr2.trans g3, Fin.up q g3⟩
          | bk env3 c3 => rw [e3] at q; exact q
          | rt d c3 => rw [e3] at q; exact q
          | er x env3 c3 => rw [e3] at q; exact q
          | st => rw [e3] at q; exact q
      · refine .inl ⟨h2 (by omega), ?_⟩
        have e1 : i = items.length := by omega
        rw [e1, List.drop_length] at q
        exact q G ca σ H rs .refl
theorem psd_while {t : Expr} {body : List Stmt} {ft : DT} {f : DS} {pos : Pos} {n : Nat} (hp : PassesOwn (model X.prog X.w) X.A X.env X.xe) (ht : PDT X Z N W t ft) (hb : PSsD X Z N W body f) : PSD X Z N W (.While t body [] pos) (sWhile n ft f) :=
  ps_imp (ps_while hp ht hb) fun D σ H ⟨G, ca, env, c, rs, q⟩ => by
    refine ⟨fun m σ H => ∃ G ca env c, RS (yOf X Z) N G ca σ H env c ∧ Fin (yOf X Z) N W D G ca (sWhL ft f m env c), ⟨n, G, ca, env, c, rs, q⟩, ?_⟩
    rintro m σ H ⟨G, ca, env, c, rs, q⟩
    refine ⟨G, ca, env, c, rs, ?_⟩
    cases m with
    | zero => exact q.elim
    | succ m =>
      simp only [sWhL] at q
      cases e : ft env c with
      | st => rw [e] at q; exact q
      | er x c1 =>
        rw [e] at q
        exact fun cls dd G' ca' H' h1 h2 h3 => q cls dd G' ca' σ H' h1 h3
      | ok k c1 =>
        rw [e] at q
        intro G1 ca1 H1 s1 r1
        have q : Fin (yOf X Z) N W D G1 ca1 _ := Fin.up q s1.gr
        cases k with
        | false => exact iteF (q G1 ca1 σ H1 r1 .refl)
        | true =>
          refine iteT ⟨_, fun σ' H' hn => ⟨m, Nat.lt_succ_self _, hn⟩, G1, ca1, env, c1, r1, ?_⟩
          simp only [F.of, if_true] at q
          cases e3 : f env c1 with
          | nx env3 c3 =>
            rw [e3] at q
            exact fun G3 ca3 σ3 H3 r3 g3 => ⟨G3, ca3, env3, c3, r3, Fin.up q g3⟩
          | ct env3 c3 =>
            rw [e3] at q
            exact fun G3 ca3 σ3 H3 r3 g3 => ⟨G3, ca3, env3, c3, r3, Fin.up q g3⟩
          | bk env3 c3 => rw [e3] at q; exact q
          | rt d c3 => rw [e3] at q; exact q
          | er x env3 c3 => rw [e3] at q; exact q
          | st => rw [e3] at q; exact q
/-! ### an error raised -/
/-- what the top tells of an error's class without an own __init__ -/
structure Xc (K : PySem.W.Frag) (mg : Str → Option Value) (x : Str) (C : Addr) : Prop where
  gm : mg x = some (.ref C)
  kp : PySem.W.keepIn K (.ref C) = true
  ex : PySem.W.excIn K C [.type "ValueError", .type "Exception", .type "BaseException", .type "object"] "ValueError.__new__" = true
  sb : PySem.W.subIn K (.ref C) (.type "BaseException") = some true
  ty : PySem.W.typeIn K (.ref C) = some (.type "type")
theorem psd_raise {x m : Str} {C : Addr} {j k : Nat} {p p2 p3 pos : Pos} (hc : X.calm = true) (tk : L2N.Takes X W) (E : Xc X.K X.mg x C) (hg : Gl X x) (hk : Z.xnm k = x) (hdb : (x == ("__debug__" : Str)) = false) :
    PSD X Z N W (.Raise (some (.Call (.Name x p) [.Constant (.str m) j p2] [] p3)) none pos) (sRaise k) :=
  ps_imp (L2N.ps_raise hc tk (L2N.pmk_own PySem.F.excBase_ValueError E.ex E.gm E.kp (raises_own E.sb E.ty) hg hdb)) fun D σ H ⟨G, ca, env, c, rs, q⟩ =>
    q (.ref C) none G ca σ H ⟨C, by show X.mg (Z.xnm k) = _; rw [hk]; exact E.gm, rfl, rfl⟩ rs
end
end DL

set_option Elab.async false
set_option linter.all false
set_option maxRecDepth 100000
set_option maxHeartbeats 4000000
set_option autoImplicit false
namespace DL
open PySem PySem.Spec PyProof.Rows L2
section
variable {X : Cx} {Z : Zp} {N : En} {W : WX} {Y : Yp}
/-! ### one's own lists changed -/
theorem RS.put {G H : Hp} {ca : Option Addr} {σ : L2.St} {env : DL.Env} {c : C} (r : RS Y N G ca σ H env c) {i : Nat} {a : Addr} {us vs : List V} {xs ds : List D} (e : env[i]? = some (.own xs)) (e2 : σ[i]? = some (some (.ref a))) (ha : H a = some (.lst us)) (w : Wts Y G ca vs ds) (hl : ds.length ≤ sizeL) :
    RS Y N G ca σ (upd H a (.lst vs)) (env.set i (.own ds)) c := by
  obtain ⟨b, us', h1, h2, h3, h4, h5, h6, h7⟩ := r.own i xs e
  rw [e2] at h1
  cases h1
  have hlt : i < env.length := (List.getElem?_eq_some_iff.mp e).1
  refine ⟨r.r0.mod h2 h4 h5, r.st.mod h6, by rw [List.length_set]; exact r.len, fun j d h => ?_, fun j ys h => ?_, fun j k ys zs b q1 q2 q3 q4 => ?_⟩
  · by_cases hj : i = j
    · subst hj
      rw [List.getElem?_set_self hlt] at h
      cases h
    · rw [List.getElem?_set_ne hj] at h
      exact r.val j d h
  · by_cases hj : i = j
    · subst hj
      rw [List.getElem?_set_self hlt] at h
      cases h
      exact ⟨a, vs, e2, upd_same, w, h4, h5, h6, hl⟩
    · rw [List.getElem?_set_ne hj] at h
      obtain ⟨b, us, q1, q2, q3⟩ := r.own j ys h
      refine ⟨b, us, q1, ?_, q3⟩
      rw [upd_ne fun z => hj (r.sep i j xs ys a e h e2 (by rw [← z]; exact q1))]
      exact q2
  · have back : ∀ (j : Nat) (ys : List D), (env.set i (.own ds))[j]? = some (.own ys) → ∃ zs, env[j]? = some (.own zs) := fun j ys h => by
      by_cases hj : i = j
      · subst hj; exact ⟨xs, e⟩
      · rw [List.getElem?_set_ne hj] at h; exact ⟨ys, h⟩
    obtain ⟨_, b1⟩ := back j ys q1
    obtain ⟨_, b2⟩ := back k zs q2
    exact r.sep j k _ _ b b1 b2 q3 q4
theorem psd_app {i : Nat} {x : Str} {e : Expr} {f : DE} {p apos cpos pos : Pos} (hN : X.N[i]? = some x) (hv : Vis X.env.scope x) (hd : (x == ("__debug__" : Str)) = false) (hcd : (x == ("__classdict__" : Str)) = false) (ha : PDA X Z N W [e] (dArgs [f]))
    (hbase : attributeBase (.Name x p) "append" X.env (eval (.Name x p) X.env) = eval (.Name x p) X.env := by rfl)
    (hfew : ((backTo cpos (starEach [e] X.env)).all (fun x => !x.1) && (backToKw cpos (keywordEach [] X.env)).all (fun x => x.1.isSome)
      && decide (([e]).length + ([] : List Keyword).length + (if ([] : List Keyword).isEmpty then 0 else 1) < 30)) = true := by rfl)
    (hline : (apos.endLine == cpos.line) = true := by rfl) (hs : starEach [e] X.env = (false, eval e X.env) :: starEach [] X.env := by rfl) (hplain : (backTo cpos (starEach [] X.env)).any (·.1) = false := by rfl)
    (hsw : swapsWith (.Call (.Attribute (.Name x p) "append" apos) [e] [] cpos) none pos.line X.env = pure false := by rfl) :
    PSD X Z N W (.Expr (.Call (.Attribute (.Name x p) "append" apos) [e] [] cpos) pos) (sApp i f) :=
  ps_imp (ps_expr (pe_bm PySem.F.plainAttrs_list PySem.F.slot_list_append PySem.F.type_list_append mt_append (pe_var hN hv hd hcd) ha hbase hfew hline hs hplain) hsw) fun D σ H ⟨G, ca, env, c, rs, q⟩ => by
    simp only [sApp] at q
    cases e1 : env[i]? with
    | none => rw [e1] at q; exact q.elim
    | some sl =>
      rw [e1] at q
      cases sl with
      | own xs =>
        dsimp only at q
        obtain ⟨a, us, e2, e3, _⟩ := rs.own i xs e1
        refine ⟨.ref a, e2, .inl ⟨rfl, us, sql e3⟩, G, ca, env, c, rs, ?_⟩
        simp only [dArgs]
        cases e4 : f env c with
        | st => rw [e4] at q; exact q
        | er z c1 => rw [e4] at q; exact fun cls dd G' ca' H' h1 h2 h3 => q cls dd G' ca' σ H' h1 h3
        | ok rv c1 =>
          rw [e4] at q
          intro G1 ca1 H1 vs s1 r1 w1
          obtain ⟨v, rfl, w⟩ := Paired.one w1
          have q : Fin (yOf X Z) N W D G1 ca1 (kApp i env xs rv c1) := Fin.up q s1.gr
          cases rv with
          | ow j ys => exact q.elim
          | pl d =>
            simp only [kApp] at q
            obtain ⟨b, us2, f1, f2, f3, f4, f5, f6, f7⟩ := r1.own i xs e1
            rw [e2] at f1
            cases f1
            by_cases hz : xs.length < sizeL
            · rw [if_pos hz] at q
              refine ⟨a, us2, v, rfl, rfl, f2, by rw [f3.length]; exact hz, ?_⟩
              exact q G1 ca1 σ _ (r1.put e1 e2 f2 (f3.append (.cons w .nil)) (by rw [List.length_append, List.length_singleton]; exact hz)) .refl
            · rw [if_neg hz] at q
              exact q.elim
      | _ => exact q.elim
theorem psd_put {i : Nat} {x : Str} {k e : Expr} {fk f : DE} {p tpos pos : Pos} (hN : X.N[i]? = some x) (hv : Vis X.env.scope x) (hd : (x == ("__debug__" : Str)) = false) (hcd : (x == ("__classdict__" : Str)) = false) (hk : PD X Z N W k fk) (he : PD X Z N W e f)
    (hh : ∀ v, assign (.Subscript (.Name x p) k tpos) X.env v = (do
      let ov ← holding [v] (eval (.Name x p) X.env)
      let iv ← holding [v, ov] (eval k X.env)
      standAt tpos
      holding [v, ov, iv] (setItem ov iv v)
      release [v, ov, iv] []) := by intro _; rfl)
    (hs : swapsWithSole [.Subscript (.Name x p) k tpos] e pos.line X.env = pure false := by rfl) (hw : swappedStores [.Subscript (.Name x p) k tpos] e X.env = pure none := by rfl)
    (h1 : (assignEach [.Subscript (.Name x p) k tpos] X.env).map (·.2) = [assign (.Subscript (.Name x p) k tpos) X.env] := by rfl) :
    PSD X Z N W (.Assign [.Subscript (.Name x p) k tpos] e pos) (sPut i fk f) :=
  ps_imp (ps_asg he (pg_sub (pe_var hN hv hd hcd) hk set_list hh) hs hw h1) fun D σ H ⟨G, ca, env, c, rs, q⟩ => by
    refine ⟨G, ca, env, c, rs, ?_⟩
    simp only [sPut] at q
    cases e1 : env[i]? with
    | none => rw [e1] at q; exact q.elim
    | some sl =>
      rw [e1] at q
      cases sl with
      | own xs =>
        dsimp only at q
        cases e4 : f env c with
        | st => rw [e4] at q; exact q
        | er z c1 => rw [e4] at q; exact fun cls dd G' ca' H' h1 h2 h3 => q cls dd G' ca' σ H' h1 h3
        | ok rv c1 =>
          rw [e4] at q
          intro G1 ca1 H1 v s1 r1 w1
          have q : Fin (yOf X Z) N W D G1 ca1 (F.of (fk env c1) env fun j c => kPut i env xs rv j c) := Fin.up q s1.gr
          obtain ⟨a, us, e2, e3, _⟩ := r1.own i xs e1
          refine ⟨.ref a, e2, G1, ca1, env, c1, r1, ?_⟩
          cases e5 : fk env c1 with
          | st => rw [e5] at q; exact q
          | er z c1 => rw [e5] at q; exact fun cls dd G' ca' H' h1 h2 h3 => q cls dd G' ca' σ H' h1 h3
          | ok rj c2 =>
            rw [e5] at q
            intro G2 ca2 H2 vj s2 r2 w2
            have q : Fin (yOf X Z) N W D G2 ca2 (kPut i env xs rv rj c2) := Fin.up q s2.gr
            cases rv with
            | ow j ys => exact q.elim
            | pl d =>
              simp only [kPut] at q
              cases e6 : rj.d with
              | int j =>
                rw [e6] at q
                dsimp only at q
                cases e7 : ixD xs.length j with
                | none => rw [e7] at q; exact q.elim
                | some m =>
                  rw [e7] at q
                  obtain ⟨b, us2, f1, f2, f3, f4, f5, f6, f7⟩ := r2.own i xs e1
                  rw [e2] at f1
                  cases f1
                  refine ⟨a, us2, j, m, rfl, atom_int w2 e6, f2, ?_, ?_⟩
                  · rw [f3.length]; exact e7
                  · exact q G2 ca2 σ _ (r2.put e1 e2 f2 (f3.set (Wt.mono s2.le s2.cl w1) m) (by rw [List.length_set]; exact f7)) .refl
              | _ => rw [e6] at q; exact q.elim
      | _ => exact q.elim

/-! ### a def's promise, its calls -/
def spD (Y : Yp) (n : Nat) (sem : DL.Sem) : Sp := fun vs H Q E => vs.length = n ∧ ∃ G ca c ds, RS0 Y G ca H c ∧ Wts Y G ca vs ds ∧ (match sem ds c with
  | .ok d c' => ∀ G' ca' H' v, Stp G ca H G' ca' H' → RS0 Y G' ca' H' c' → Wt Y G' ca' v d → Q v H'
  | .er x c' => ∀ cls dd G' ca' H', IsX Y x cls dd H' → Stp G ca H G' ca' H' → RS0 Y G' ca' H' c' → E cls dd H'
  | .st => False)
/-- the def of the name x keeps it, at level k -/
structure FnD (P : Program) (w : World) (K : PySem.W.Frag) (mg : Str → Option Value) (base : Heap) (Z : Zp) (k : Nat) (x : Str) (n : Nat) (sem : DL.Sem) : Prop where
  ex : ∃ (f : Addr) (fd : FuncData) (ps : List Str), mg x = some (.ref f) ∧ PySem.W.keepIn K (.ref f) = true ∧ Binds K fd ps [] ∧ ps.length = n ∧ FnOk P w K mg base (L2N.CX P w) k f fd ps (spD ⟨K, mg, Z⟩ n sem)
open Classical in
/-- all lists of one's own, as if they were not to change -/
noncomputable def ownG (G H : Hp) (σ : L2.St) (env : DL.Env) : Hp := fun b => if (∃ (i : Nat) (xs : List D), env[i]? = some (.own xs) ∧ σ[i]? = some (some (.ref b))) then H b else G b
open Classical in
noncomputable def cutG (G : Hp) (σ : L2.St) (env : DL.Env) : Hp := fun b => if (∃ (i : Nat) (xs : List D), env[i]? = some (.own xs) ∧ σ[i]? = some (some (.ref b))) then none else G b
theorem RS.ownG {G H : Hp} {ca : Option Addr} {σ : L2.St} {env : DL.Env} {c : C} (r : RS Y N G ca σ H env c) : RS0 Y (ownG G H σ env) ca H c ∧ Same G (ownG G H σ env) := by
  refine ⟨⟨fun b o h => ?_, r.r0.tab, fun a h => ⟨(r.r0.cup a h).1, ?_⟩, fun b ps h => ?_⟩, fun b o h => ?_⟩
  · unfold DL.ownG at h
    split at h
    · exact h
    · exact r.r0.le b o h
  · have ne : ¬ ∃ (i : Nat) (xs : List D), env[i]? = some (.own xs) ∧ σ[i]? = some (some (.ref a)) := fun ⟨i, xs, e1, e2⟩ => by
      obtain ⟨b, us, q1, q2, q3, q4, q5, _⟩ := r.own i xs e1
      rw [e2] at q1
      cases q1
      exact q5 h
    unfold DL.ownG
    rw [if_neg ne]
    exact (r.r0.cup a h).2
  · unfold DL.ownG at h
    split at h
    · rename_i z
      obtain ⟨i, xs, e1, e2⟩ := z
      obtain ⟨a, us, q1, q2, _⟩ := r.own i xs e1
      rw [e2] at q1
      cases q1
      rw [q2] at h
      cases h
    · exact r.r0.nt b ps h
  · have ne : ¬ ∃ (i : Nat) (xs : List D), env[i]? = some (.own xs) ∧ σ[i]? = some (some (.ref b)) := fun ⟨i, xs, e1, e2⟩ => by
      obtain ⟨a, us, q1, q2, q3, q4, q5, _⟩ := r.own i xs e1
      rw [e2] at q1
      cases q1
      rw [q4] at h
      cases h
    unfold DL.ownG
    rw [if_neg ne]
    exact h
theorem WtRs.all {G H : Hp} {ca : Option Addr} {σ : L2.St} {env : DL.Env} {c : C} (r : RS Y N G ca σ H env c) : ∀ {vs : List V} {rvs : List RV}, WtRs Y G ca σ env vs rvs → Wts Y (DL.ownG G H σ env) ca vs (rvs.map RV.d)
  | _, _, .nil => .nil
  | _, rv :: _, .cons h t => by
    refine .cons ?_ (WtRs.all r t)
    cases rv with
    | pl d => exact Wt.mono r.ownG.2 (fun _ h => h) h
    | ow i xs =>
      obtain ⟨w1, w2⟩ := h
      obtain ⟨a, us, q1, q2, q3, q4, q5, q6, q7⟩ := r.own i xs w1
      rw [w2] at q1
      cases q1
      refine .lst ?_ (q3.mono r.ownG.2 fun _ h => h) q7
      unfold DL.ownG
      rw [if_pos ⟨i, xs, w1, w2⟩]
      exact q2
mutual
theorem Wt.cut {G : Hp} {ca : Option Addr} {σ : L2.St} {env : DL.Env} (hn : ∀ (i : Nat) (xs : List D) (b : Addr), env[i]? = some (.own xs) → σ[i]? = some (some (.ref b)) → ∀ vs, ¬ Rd G b (.tup vs)) : ∀ {v : V} {d : D}, Wt Y G ca v d → d.noL = true → Wt Y (cutG G σ env) ca v d
  | _, _, .non, _ => .non
  | _, _, .bl b, _ => .bl b
  | _, _, .int i, _ => .int i
  | _, _, .str x, _ => .str x
  | _, _, .exc h, _ => .exc h
  | _, _, .tup (a := a) h w l, e => by
    refine .tup ?_ (Wts.cut hn w (by simpa only [D.noL] using e)) l
    rcases h with h | h
    · refine .inl ?_
      have ne : ¬ ∃ (i : Nat) (xs : List D), env[i]? = some (.own xs) ∧ σ[i]? = some (some (.ref a)) := fun ⟨i, xs, e1, e2⟩ => hn i xs a e1 e2 _ h
      have ea : cutG G σ env a = G a := if_neg ne
      rcases h with h | ⟨o, h⟩
      · exact .inl (by rw [ea]; exact h)
      · exact .inr ⟨o, by rw [ea]; exact h⟩
    · exact .inr h
  | _, _, .lst _ _ _, e => by simp only [D.noL] at e; cases e
  | _, _, .cup h, _ => .cup h
  | _, _, .fn h, _ => .fn h
  | _, _, .ty k, _ => .ty k
theorem Wts.cut {G : Hp} {ca : Option Addr} {σ : L2.St} {env : DL.Env} (hn : ∀ (i : Nat) (xs : List D) (b : Addr), env[i]? = some (.own xs) → σ[i]? = some (some (.ref b)) → ∀ vs, ¬ Rd G b (.tup vs)) : ∀ {vs : List V} {ds : List D}, Wts Y G ca vs ds → D.noLs ds = true → Wts Y (cutG G σ env) ca vs ds
  | _, _, .nil, _ => .nil
  | _, _, .cons h t, e => by
    simp only [D.noLs, Bool.and_eq_true] at e
    exact .cons (Wt.cut hn h e.1) (Wts.cut hn t e.2)
end
theorem tda_mono {fs : DA} {σ : L2.St} {H : Hp} {Q Q' : List V → Hp → Prop} (h : tDA Y N W fs σ H Q) (i : ∀ vs H, Q vs H → Q' vs H) : tDA Y N W fs σ H Q' := by
  obtain ⟨G, ca, env, c, rs, h⟩ := h
  refine ⟨G, ca, env, c, rs, ?_⟩
  cases e : fs env c with
  | st => rw [e] at h; exact h
  | er x c1 => rw [e] at h; exact h
  | ok xs c1 =>
    rw [e] at h
    exact fun G' ca' H' vs s r w => i _ _ (h G' ca' H' vs s r w)
theorem td_call {n : Nat} {sem : DL.Sem} {fs : List DE} {σ : L2.St} {H : Hp} {Q : VK} (hn : fs.length = n) (h : tD Y N W (dCall sem fs) σ H Q) : tDA Y N W (dArgs fs) σ H fun vs H1 => spD Y n sem vs H1 Q (fun cls dd H2 => W cls dd σ H2) := by
  obtain ⟨G, ca, env, c, rs, h⟩ := h
  refine tda (Post := fun G ca H env c rv c' => ∀ G' ca' H' v, Stp G ca H G' ca' H' → RS Y N G' ca' σ H' env c' → WtR Y G' ca' σ env v rv → Q v H') rs h fun xs c1 G1 ca1 H1 vs el s1 r1 w1 h => ?_
  refine ⟨by rw [Paired.length w1, el, hn], ?_⟩
  by_cases hp : xs.all RV.plain = true
  · refine ⟨G1, ca1, c1, xs.map RV.d, r1.r0, plain_wts w1 hp, ?_⟩
    cases e : sem (xs.map RV.d) c1 with
    | st => rw [e] at h; exact h
    | er x c2 =>
      rw [e] at h
      exact fun cls dd G' ca' H' h1 s2 r2 => h cls dd G' ca' H' h1 (s1.trans s2) (r1.step s2 r2)
    | ok d c2 =>
      rw [e] at h
      simp only [DL.R.bind, hp, Bool.true_or, if_true] at h
      exact fun G' ca' H' v s2 r2 w => h G' ca' H' v (s1.trans s2) (r1.step s2 r2) w
  · obtain ⟨o1, o2⟩ := r1.ownG
    refine ⟨DL.ownG G1 H1 σ env, ca1, c1, xs.map RV.d, o1, WtRs.all r1 w1, ?_⟩
    -- behind the call: the own lists stand as they stood
    have back : ∀ {G' H' : Hp} {ca' : Option Addr} {c' : C}, Stp (DL.ownG G1 H1 σ env) ca1 H1 G' ca' H' → RS0 Y G' ca' H' c' → Stp G1 ca1 H1 (cutG G' σ env) ca' H' ∧ RS0 Y (cutG G' σ env) ca' H' c' := fun {G' H' ca' c'} s2 r2 => by
      refine ⟨⟨fun b o h => ?_, fun b o h => ?_, s2.dm, s2.fr, s2.cl, s2.cn⟩, ⟨fun b o h => ?_, r2.tab, fun a h => ⟨(r2.cup a h).1, ?_⟩, fun b ps h => ?_⟩⟩
      · have ne : ¬ ∃ (i : Nat) (xs : List D), env[i]? = some (.own xs) ∧ σ[i]? = some (some (.ref b)) := fun ⟨i, xs, e1, e2⟩ => by
          obtain ⟨a, us, q1, q2, q3, q4, _⟩ := r1.own i xs e1
          rw [e2] at q1
          cases q1
          rw [q4] at h
          cases h
        unfold cutG
        rw [if_neg ne]
        exact s2.le b o (o2 b o h)
      · unfold cutG at h
        split at h
        · cases h
        · rename_i hno
          rcases s2.nw b o h with z | z
          · unfold DL.ownG at z
            rw [if_neg hno] at z
            exact .inl z
          · exact .inr z
      · unfold cutG at h
        split at h
        · cases h
        · exact r2.le b o h
      · unfold cutG
        split
        · rfl
        · exact (r2.cup a h).2
      · unfold cutG at h
        split at h
        · cases h
        · exact r2.nt b ps h
    cases e : sem (xs.map RV.d) c1 with
    | st => rw [e] at h; exact h
    | er x c2 =>
      rw [e] at h
      intro cls dd G' ca' H' h1 s2 r2
      obtain ⟨s3, r3⟩ := back s2 r2
      exact h cls dd _ ca' H' h1 (s1.trans s3) (r1.step s3 r3)
    | ok d c2 =>
      rw [e] at h
      simp only [DL.R.bind] at h
      by_cases hd : d.noL = true
      · simp only [hd, Bool.or_true, if_true] at h
        intro G' ca' H' v s2 r2 w
        obtain ⟨s3, r3⟩ := back s2 r2
        refine h _ ca' H' v (s1.trans s3) (r1.step s3 r3) (Wt.cut (fun i ys b e1 e2 us z => ?_) w hd)
        obtain ⟨a, us', q1, q2, q3, q4, q5, _⟩ := r1.own i ys e1
        rw [e2] at q1
        cases q1
        have := s2.fr b _ q2 notbl q5
        rcases rd_mono r2.le z with z | ⟨o, z⟩
        · rw [this] at z; cases z
        · rw [this] at z; cases z
      · rw [if_neg (by simp [hp, hd])] at h
        exact h.elim
theorem pd_call {k n : Nat} {x : Str} {sem : DL.Sem} {e : Expr} {es : List Expr} {fs : List DE} {p pos : Pos} (F : FnD X.prog X.w X.K X.mg X.base Z k x n sem) (hr : Room k X.A) (hg : Gl X x) (tk : L2N.Takes X W) (ha : PDA X Z N W (e :: es) (dArgs fs)) (hn : fs.length = n) (hdb : (x == ("__debug__" : Str)) = false)
    (he : starEach (e :: es) X.env = (false, eval e X.env) :: starEach es X.env := by rfl) (hpl : (backTo pos (starEach es X.env)).any (·.1) = false := by rfl) : PD X Z N W (.Call (.Name x p) (e :: es) [] pos) (dCall sem fs) := by
  obtain ⟨f, fd, ps, hm, hk, hb, hlen, ok⟩ := F.ex
  refine pe_imp (pe_callSD (E := fun σ cls dd H2 => W cls dd σ H2) (dvs := []) ok hr hg hm hk hb .nil (fun σ => L2N.passAt tk σ) ha hdb he hpl) fun σ H Q h => ?_
  have q := td_call (n := n) hn h
  unfold tCallSD
  refine tda_mono q fun vs H1 z => ?_
  rw [List.append_nil]
  exact z
end
end DL

set_option Elab.async false
set_option linter.all false
set_option maxRecDepth 100000
set_option maxHeartbeats 4000000
set_option autoImplicit false
namespace DL
open PySem PySem.Spec PyProof.Rows L2
section
variable {X : Cx} {Z : Zp} {N : En} {W : WX} {Y : Yp}
section
variable {G H : Hp} {ca : Option Addr} {c : C} {v u : V}
theorem WtS.int {i : Int} (w : WtS Y G H ca v (.int i)) : v = .int i := by cases w.atom (fun _ e => by cases e); rfl
theorem WtS.str {x : Str} (w : WtS Y G H ca v (.str x)) : v = .str x := by cases w.atom (fun _ e => by cases e); rfl
theorem WtS.bool {b : Bool} (w : WtS Y G H ca v (.bl b)) : v = .bl b := by cases w.atom (fun _ e => by cases e); rfl
theorem WtS.ty {k : Nat} (w : WtS Y G H ca v (.ty k)) : v = .ty (tyName k) := by cases w.atom (fun _ e => by cases e); rfl
theorem WtS.non (w : WtS Y G H ca v .non) : v = .non := by cases w.atom (fun _ e => by cases e); rfl
end
/-! ### operators -/
theorem od_int {f : Value → Value → PySem.Sem Value} {Cc : Int → Int → Prop} {k : Int → Int → V} {g : D → D → Option D} (h : OpR X f (rI Cc k)) (hg : ∀ x y d, g x y = some d → ∃ i j, x = .int i ∧ y = .int j ∧ Cc i j ∧ ∀ G ca, Wt (yOf X Z) G ca (k i j) d) : OpD X Z f g :=
  ⟨_, h, fun G ca H c x y dx dy d Q rs w1 w2 e q => by
    obtain ⟨i, j, rfl, rfl, hc, w⟩ := hg _ _ _ e
    exact ⟨i, j, w1.int, w2.int, hc, q.here rs (w G ca)⟩⟩
theorem od_int0 {f : Value → Value → PySem.Sem Value} {k : Int → Int → V} {g : D → D → Option D} (h : OpR X f (rI0 k)) (hg : ∀ x y d, g x y = some d → ∃ i j, x = .int i ∧ y = .int j ∧ ∀ G ca, Wt (yOf X Z) G ca (k i j) d) : OpD X Z f g :=
  ⟨_, h, fun G ca H c x y dx dy d Q rs w1 w2 e q => by
    obtain ⟨i, j, rfl, rfl, w⟩ := hg _ _ _ e
    exact ⟨i, j, w1.int, w2.int, q.here rs (w G ca)⟩⟩
theorem two_ints {F : Int → Int → Option D} {x y d : D} (h : (match x, y with
    | .int i, .int j => F i j
    | _, _ => none) = some d) : ∃ i j, x = .int i ∧ y = .int j ∧ F i j = some d := by
  cases x <;> first | cases h | skip
  cases y <;> first | cases h | skip
  exact ⟨_, _, rfl, rfl, h⟩
theorem od_sub : OpD X Z (binaryOp .Sub) D.sub := od_int0 op_sub fun x y d h => by
  obtain ⟨i, j, rfl, rfl, e⟩ := two_ints (F := fun i j => some (.int (i - j))) h
  cases e
  exact ⟨i, j, rfl, rfl, fun _ _ => .int _⟩
theorem od_lt : OpD X Z (compareOp .Lt) D.lt := od_int0 op_lt fun x y d h => by
  obtain ⟨i, j, rfl, rfl, e⟩ := two_ints (F := fun i j => some (.bl (decide (i < j)))) h
  cases e
  exact ⟨i, j, rfl, rfl, fun _ _ => .bl _⟩
theorem od_le : OpD X Z (compareOp .LtE) D.le := od_int0 op_le fun x y d h => by
  obtain ⟨i, j, rfl, rfl, e⟩ := two_ints (F := fun i j => some (.bl (decide (i ≤ j)))) h
  cases e
  exact ⟨i, j, rfl, rfl, fun _ _ => .bl _⟩
theorem od_gt : OpD X Z (compareOp .Gt) D.gt := od_int0 op_gt fun x y d h => by
  obtain ⟨i, j, rfl, rfl, e⟩ := two_ints (F := fun i j => some (.bl (decide (j < i)))) h
  cases e
  exact ⟨i, j, rfl, rfl, fun _ _ => .bl _⟩
theorem od_ge : OpD X Z (compareOp .GtE) D.ge := od_int0 op_ge fun x y d h => by
  obtain ⟨i, j, rfl, rfl, e⟩ := two_ints (F := fun i j => some (.bl (decide (j ≤ i)))) h
  cases e
  exact ⟨i, j, rfl, rfl, fun _ _ => .bl _⟩
theorem od_mod : OpD X Z (binaryOp .Mod) D.mod := od_int op_mod fun x y d h => by
  obtain ⟨i, j, rfl, rfl, e⟩ := two_ints (F := fun i j => if 0 < j then some (.int (i % j)) else none) h
  by_cases hj : 0 < j
  · simp only [if_pos hj] at e
    cases e
    exact ⟨i, j, rfl, rfl, hj, fun _ _ => .int _⟩
  · simp only [if_neg hj] at e
    cases e
theorem od_pow : OpD X Z (binaryOp .Pow) D.pow := od_int op_pow fun x y d h => by
  obtain ⟨i, j, rfl, rfl, e⟩ := two_ints (F := fun i j => if 0 ≤ j ∧ j ≤ 1000000 ∧ i.natAbs < 2 ^ 64 then some (.int (i ^ j.toNat)) else none) h
  by_cases hj : 0 ≤ j ∧ j ≤ 1000000 ∧ i.natAbs < 2 ^ 64
  · simp only [if_pos hj] at e
    cases e
    exact ⟨i, j, rfl, rfl, hj, fun _ _ => .int _⟩
  · simp only [if_neg hj] at e
    cases e
theorem wide_log {n : Nat} (h : n < wideLine) : n.log2 < 9000 := by
  unfold wideLine at h
  by_cases h0 : n = 0
  · subst h0
    decide
  · exact Nat.lt_of_lt_of_le ((Nat.log2_lt h0).mpr h) (by decide)
theorem od_fdiv : OpD X Z (binaryOp .FloorDiv) D.fdiv := od_int op_fdivW fun x y d h => by
  obtain ⟨i, j, rfl, rfl, e⟩ := two_ints (F := fun i j => if 0 < j ∧ j.natAbs < wideLine then some (.int (i / j)) else none) h
  by_cases hj : 0 < j ∧ j.natAbs < wideLine
  · simp only [if_pos hj] at e
    cases e
    exact ⟨i, j, rfl, rfl, ⟨hj.1, wide_log hj.2⟩, fun _ _ => .int _⟩
  · simp only [if_neg hj] at e
    cases e
theorem od_mul : OpD X Z (binaryOp .Mult) D.mul := by
  refine opd_imp (opd_or (od_int (Z := Z) (g := fun x y => match x, y with
    | .int i, .int j => if ((decide (-(2 ^ 64) < i) && decide (i < 2 ^ 64)) || (decide (-(2 ^ 64) < j) && decide (j < 2 ^ 64))) = true then some (.int (i * j)) else none
    | _, _ => none) op_mul fun x y d h => ?_) (od_int (Z := Z) (g := fun x y => match x, y with
    | .int i, .int j => if (decide (i.natAbs < wideLine) && decide (j.natAbs < wideLine)) = true then some (.int (i * j)) else none
    | _, _ => none) op_mulW fun x y d h => ?_)) fun x y d h => ?_
  · obtain ⟨i, j, rfl, rfl, e⟩ := two_ints (F := fun i j => if ((decide (-(2 ^ 64) < i) && decide (i < 2 ^ 64)) || (decide (-(2 ^ 64) < j) && decide (j < 2 ^ 64))) = true then some (.int (i * j)) else none) h
    by_cases hj : ((decide (-(2 ^ 64) < i) && decide (i < 2 ^ 64)) || (decide (-(2 ^ 64) < j) && decide (j < 2 ^ 64))) = true
    · simp only [if_pos hj] at e
      cases e
      refine ⟨i, j, rfl, rfl, ?_, fun _ _ => .int _⟩
      rw [Bool.or_eq_true, Bool.and_eq_true, Bool.and_eq_true] at hj
      exact hj.imp (fun h => ⟨of_decide_eq_true h.1, of_decide_eq_true h.2⟩) fun h => ⟨of_decide_eq_true h.1, of_decide_eq_true h.2⟩
    · simp only [if_neg hj] at e
      cases e
  · obtain ⟨i, j, rfl, rfl, e⟩ := two_ints (F := fun i j => if (decide (i.natAbs < wideLine) && decide (j.natAbs < wideLine)) = true then some (.int (i * j)) else none) h
    by_cases hj : (decide (i.natAbs < wideLine) && decide (j.natAbs < wideLine)) = true
    · simp only [if_pos hj] at e
      cases e
      refine ⟨i, j, rfl, rfl, ?_, fun _ _ => .int _⟩
      rw [Bool.and_eq_true] at hj
      have h1 := wide_log (of_decide_eq_true hj.1)
      have h2 := wide_log (of_decide_eq_true hj.2)
      show _ + _ < 1000000
      omega
    · simp only [if_neg hj] at e
      cases e
  · obtain ⟨i, j, rfl, rfl, e⟩ := two_ints (F := fun i j => if mulOk i j = true then some (.int (i * j)) else none) h
    by_cases hj : mulOk i j = true
    · simp only [if_pos hj] at e
      cases e
      unfold mulOk at hj
      rw [Bool.or_eq_true] at hj
      rcases hj with hj | hj
      · dsimp only
        rw [if_pos hj]
        rfl
      · dsimp only
        rw [if_pos hj]
        by_cases h1 : ((decide (-(2 ^ 64) < i) && decide (i < 2 ^ 64)) || (decide (-(2 ^ 64) < j) && decide (j < 2 ^ 64))) = true
        · rw [if_pos h1]; rfl
        · rw [if_neg h1]; rfl
    · simp only [if_neg hj] at e
      cases e
theorem lenS (x y : Str) : x.length + y.length = x.length + y.length := rfl
def addI : D → D → Option D
  | .int i, .int j => some (.int (i + j))
  | _, _ => none
def addS : D → D → Option D
  | .str x, .str y => if x.length + y.length ≤ sizeL then some (.str (x ++ y)) else none
  | _, _ => none
def addT : D → D → Option D
  | .tup xs, .tup ys => if xs.length + ys.length ≤ sizeL then some (.tup (xs ++ ys)) else none
  | _, _ => none
theorem od_addI : OpD X Z (binaryOp .Add) addI := od_int0 op_add fun x y d h => by
  obtain ⟨i, j, rfl, rfl, e⟩ := two_ints (F := fun i j => some (.int (i + j))) h
  cases e
  exact ⟨i, j, rfl, rfl, fun _ _ => .int _⟩
theorem od_addS : OpD X Z (binaryOp .Add) addS := ⟨_, op_add_str, fun G ca H c x y dx dy d Q rs w1 w2 e q => by
  cases dx <;> first | cases e | skip
  cases dy <;> first | cases e | skip
  rename_i xs ys
  simp only [addS] at e
  by_cases hl : xs.length + ys.length ≤ sizeL
  · rw [if_pos hl] at e
    cases e
    exact ⟨xs, ys, w1.str, w2.str, hl, q.here rs (.str _)⟩
  · rw [if_neg hl] at e
    cases e⟩
theorem od_addT : OpD X Z (binaryOp .Add) addT := ⟨_, op_catA, fun G ca H c x y dx dy d Q rs w1 w2 e q => by
  cases dx <;> first | cases e | skip
  cases dy <;> first | cases e | skip
  rename_i xs ys
  simp only [addT] at e
  by_cases hl : xs.length + ys.length ≤ sizeL
  · rw [if_pos hl] at e
    cases e
    have t1 := w1.atom (fun _ e => by cases e)
    have t2 := w2.atom (fun _ e => by cases e)
    obtain ⟨a, vs, rfl, h1, z1, _⟩ := w1.tup rs
    obtain ⟨b, us, rfl, h2, z2, _⟩ := w2.tup rs
    refine ⟨a, b, vs, us, rfl, rfl, h1, h2, by rw [z1.length, z2.length]; exact hl, fun e => ?_, fun e1 e2 => ?_, fun e1 e2 p hp => ?_⟩
    · subst e
      cases z1
      exact q.here rs t2
    · subst e2
      cases z2
      rw [List.append_nil] at q
      exact q.here rs t1
    · exact q.tup rs (z1.append z2) (by rw [List.length_append]; exact hl) hp
  · rw [if_neg hl] at e
    cases e⟩
theorem od_add : OpD X Z (binaryOp .Add) D.add := opd_imp (opd_or od_addI (opd_or od_addS od_addT)) fun x y d h => by
  cases x <;> first | cases h | skip
  all_goals (cases y <;> first | cases h | skip)
  · rfl
  · have h' : addS (.str _) (.str _) = some d := h
    show (addS _ _).or _ = _
    rw [h']
    rfl
  · exact h
theorem odo_cat : OpDO X Z (binaryOp .Add) D.cat := ⟨_, op_cat, fun G ca H c x y dx dy d Q rs w1 w2 e => by
  cases dx <;> first | cases e | skip
  cases dy <;> first | cases e | skip
  rename_i xs ys
  simp only [D.cat] at e
  by_cases hl : xs.length + ys.length ≤ sizeL
  · rw [if_pos hl] at e
    cases e
    obtain ⟨a, vs, rfl, h1, z1, _⟩ := w1.lst rs
    obtain ⟨b, us, rfl, h2, z2, _⟩ := w2.lst rs
    exact ⟨_, rfl, fun q => ⟨a, b, vs, us, rfl, rfl, h1, h2, by rw [z1.length, z2.length]; exact hl, fun p hp => q.new rs (z1.append z2) (by rw [List.length_append]; exact hl) hp⟩⟩
  · rw [if_neg hl] at e
    cases e⟩
theorem odo_rep : OpDO X Z (binaryOp .Mult) D.rep := ⟨_, op_rep, fun G ca H c x y dx dy d Q rs w1 w2 e => by
  cases dx <;> first | cases e | skip
  cases dy <;> first | cases e | skip
  rename_i xs k
  simp only [D.rep] at e
  by_cases hl : -(2 ^ 63) ≤ k ∧ k < 2 ^ 63 ∧ xs.length * k.toNat ≤ sizeL
  · rw [if_pos hl] at e
    cases e
    obtain ⟨a, vs, rfl, h1, z1, _⟩ := w1.lst rs
    exact ⟨_, rfl, fun q => ⟨a, k, vs, rfl, w2.int, h1, hl.1, hl.2.1, by rw [z1.length]; exact hl.2.2, fun p hp => q.new rs (z1.flat _) (by rw [flat_len]; exact hl.2.2) hp⟩⟩
  · rw [if_neg hl] at e
    cases e⟩
theorem od_repT : OpD X Z (binaryOp .Mult) D.repT := ⟨_, op_repT, fun G ca H c x y dx dy d Q rs w1 w2 e q => by
  cases dx <;> first | cases e | skip
  cases dy <;> first | cases e | skip
  rename_i xs k
  simp only [D.repT] at e
  by_cases hl : xs ≠ [] ∧ 2 ≤ k ∧ k ≤ 1000 ∧ xs.length ≤ 1000
  · rw [if_pos hl] at e
    cases e
    obtain ⟨a, vs, rfl, h1, z1, _⟩ := w1.tup rs
    have hne : vs ≠ [] := fun z => by subst z; cases z1; exact hl.1 rfl
    refine ⟨a, k, vs, rfl, w2.int, h1, hne, hl.2.1, hl.2.2.1, by rw [z1.length]; exact hl.2.2.2, fun p hp => q.tup rs (z1.flat _) ?_ hp⟩
    rw [flat_len]
    have h1 : k.toNat ≤ 1000 := by omega
    have := Nat.mul_le_mul hl.2.2.2 h1
    show xs.length * k.toNat ≤ 2 ^ 24
    omega
  · rw [if_neg hl] at e
    cases e⟩
/-! ### equality -/
mutual
def D.py : D → PyData
  | .bl b => .bool b
  | .int i => .int i
  | .str x => .str x
  | .tup xs => .tuple (D.pys xs)
  | .lst xs => .list (D.pys xs)
  | _ => .none
def D.pys : List D → List PyData
  | [] => []
  | x :: xs => D.py x :: D.pys xs
end
theorem pys_map : ∀ xs : List D, D.pys xs = xs.map D.py
  | [] => by simp only [D.pys, List.map_nil]
  | x :: xs => by simp only [D.pys, List.map_cons, pys_map xs]
mutual
theorem eqv_py : ∀ (n m : Nat) (x y : D), x.shal n = true → y.shal m = true → PyData.eqv x.py y.py = D.eqv x y
  | n, m, x, y, hx, hy => by
    cases x <;> cases y <;> first
      | (simp only [D.py, PyData.eqv, D.eqv]; done)
      | (simp [D.shal] at hx; done)
      | (simp [D.shal] at hy; done)
      | skip
    · rename_i xs ys
      cases n with
      | zero => simp [D.shal] at hx
      | succ n =>
        cases m with
        | zero => simp [D.shal] at hy
        | succ m =>
          simp only [D.shal] at hx hy
          simp only [D.py, PyData.eqv, D.eqv]
          exact eqvs_py n m xs ys hx hy
    · rename_i xs ys
      cases n with
      | zero => simp [D.shal] at hx
      | succ n =>
        cases m with
        | zero => simp [D.shal] at hy
        | succ m =>
          simp only [D.shal] at hx hy
          simp only [D.py, PyData.eqv, D.eqv]
          exact eqvs_py n m xs ys hx hy
theorem eqvs_py : ∀ (n m : Nat) (xs ys : List D), xs.all (D.shal n) = true → ys.all (D.shal m) = true → PyData.eqvAll (D.pys xs) (D.pys ys) = D.eqvs xs ys
  | n, m, [], [], _, _ => by simp only [D.pys, PyData.eqvAll, D.eqvs]
  | n, m, [], _ :: _, _, _ => by simp only [D.pys, PyData.eqvAll, D.eqvs]
  | n, m, _ :: _, [], _, _ => by simp only [D.pys, PyData.eqvAll, D.eqvs]
  | n, m, x :: xs, y :: ys, hx, hy => by
    simp only [List.all_cons, Bool.and_eq_true] at hx hy
    simp only [D.pys, PyData.eqvAll, D.eqvs, eqv_py n m x y hx.1 hy.1, eqvs_py n m xs ys hx.2 hy.2]
end
mutual
theorem shal_lay : ∀ (n : Nat) (x : D), x.shal n = true → x.py.canLay0 = true ∧ x.py.depth ≤ n
  | n, x, h => by
    cases x with
    | tup xs =>
      cases n with
      | zero => simp [D.shal] at h
      | succ n =>
        simp only [D.shal] at h
        simp only [D.py, PyData.canLay0, PyData.depth]
        obtain ⟨h1, h2⟩ := shals_lay n xs h
        exact ⟨h1, Nat.succ_le_succ h2⟩
    | lst xs =>
      cases n with
      | zero => simp [D.shal] at h
      | succ n =>
        simp only [D.shal] at h
        simp only [D.py, PyData.canLay0, PyData.depth]
        obtain ⟨h1, h2⟩ := shals_lay n xs h
        exact ⟨h1, Nat.succ_le_succ h2⟩
    | str z =>
      have h : strGood z = true := by cases n <;> exact h
      simp only [D.py, PyData.canLay0, PyData.depth]
      exact ⟨h, Nat.zero_le _⟩
    | cup => cases n <;> simp [D.shal] at h
    | fn k => cases n <;> simp [D.shal] at h
    | ty k => cases n <;> simp [D.shal] at h
    | _ =>
      simp only [D.py, PyData.canLay0, PyData.depth]
      exact ⟨trivial, Nat.zero_le _⟩
theorem shals_lay : ∀ (n : Nat) (xs : List D), xs.all (D.shal n) = true → PyData.canLayAll0 (D.pys xs) = true ∧ PyData.depthAll (D.pys xs) ≤ n
  | n, [], h => by simp only [D.pys, PyData.canLayAll0, PyData.depthAll]; exact ⟨trivial, Nat.zero_le _⟩
  | n, x :: xs, h => by
    simp only [List.all_cons, Bool.and_eq_true] at h
    obtain ⟨a, b⟩ := shal_lay n x h.1
    obtain ⟨a2, b2⟩ := shals_lay n xs h.2
    simp only [D.pys, PyData.canLayAll0, PyData.depthAll, a, a2, Bool.and_self]
    exact ⟨trivial, Nat.max_le.mpr ⟨b, b2⟩⟩
end
theorem shal_shaped {x : D} (h : x.shal 60 = true) : SeqAt.shaped x.py = true := by
  obtain ⟨a, b⟩ := shal_lay 60 x h
  unfold SeqAt.shaped
  rw [a, decide_eq_true (Nat.le_trans b (by decide))]
  rfl
mutual
theorem Wt.dp {G : Hp} {ca : Option Addr} : ∀ {v : V} {d : D} {n : Nat}, Wt Y G ca v d → d.shal n = true → Dp Y.K G v d.py
  | _, _, _, .non, _ => by simp only [D.py]; exact .non
  | _, _, _, .bl b, _ => by simp only [D.py]; exact .bl b
  | _, _, _, .int i, _ => by simp only [D.py]; exact .int i
  | _, _, _, .str x, _ => by simp only [D.py]; exact .str x
  | _, _, 0, .exc _, e => by simp [D.shal] at e
  | _, _, n + 1, .exc _, e => by simp [D.shal] at e
  | _, _, 0, .tup h w _, e => by simp [D.shal] at e
  | _, _, n + 1, .tup h w _, e => by
    simp only [D.shal] at e
    simp only [D.py]
    exact .tup h (Wts.dp w e)
  | _, _, 0, .lst h w _, e => by simp [D.shal] at e
  | _, _, n + 1, .lst h w _, e => by
    simp only [D.shal] at e
    simp only [D.py]
    exact .lst (.inl (.inl h)) (Wts.dp w e)
  | _, _, n, .cup _, e => by cases n <;> simp [D.shal] at e
  | _, _, n, .fn _, e => by cases n <;> simp [D.shal] at e
  | _, _, n, .ty _, e => by cases n <;> simp [D.shal] at e
theorem Wts.dp {G : Hp} {ca : Option Addr} : ∀ {vs : List V} {ds : List D} {n : Nat}, Wts Y G ca vs ds → ds.all (D.shal n) = true → DpAll Y.K G vs (D.pys ds)
  | _, _, _, .nil, _ => by simp only [D.pys]; exact .nil
  | _, _, _, .cons h w, e => by
    simp only [List.all_cons, Bool.and_eq_true] at e
    simp only [D.pys]
    exact .cons (Wt.dp h e.1) (Wts.dp w e.2)
end
theorem od_eq (hu : X.A.units + 64 < cLine) : OpD X Z (compareOp .Eq) D.eq := ⟨_, op_eqD hu, fun G ca H c x y dx dy d Q rs w1 w2 e q => by
  unfold D.eq at e
  by_cases hs : (dx.shal 60 && dy.shal 60) = true
  · rw [if_pos hs] at e
    cases e
    rw [Bool.and_eq_true] at hs
    refine ⟨dx.py, dy.py, (w1.all rs).dp hs.1, (w2.all rs).dp hs.2, shal_shaped hs.1, shal_shaped hs.2, ?_⟩
    rw [eqv_py 60 60 dx dy hs.1 hs.2]
    exact q.here rs (.bl _)
  · rw [if_neg hs] at e
    cases e⟩
theorem od_ne (hu : X.A.units + 64 < cLine) : OpD X Z (compareOp .NotEq) D.ne := ⟨_, op_neD hu, fun G ca H c x y dx dy d Q rs w1 w2 e q => by
  unfold D.ne at e
  by_cases hs : (dx.shal 60 && dy.shal 60) = true
  · rw [if_pos hs] at e
    cases e
    rw [Bool.and_eq_true] at hs
    refine ⟨dx.py, dy.py, (w1.all rs).dp hs.1, (w2.all rs).dp hs.2, shal_shaped hs.1, shal_shaped hs.2, ?_⟩
    rw [eqv_py 60 60 dx dy hs.1 hs.2]
    exact q.here rs (.bl _)
  · rw [if_neg hs] at e
    cases e⟩
theorem isNon_v {G H : Hp} {ca : Option Addr} {v : V} {d : D} (w : WtS Y G H ca v d) : decide (v = .non) = d.isNon := by
  rcases w with w | ⟨a, vs, xs, rfl, rfl, _⟩
  · cases w <;> rfl
  · rfl
theorem od_isN : OpD X Z (compareOp .Is) D.isN := ⟨_, op_isN, fun G ca H c x y dx dy d Q rs w1 w2 e q => by
  cases dy <;> first | cases e | skip
  exact ⟨w2.non, by rw [isNon_v w1]; exact q.here rs (.bl _)⟩⟩
theorem od_notN : OpD X Z (compareOp .IsNot) D.notN := ⟨_, op_notN, fun G ca H c x y dx dy d Q rs w1 w2 e q => by
  cases dy <;> first | cases e | skip
  exact ⟨w2.non, by rw [isNon_v w1]; exact q.here rs (.bl _)⟩⟩
theorem od_isB : OpD X Z (compareOp .Is) D.isB := ⟨_, op_is_bl, fun G ca H c x y dx dy d Q rs w1 w2 e q => by
  cases dx <;> first | cases e | skip
  cases dy <;> first | cases e | skip
  rename_i a b
  have : decide (a = b) = (a == b) := by cases a <;> cases b <;> rfl
  exact ⟨a, b, w1.bool, w2.bool, by rw [this]; exact q.here rs (.bl _)⟩⟩
theorem od_notB : OpD X Z (compareOp .IsNot) D.notB := ⟨_, op_isnot_bl, fun G ca H c x y dx dy d Q rs w1 w2 e q => by
  cases dx <;> first | cases e | skip
  cases dy <;> first | cases e | skip
  rename_i a b
  have : decide (a = b) = (a == b) := by cases a <;> cases b <;> rfl
  exact ⟨a, b, w1.bool, w2.bool, by rw [this]; exact q.here rs (.bl _)⟩⟩
/-! ### unary -/
theorem ud_neg : UnD X Z (unaryOp .USub) D.neg := ⟨_, un_neg, fun G ca H c x dx d Q rs w1 e q => by
  cases dx <;> first | cases e | skip
  exact ⟨_, w1.int, q.here rs (.int _)⟩⟩
theorem pd_notV {a : Expr} {fa : DE} {pos : Pos} (ha : PD X Z N W a fa) : PD X Z N W (.UnaryOp .Not a pos) (dO1 D.inv fa) :=
  pe_imp (pe_not ha) fun σ H Q h => td1 (r := fun x H Q => ∃ c, x = .bl c ∧ Q (.bl (!c)) H) (fun G ca H c x dx d Q rs w e q => by
    cases dx <;> first | cases e | skip
    exact ⟨_, w.bool, q.here rs (.bl _)⟩) h
/-! ### membership -/
theorem flat_v {G : Hp} {ca : Option Addr} {v : V} {d : D} (w : Wt Y G ca v d) (h : d.flat = true) : flatV v = true := by cases w <;> first | rfl | cases h
theorem flat_vs {G : Hp} {ca : Option Addr} : ∀ {vs : List V} {ds : List D}, Wts Y G ca vs ds → ds.all D.flat = true → vs.all flatV = true
  | _, _, .nil, _ => rfl
  | _, _, .cons h w, e => by
    simp only [List.all_cons, Bool.and_eq_true] at e ⊢
    exact ⟨flat_v h e.1, flat_vs w e.2⟩
theorem eqv_v {G : Hp} {ca : Option Addr} {v u : V} {d e : D} (w : Wt Y G ca v d) (w2 : Wt Y G ca u e) (h : d.flat = true) (h2 : e.flat = true) : eqV v u = D.eqv d e := by
  cases w <;> first | cases h | skip
  all_goals (cases w2 <;> first | cases h2 | skip)
  all_goals (simp only [eqV, D.eqv])
theorem mem_v {G : Hp} {ca : Option Addr} {v : V} {d : D} (w : Wt Y G ca v d) (h : d.flat = true) : ∀ {vs : List V} {ds : List D}, Wts Y G ca vs ds → ds.all D.flat = true → inV v vs = ds.any fun z => D.eqv z d
  | _, _, .nil, _ => rfl
  | _, _, .cons w2 ws, e => by
    simp only [List.all_cons, Bool.and_eq_true] at e
    have ih := mem_v w h ws e.2
    unfold inV at ih ⊢
    rw [List.any_cons, List.any_cons, ih, eqv_v w2 w e.1 h]
theorem flat_nl {d : D} (h : d.flat = true) (xs : List D) : d ≠ .lst xs := fun e => by subst e; cases h
theorem memB_ok {G H : Hp} {ca : Option Addr} {c : C} {x y : V} {dx dy : D} {b : Bool} {Q : VK} (neg : Bool) (rs : RS0 (yOf X Z) G ca H c) (w1 : WtS (yOf X Z) G H ca x dx) (w2 : WtS (yOf X Z) G H ca y dy) (e : D.memB dx dy = some b) :
    (Q (.bl (if neg then !b else b)) H → rIn X.K neg x y H Q) ∨ (dx.shal 60 = true ∧ dy.shal 60 = true ∧ ∃ ys, dy = .lst ys ∧ b = ys.any fun z => D.eqv z dx) := by
  unfold D.memB at e
  cases ey : dy.items with
  | none => rw [ey] at e; cases e
  | some ys =>
    rw [ey] at e
    dsimp only at e
    by_cases hf : (dx.flat && ys.all D.flat) = true
    · rw [if_pos hf] at e
      rw [Bool.and_eq_true] at hf
      cases e
      left
      have t1 := (w1.atom (flat_nl hf.1)).mono rs.le fun _ h => h
      intro q
      cases dy <;> first | cases ey | skip
      · obtain ⟨a, vs, rfl, h1, z1, _⟩ := w2.tup rs
        have z1 := z1.mono rs.le fun _ h => h
        exact ⟨a, vs, rfl, .inr h1, flat_v t1 hf.1, flat_vs z1 hf.2, by rw [mem_v t1 hf.1 z1 hf.2]; exact q⟩
      · obtain ⟨a, vs, rfl, h1, z1, _⟩ := w2.lst rs
        have z1 := z1.mono rs.le fun _ h => h
        exact ⟨a, vs, rfl, .inl (sql h1), flat_v t1 hf.1, flat_vs z1 hf.2, by rw [mem_v t1 hf.1 z1 hf.2]; exact q⟩
    · rw [if_neg hf] at e
      cases dy <;> first | cases e | skip
      rename_i zs
      cases ey
      dsimp only at e
      by_cases hs : (dx.shal 60 && (D.lst ys).shal 60) = true
      · rw [if_pos hs] at e
        cases e
        rw [Bool.and_eq_true] at hs
        exact .inr ⟨hs.1, hs.2, ys, rfl, rfl⟩
      · rw [if_neg hs] at e
        cases e
theorem any_py {dx : D} (hx : dx.shal 60 = true) : ∀ {ys : List D}, ys.all (D.shal 59) = true → ((D.pys ys).any fun z => PyData.eqv z dx.py) = ys.any fun z => D.eqv z dx
  | [], _ => by simp only [D.pys, List.any_nil]
  | y :: ys, h => by
    simp only [List.all_cons, Bool.and_eq_true] at h
    simp only [D.pys, List.any_cons, eqv_py 59 60 y dx h.1 hx, any_py hx h.2]
theorem od_mem (hu : X.A.units + 65 < cLine) : OpD X Z (compareOp .In) D.mem := ⟨_, op_in_seq.or (op_inD hu), fun G ca H c x y dx dy d Q rs w1 w2 e q => by
  unfold D.mem at e
  rw [Option.map_eq_some_iff] at e
  obtain ⟨b, e, rfl⟩ := e
  rcases memB_ok (Q := Q) false rs w1 w2 e with k | ⟨h1, h2, ys, rfl, rfl⟩
  · exact .inl (k (q.here rs (.bl _)))
  · refine .inr ⟨dx.py, D.pys ys, (w1.all rs).dp h1, by simpa only [D.py] using (w2.all rs).dp h2, shal_shaped h1, by simpa only [D.py] using shal_shaped h2, ?_⟩
    rw [any_py h1 (by simpa only [D.shal] using h2)]
    exact q.here rs (.bl _)⟩
theorem od_nmem (hu : X.A.units + 65 < cLine) : OpD X Z (compareOp .NotIn) D.nmem := ⟨_, op_notIn_seq.or (op_notInD hu), fun G ca H c x y dx dy d Q rs w1 w2 e q => by
  unfold D.nmem at e
  rw [Option.map_eq_some_iff] at e
  obtain ⟨b, e, rfl⟩ := e
  rcases memB_ok (Q := Q) true rs w1 w2 e with k | ⟨h1, h2, ys, rfl, rfl⟩
  · exact .inl (k (q.here rs (.bl _)))
  · refine .inr ⟨dx.py, D.pys ys, (w1.all rs).dp h1, by simpa only [D.py] using (w2.all rs).dp h2, shal_shaped h1, by simpa only [D.py] using shal_shaped h2, ?_⟩
    rw [any_py h1 (by simpa only [D.shal] using h2)]
    exact q.here rs (.bl _)⟩
/-! ### subscripts and slices -/
theorem ixD_N (n : Nat) (i : Int) : ixD n i = ixN n i := rfl
theorem xd_ix : IxD X Z D.ix := ⟨_, ix_seq, fun G ca H c x y dx dy d Q rs w1 w2 e q => by
  cases dx <;> first | cases e | skip
  · cases dy <;> first | cases e | skip
    rename_i xs i
    simp only [D.ix, Option.bind_eq_some_iff] at e
    obtain ⟨j, e1, e2⟩ := e
    obtain ⟨a, vs, rfl, h1, z1, _⟩ := w1.tup rs
    obtain ⟨v, e3, w⟩ := z1.get e2
    refine .inr (.inl ⟨a, vs, i, v, rfl, w2.int, h1, ?_, q.here rs w⟩)
    unfold atI
    rw [z1.length, ← ixD_N, e1]
    exact e3
  · cases dy <;> first | cases e | skip
    rename_i xs i
    simp only [D.ix, Option.bind_eq_some_iff] at e
    obtain ⟨j, e1, e2⟩ := e
    obtain ⟨a, vs, rfl, h1, z1, _⟩ := w1.lst rs
    obtain ⟨v, e3, w⟩ := z1.get e2
    refine .inl ⟨a, vs, i, v, rfl, w2.int, sql h1, ?_, q.here rs w⟩
    unfold atI
    rw [z1.length, ← ixD_N, e1]
    exact e3⟩
theorem cut_sIx (n d : Nat) (o : Option Int) : cutAt n d o = HT.sIx n d o := by cases o <;> rfl
theorem cutD_w {G : Hp} {ca : Option Addr} {vs : List V} {ds : List D} (w : Wts Y G ca vs ds) (lo hi : Option Int) : Wts Y G ca (cutV vs lo hi) (cutD ds lo hi) := by
  unfold cutV cutD
  rw [cut_sIx, cut_sIx, w.length]
  exact (w.drop _).take _
theorem cutD_len (xs : List D) (lo hi : Option Int) : (cutD xs lo hi).length ≤ xs.length := by
  unfold cutD
  rw [List.length_take, List.length_drop]
  omega
theorem cutD_all {xs : List D} {lo hi : Option Int} (h1 : cutAt xs.length 0 lo = 0) (h2 : cutAt xs.length xs.length hi = xs.length) : cutD xs lo hi = xs := by
  unfold cutD
  rw [h1, h2]
  simp
theorem sd_tup : SlD X Z D.slT := ⟨_, sl_tupA, fun G ca H c x dx d lo hi Q rs w1 e q => by
  cases dx <;> first | cases e | skip
  rename_i xs
  have t1 := w1.atom (fun _ e => by cases e)
  obtain ⟨a, vs, rfl, h1, z1, hl⟩ := w1.tup rs
  refine ⟨a, vs, rfl, h1, fun ⟨e1, e2⟩ => ?_, fun _ p hp => q.tup rs (cutD_w z1 lo hi) (Nat.le_trans (cutD_len _ _ _) hl) hp⟩
  rw [z1.length, ← cut_sIx] at e1 e2
  rw [cutD_all e1 e2] at q
  exact q.here rs t1⟩
theorem sdo_lst : SlDO X Z D.slL := ⟨_, sl_list, fun G ca H c x dx d lo hi Q rs w1 e => by
  cases dx <;> first | cases e | skip
  rename_i xs
  obtain ⟨a, vs, rfl, h1, z1, hl⟩ := w1.lst rs
  exact ⟨_, rfl, fun q => ⟨a, vs, rfl, sql h1, fun p hp => q.new rs (cutD_w z1 lo hi) (Nat.le_trans (cutD_len _ _ _) hl) hp⟩⟩⟩
/-! ### built-ins -/
theorem arg1 {G H : Hp} {ca : Option Addr} {xs : List V} {d : D} (w : WtSs Y G H ca xs [d]) : ∃ x, xs = [x] ∧ WtS Y G H ca x d := Paired.one w
theorem arg2 {G H : Hp} {ca : Option Addr} {xs : List V} {d e : D} (w : WtSs Y G H ca xs [d, e]) : ∃ x y, xs = [x, y] ∧ WtS Y G H ca x d ∧ WtS Y G H ca y e := Paired.two w
theorem one_of {F : D → Option D} {ds : List D} {d : D} (h : (match ds with
    | [x] => F x
    | _ => none) = some d) : ∃ x, ds = [x] ∧ F x = some d := by
  match ds, h with
  | [x], h => exact ⟨x, rfl, h⟩
theorem cd_len : CallD X Z (.builtin "len") bLen := ⟨_, call_len_seq.or call_len_str, fun G ca H c xs ds d Q rs w0 e q => by
  unfold bLen at e
  split at e <;> first | cases e | skip
  · obtain ⟨x, rfl, w⟩ := arg1 w0
    obtain ⟨a, vs, rfl, h1, z1, _⟩ := w.tup rs
    exact .inl ⟨a, vs, rfl, .inr h1, by rw [z1.length]; exact q.here rs (.int _)⟩
  · obtain ⟨x, rfl, w⟩ := arg1 w0
    obtain ⟨a, vs, rfl, h1, z1, _⟩ := w.lst rs
    exact .inl ⟨a, vs, rfl, .inl (sql h1), by rw [z1.length]; exact q.here rs (.int _)⟩
  · rename_i z
    obtain ⟨x, rfl, w⟩ := arg1 w0
    by_cases hz : z.length ≤ sizeL
    · rw [if_pos hz] at e
      cases e
      exact .inr ⟨z, by rw [w.str], hz, q.here rs (.int _)⟩
    · rw [if_neg hz] at e
      cases e⟩
theorem cd_abs : CallD X Z (.builtin "abs") bAbs := ⟨_, call_abs, fun G ca H c xs ds d Q rs w0 e q => by
  unfold bAbs at e
  split at e <;> first | cases e | skip
  obtain ⟨x, rfl, w⟩ := arg1 w0
  exact ⟨_, by rw [w.int], q.here rs (.int _)⟩⟩
theorem cd_max2 (hc : X.calm = true) : CallD X Z (.builtin "max") bMax2 := ⟨_, call_max2 hc, fun G ca H c xs ds d Q rs w0 e q => by
  unfold bMax2 at e
  split at e <;> first | cases e | skip
  obtain ⟨x, y, rfl, w, w2⟩ := arg2 w0
  exact ⟨_, _, by rw [w.int, w2.int], q.here rs (.int _)⟩⟩
theorem cd_min2 (hc : X.calm = true) : CallD X Z (.builtin "min") bMin2 := ⟨_, call_min2 hc, fun G ca H c xs ds d Q rs w0 e q => by
  unfold bMin2 at e
  split at e <;> first | cases e | skip
  obtain ⟨x, y, rfl, w, w2⟩ := arg2 w0
  exact ⟨_, _, by rw [w.int, w2.int], q.here rs (.int _)⟩⟩
theorem cd_int : CallD X Z (.type "int") bInt := ⟨_, call_int1, fun G ca H c xs ds d Q rs w0 e q => by
  unfold bInt at e
  split at e <;> first | cases e | skip
  · obtain ⟨x, rfl, w⟩ := arg1 w0
    exact .inl ⟨_, by rw [w.int], q.here rs (.int _)⟩
  · obtain ⟨x, rfl, w⟩ := arg1 w0
    exact .inr ⟨_, by rw [w.bool], q.here rs (.int _)⟩⟩
theorem cd_tuple : CallD X Z (.type "tuple") bTuple := ⟨_, call_tuple_of, fun G ca H c xs ds d Q rs w0 e q => by
  unfold bTuple at e
  split at e <;> first | cases e | skip
  · obtain ⟨x, rfl, w⟩ := arg1 w0
    have t1 := w.atom (fun _ e => by cases e)
    obtain ⟨a, vs, rfl, h1, z1, _⟩ := w.tup rs
    exact ⟨a, vs, rfl, .inr ⟨h1, q.here rs t1⟩⟩
  · obtain ⟨x, rfl, w⟩ := arg1 w0
    obtain ⟨a, vs, rfl, h1, z1, hl⟩ := w.lst rs
    exact ⟨a, vs, rfl, .inl ⟨sql h1, fun p hp => q.tup rs z1 hl hp⟩⟩⟩
theorem cdo_list : CallDO X Z (.type "list") bList := ⟨_, call_list_of, fun G ca H c xs ds d Q rs w0 e => by
  unfold bList at e
  split at e <;> first | cases e | skip
  · obtain ⟨x, rfl, w⟩ := arg1 w0
    obtain ⟨a, vs, rfl, h1, z1, hl⟩ := w.tup rs
    exact ⟨_, rfl, fun q => ⟨a, vs, rfl, .inr h1, fun p hp => q.new rs z1 hl hp⟩⟩
  · obtain ⟨x, rfl, w⟩ := arg1 w0
    obtain ⟨a, vs, rfl, h1, z1, hl⟩ := w.lst rs
    exact ⟨_, rfl, fun q => ⟨a, vs, rfl, .inl (sql h1), fun p hp => q.new rs z1 hl hp⟩⟩⟩
theorem cd_sum (hc : X.calm = true) : CallD X Z (.builtin "sum") bSum := ⟨_, cr_sum hc, fun G ca H c xs ds d Q rs w0 e q => by
  unfold bSum at e
  split at e <;> first | cases e | skip
  obtain ⟨x, rfl, w⟩ := arg1 w0
  obtain ⟨a, vs, rfl, h1, z1, hl⟩ := w.lst rs
  rw [Option.map_eq_some_iff] at e
  obtain ⟨ns, e1, rfl⟩ := e
  exact ⟨a, ns, rfl, by rw [← z1.ints e1]; exact sql h1, q.here rs (.int _)⟩⟩
theorem cd_all (hc : X.calm = true) : CallD X Z (.builtin "all") bAll := ⟨_, cr_all hc, fun G ca H c xs ds d Q rs w0 e q => by
  unfold bAll at e
  split at e <;> first | cases e | skip
  obtain ⟨x, rfl, w⟩ := arg1 w0
  obtain ⟨a, vs, rfl, h1, z1, hl⟩ := w.lst rs
  rw [Option.map_eq_some_iff] at e
  obtain ⟨ns, e1, rfl⟩ := e
  exact ⟨a, ns, rfl, by rw [← z1.bools e1]; exact sql h1, q.here rs (.bl _)⟩⟩
theorem cd_any (hc : X.calm = true) : CallD X Z (.builtin "any") bAny := ⟨_, cr_any hc, fun G ca H c xs ds d Q rs w0 e q => by
  unfold bAny at e
  split at e <;> first | cases e | skip
  obtain ⟨x, rfl, w⟩ := arg1 w0
  obtain ⟨a, vs, rfl, h1, z1, hl⟩ := w.lst rs
  rw [Option.map_eq_some_iff] at e
  obtain ⟨ns, e1, rfl⟩ := e
  exact ⟨a, ns, rfl, by rw [← z1.bools e1]; exact sql h1, q.here rs (.bl _)⟩⟩
theorem tyx {G H : Hp} {ca : Option Addr} {c : C} {v : V} {d : D} (rs : RS0 Y G ca H c) (w : WtS Y G H ca v d) (h : d.kind ≤ 5) : TyX Y.K H v (.type (match d.kind with
    | 0 => "NoneType"
    | k => tyName k)) := by
  rcases w.all rs with _ | _ | _ | _ | ⟨h1, _, _⟩ | ⟨h1, _, _⟩ | _ | _ | _ | _
  · exact .base .non
  · exact .base (.bl _)
  · exact .base (.int _)
  · exact .base (.str _)
  · rcases h1 with (h1 | ⟨o, h1⟩) | ⟨o, its, n, h1, h2, _⟩
    · exact .base (.tup h1)
    · exact .fTuple h1
    · exact .kTuple h1 h2
  · exact .base (.lst h1)
  · exact absurd h (by show ¬ (9 ≤ 5); decide)
  · exact absurd h (by show ¬ (9 ≤ 5); decide)
  · exact absurd h (by show ¬ (9 ≤ 5); decide)
  · exact absurd h (by show ¬ (9 ≤ 5); decide)
theorem kit_all : ∀ k t : Nat, k ≤ 5 → 1 ≤ t → t ≤ 5 → kitB (match k with
    | 0 => "NoneType"
    | k => tyName k) (tyName t) = some (k == t || (k == 1 && t == 2)) := by
  intro k t h1 h2 h3
  have hk : k = 0 ∨ k = 1 ∨ k = 2 ∨ k = 3 ∨ k = 4 ∨ k = 5 := by omega
  have ht : t = 1 ∨ t = 2 ∨ t = 3 ∨ t = 4 ∨ t = 5 := by omega
  rcases hk with rfl | rfl | rfl | rfl | rfl | rfl <;> rcases ht with rfl | rfl | rfl | rfl | rfl <;> decide +kernel
theorem cd_isi : CallD X Z (.builtin "isinstance") bIsi := ⟨_, call_isi, fun G ca H c xs ds d Q rs w0 e q => by
  unfold bIsi at e
  split at e <;> first | cases e | skip
  rename_i x t
  by_cases hk : x.kind ≤ 5 ∧ 1 ≤ t ∧ t ≤ 5
  · rw [if_pos hk] at e
    cases e
    obtain ⟨v, u, rfl, w, w2⟩ := arg2 w0
    refine ⟨v, u, _, .type (tyName t), _, rfl, by rw [w2.ty]; exact .ty _, tyx rs w hk.1, kit_ty (kit_all _ _ hk.1 hk.2.1 hk.2.2), q.here rs (.bl _)⟩
  · rw [if_neg hk] at e
    cases e⟩
theorem pd_ty {T : String} {k : Nat} {pos : Pos} (hg : Gl X T) (hm : X.mg T = none) (hv : bootBuiltins T = some (.type T)) (hn : (T : Str) ≠ "__name__") (hd : ((T : Str) == ("__debug__" : Str)) = false) (hk : tyName k = T) : PD X Z N W (.Name T pos) (dC (.ty k)) :=
  pd_c (pe_bltn (v := .ty T) hg hm hv rfl hn hd) fun _ _ => by rw [← hk]; exact .ty k
end
end DL

set_option Elab.async false
set_option linter.all false
set_option maxRecDepth 100000
set_option maxHeartbeats 4000000
set_option autoImplicit false
namespace DL
open PySem PySem.Spec PyProof.Rows L2
/-! ### a def, by its body -/
section
variable {P : Program} {w : World} {K : PySem.W.Frag} {mg : Str → Option Value} {base : Heap} {Z : Zp}
theorem rs_start {Y : Yp} {G H : Hp} {ca : Option Addr} {c : C} {vs : List V} {ds : List D} {Nm : List Str} (r : RS0 Y G ca H c) (w : Wts Y G ca vs ds) : RS Y ⟨G, ca, H⟩ G ca (L2.start Nm vs) H (ds.map .val ++ List.replicate (Nm.length - ds.length) .no) c where
  r0 := r
  st := .refl
  len := by
    unfold L2.start
    rw [List.length_append, List.length_append, List.length_map, List.length_map, List.length_replicate, List.length_replicate, w.length]
  val := fun i d h => by
    have hlt : i < ds.length := by
      by_cases hlt : i < ds.length
      · exact hlt
      · rw [List.getElem?_append_right (by rw [List.length_map]; omega), List.getElem?_replicate] at h
        split at h <;> cases h
    rw [List.getElem?_append_left (by rw [List.length_map]; exact hlt), List.getElem?_map, Option.map_eq_some_iff] at h
    obtain ⟨d', h1, h2⟩ := h
    cases h2
    obtain ⟨v, h3, h4⟩ := w.get h1
    refine ⟨v, ?_, h4⟩
    unfold L2.start
    rw [List.getElem?_append_left (by rw [List.length_map, w.length]; exact hlt), List.getElem?_map, h3]
    rfl
  own := fun i xs h => by
    exfalso
    by_cases hlt : i < ds.length
    · rw [List.getElem?_append_left (by rw [List.length_map]; exact hlt), List.getElem?_map, Option.map_eq_some_iff] at h
      obtain ⟨d', h1, h2⟩ := h
      cases h2
    · rw [List.getElem?_append_right (by rw [List.length_map]; omega), List.getElem?_replicate] at h
      split at h <;> cases h
  sep := fun i j xs ys a h => by
    exfalso
    by_cases hlt : i < ds.length
    · rw [List.getElem?_append_left (by rw [List.length_map]; exact hlt), List.getElem?_map, Option.map_eq_some_iff] at h
      obtain ⟨d', h1, h2⟩ := h
      cases h2
    · rw [List.getElem?_append_right (by rw [List.length_map]; omega), List.getElem?_replicate] at h
      split at h <;> cases h
/-- what a semantics promises, another keeps -/
def SemLe (n : Nat) (sem sem' : DL.Sem) : Prop := ∀ ds c, ds.length = n → sem ds c = .st ∨ sem ds c = sem' ds c
theorem SemLe.refl (n : Nat) (sem : DL.Sem) : SemLe n sem sem := fun _ _ _ => .inr rfl
theorem okN {x qual : Str} {st : Stmt} {f : Addr} {fd : FuncData} {N ps : List Str} {k : Nat} {sp : Sp} (F : L2.Fun K x qual st f fd) (S : FnScope N ps (defScope st)) (len : ∀ vs H Q E, sp vs H Q E → vs.length = ps.length)
    (hbody : ∀ (cdv : Value) (A : Around) (outer : List PySem.Env) (s : Shared) (H : Hp) (vs : List V) (Q : VK) (E : XK), Room k (A.deeper (envOfC qual (defScope st) s.heap.objs.size f cdv)) → sp vs H Q E →
      ∃ t, PSs (cxOf (L2N.CX P w) P w K mg base N qual (defScope st) f cdv A outer s H E) (defBody st) t ∧ t { nx := fun _ H' => Q .non H', rt := Q } (L2.start N vs) H) : FnOk P w K mg base (L2N.CX P w) (k + 1) f fd ps sp := by
  obtain ⟨oc, od, kV, doc, pm, an, cdv, ct, osl, rfl, lk, hcd⟩ := F.ex
  exact fn_of lk hcd S len fun A outer s H vs Q E hr hsp => hbody cdv A outer s H vs Q E hr hsp
theorem takesN0 {X : Cx} : L2N.Takes X (fun _ _ _ _ => False) := fun _ _ x => by
  obtain ⟨_, _, _, _, _, _, _, _, _, _, _, _, _, _, _, _, z⟩ := x
  exact z.elim
theorem fnD {x : Str} {st : Stmt} {f : Addr} {fd : FuncData} {Nm ps : List Str} {k n : Nat} {sem : DL.Sem} {den : DS} (F : L2.Fun K x x st f fd) (S : FnScope Nm ps (defScope st)) (hm : mg x = some (.ref f)) (hb : Binds K fd ps []) (hn : ps.length = n)
    (hsem : SemLe n sem (runF Nm.length den))
    (body : ∀ (cdv : Value) (A : Around) (outer : List PySem.Env) (s : Shared) (H : Hp) (E : XK) (En : En), Room k (A.deeper (envOfC x (defScope st) s.heap.objs.size f cdv)) →
      PSsD (cxOf (L2N.CX P w) P w K mg base Nm x (defScope st) f cdv A outer s H E) Z En (fun cls d _ H => E cls d H) (defBody st) den) : FnD P w K mg base Z (k + 1) x n sem := by
  refine ⟨f, fd, ps, hm, F.kp, hb, hn, okN F S (fun vs H Q E h => h.1.trans hn.symm) fun cdv A outer s H vs Q E hr h => ?_⟩
  obtain ⟨hl, G, ca, c, ds, r, w, h⟩ := h
  have hd : ds.length = n := by rw [← w.length]; exact hl
  refine ⟨_, body cdv A outer s H E ⟨G, ca, H⟩ hr, G, ca, _, c, rs_start r w, ?_⟩
  rcases hsem ds c hd with e | e
  · rw [e] at h
    exact h.elim
  · rw [e] at h
    unfold runF at h
    cases e2 : den (ds.map .val ++ List.replicate (Nm.length - ds.length) .no) c with
    | nx env c' =>
      rw [e2] at h
      exact fun G' ca' σ H' r' g => h G' ca' H' .non r'.st r'.r0 .non
    | rt d c' =>
      rw [e2] at h
      exact fun G' ca' H' v s r w => h G' ca' H' v s r w
    | er x env c' =>
      rw [e2] at h
      exact fun cls dd G' ca' σ H' h1 r' => h cls dd G' ca' H' h1 r'.st r'.r0
    | _ => rw [e2] at h; exact h.elim
end
end DL

set_option Elab.async false
set_option linter.all false
set_option maxRecDepth 100000
set_option maxHeartbeats 4000000
set_option autoImplicit false
namespace DL
open PySem PySem.Spec PyProof.Rows L2
section
variable {X : Cx} {Z : Zp} {N : En} {W : WX} {Y : Yp}
theorem od_addA : OpD X Z (binaryOp .Add) D.addA := opd_or od_add (opdo odo_cat)
theorem od_mulA : OpD X Z (binaryOp .Mult) D.mulA := opd_or od_mul (opd_or (opdo odo_rep) od_repT)
theorem sd_or {g g' : D → Option Int → Option Int → Option D} (h : SlD X Z g) (h' : SlD X Z g') : SlD X Z (fun x a b => (g x a b).or (g' x a b)) := by
  obtain ⟨r, h1, h2⟩ := h
  obtain ⟨r', h1', h2'⟩ := h'
  refine ⟨_, L2.SlR.or h1 h1', fun G ca H c x dx d lo hi Q rs w e k => ?_⟩
  dsimp only at e
  cases e1 : g dx lo hi with
  | some d' => rw [e1] at e; cases e; exact .inl (h2 _ _ _ _ _ _ _ _ _ _ rs w e1 k)
  | none => rw [e1] at e; exact .inr (h2' _ _ _ _ _ _ _ _ _ _ rs w e k)
theorem sd_any : SlD X Z D.slA := sd_or sd_tup (sldo sdo_lst)
theorem units65 {A : Around} {k : Nat} (hr : Room k A) : A.units + 65 < cLine := by have := hr.un; omega
/-! ### the cup -/
theorem pd_cup {i k : Nat} {x : Str} {p p2 pos : Pos} {j : Nat} (hN : X.N[i]? = some x) (hv : Vis X.env.scope x) (hd : (x == ("__debug__" : Str)) = false) (hcd : (x == ("__classdict__" : Str)) = false) (hk : k < 2) :
    PD X Z N W (.Subscript (.Name x p) (.Constant (.int (k : Nat)) j p2) pos) (dCup i k) := by
  refine pe_imp (pe_ix ix_list (pe_var hN hv hd hcd) pe_int (fun _ _ => rfl)) fun σ H Q h => ?_
  obtain ⟨G, ca, env, c, r, h⟩ := h
  unfold dCup at h
  cases e : env[i]? with
  | none => rw [e] at h; exact h.elim
  | some s =>
    rw [e] at h
    cases s with
    | val d =>
      cases d with
      | cup =>
        obtain ⟨v, h1, h2⟩ := r.val i _ e
        cases h2 with
        | cup hc =>
          obtain ⟨q1, q2⟩ := r.r0.cup _ hc
          refine ⟨_, h1, _, _, ((k : Nat) : Int), .int (cupGet c k), rfl, rfl, sql q1, ?_, h G ca H _ .refl r (.int _)⟩
          have : k = 0 ∨ k = 1 := by omega
          rcases this with rfl | rfl <;> rfl
      | _ => exact h.elim
    | _ => exact h.elim
theorem RS.cupPut {G H : Hp} {a : Addr} {ca : Option Addr} {σ : L2.St} {env : DL.Env} {c c' : C} (r : RS Y N G ca σ H env c) (hc : ca = some a) : RS Y N G ca σ (upd H a (.lst [.int c'.a, .int c'.b])) env c' where
  r0 := by
    obtain ⟨q1, q2⟩ := r.r0.cup a hc
    refine ⟨fun b u h => by rw [upd_ne (ne_of_none h q2)]; exact r.r0.le b u h, fun p hp => ?_, fun b h => ?_, r.r0.nt⟩
    · obtain ⟨ps, h1, h2, h3⟩ := r.r0.tab p hp
      have ne : ∀ b u, H b = some u → (∀ zs, u ≠ .lst zs) → b ≠ a := fun b u e n z => by subst z; rw [q1] at e; cases e; exact n _ rfl
      refine ⟨ps, by rw [upd_ne (ne _ _ h1 fun zs z => by cases z)]; exact h1, h2, fun pos cv hcv => ?_⟩
      obtain ⟨c', e1, e2⟩ := h3 pos cv hcv
      exact ⟨c', e1, by rw [upd_ne (ne _ _ e2 fun zs z => by unfold LamX.CodeO at z; cases z)]; exact e2⟩
    · rw [hc] at h
      cases h
      exact ⟨upd_same, q2⟩
  st := by
    refine ⟨r.st.le, r.st.nw, fun b h => ?_, fun b o h n k => ?_, r.st.cl, r.st.cn⟩
    · by_cases e : b = a
      · subst e; exact ((h.no (upd_same (H := H) (o := .lst [.int c'.a, .int c'.b])) notbl)).elim
      · exact r.st.dm b fun u hu => h u (by rw [upd_ne e]; exact hu)
    · have e : b ≠ a := fun e => by
        subst e
        rcases r.st.cn b hc with z | z
        · exact k z
        · exact z.no h n
      rw [upd_ne e]
      exact r.st.fr b o h n k
  len := r.len
  val := r.val
  own := fun i xs h => by
    obtain ⟨b, us, h1, h2, h3, h4, h5, h6⟩ := r.own i xs h
    refine ⟨b, us, h1, ?_, h3, h4, h5, h6⟩
    rw [upd_ne fun z => h5 (by rw [hc, z])]
    exact h2
  sep := r.sep
theorem psd_cup {i k : Nat} {x : Str} {e : Expr} {f : DE} {p p2 tpos pos : Pos} {j : Nat} (hN : X.N[i]? = some x) (hv : Vis X.env.scope x) (hd : (x == ("__debug__" : Str)) = false) (hcd : (x == ("__classdict__" : Str)) = false) (hk : k < 2) (he : PD X Z N W e f)
    (hs : swapsWithSole [.Subscript (.Name x p) (.Constant (.int (k : Nat)) j p2) tpos] e pos.line X.env = pure false := by rfl) (hw : swappedStores [.Subscript (.Name x p) (.Constant (.int (k : Nat)) j p2) tpos] e X.env = pure none := by rfl) :
    PSD X Z N W (.Assign [.Subscript (.Name x p) (.Constant (.int (k : Nat)) j p2) tpos] e pos) (sCup i k f) :=
  ps_imp (ps_asg he (pg_sub (pe_var hN hv hd hcd) pe_int set_list (fun _ => rfl)) hs hw rfl) fun D σ H ⟨G, ca, env, c, rs, q⟩ => by
    refine ⟨G, ca, env, c, rs, ?_⟩
    simp only [sCup] at q
    cases e1 : env[i]? with
    | none => rw [e1] at q; exact q.elim
    | some sl =>
      rw [e1] at q
      cases sl with
      | val d =>
        cases d with
        | cup =>
          dsimp only at q
          cases e4 : f env c with
          | st => rw [e4] at q; exact q
          | er z c1 => rw [e4] at q; exact fun cls dd G' ca' H' h1 h2 h3 => q cls dd G' ca' σ H' h1 h3
          | ok rv c1 =>
            rw [e4] at q
            intro G1 ca1 H1 v s1 r1 w1
            simp only [F.of] at q
            cases e6 : rv.d with
            | int m =>
              rw [e6] at q
              obtain ⟨u, h1, h2⟩ := r1.val i _ e1
              cases h2 with
              | cup hc =>
                rename_i a
                obtain ⟨q1, q2⟩ := r1.r0.cup _ hc
                refine ⟨_, h1, a, _, ((k : Nat) : Int), k, rfl, rfl, q1, ?_, ?_⟩
                · have : k = 0 ∨ k = 1 := by omega
                  rcases this with rfl | rfl <;> rfl
                · have q : Fin (yOf X Z) N W D G1 ca1 (.nx env (cupPut c1 k m)) := Fin.up q s1.gr
                  have hv : v = .int m := atom_int w1 e6
                  subst hv
                  have e7 : ([V.int c1.a, V.int c1.b].set k (V.int m)) = [V.int (cupPut c1 k m).a, V.int (cupPut c1 k m).b] := by
                    have : k = 0 ∨ k = 1 := by omega
                    rcases this with rfl | rfl <;> rfl
                  rw [e7]
                  exact q G1 ca1 σ _ (r1.cupPut hc) .refl
            | _ => rw [e6] at q; exact q.elim
        | _ => exact q.elim
      | _ => exact q.elim
end
end DL

set_option Elab.async false
set_option linter.all false
set_option maxRecDepth 100000
set_option maxHeartbeats 4000000
set_option autoImplicit false
namespace DL
open PySem PySem.Spec PyProof.Rows L2
section
variable {X : Cx} {Z : Zp} {N : En} {W : WX} {Y : Yp}
/-! ### a chain as a test -/
theorem tdt_bl {f : DE} {σ : L2.St} {H : Hp} {Q : Bool → Hp → Prop} (h : tDT Y N W (tBl f) σ H Q) : tD Y N W f σ H (fun x H' => ∃ k, x = .bl k ∧ Q k H') := by
  obtain ⟨G, ca, env, c, rs, h⟩ := h
  refine ⟨G, ca, env, c, rs, ?_⟩
  simp only [tBl] at h
  cases e : f env c with
  | st => rw [e] at h; exact h
  | er x c1 => rw [e] at h; exact h
  | ok rv c1 =>
    rw [e] at h
    simp only [R.bind] at h
    intro G' ca' H' v s r w
    cases e2 : rv.d with
    | bl k =>
      rw [e2] at h
      exact ⟨k, td_bl (H := H') w e2, h G' ca' H' s r⟩
    | _ => rw [e2] at h; exact h.elim
theorem tdchain {op op' : Value → Value → PySem.Sem Value} {g g' : D → D → Option D} {fa fb fc : DE} {r r' : R2} {σ : L2.St} {H : Hp} {Q : VK}
    (h2 : ∀ (G : Hp) (ca : Option Addr) (H : Hp) (c : C) (x y : V) (dx dy d : D) (Q : VK), RS0 Y G ca H c → WtS Y G H ca x dx → WtS Y G H ca y dy → g dx dy = some d → Done Y G ca H c d Q → r x y H Q)
    (h2' : ∀ (G : Hp) (ca : Option Addr) (H : Hp) (c : C) (x y : V) (dx dy d : D) (Q : VK), RS0 Y G ca H c → WtS Y G H ca x dx → WtS Y G H ca y dy → g' dx dy = some d → Done Y G ca H c d Q → r' x y H Q)
    (h : tD Y N W (dChain g g' fa fb fc) σ H Q) : tChain r r' (tD Y N W fa) (tD Y N W fb) (tD Y N W fc) σ H Q := by
  obtain ⟨G, ca, env, c, rs, h⟩ := h
  refine ⟨G, ca, env, c, rs, ?_⟩
  simp only [dChain] at h
  cases e : fa env c with
  | st => rw [e] at h; exact h
  | er x c1 => rw [e] at h; exact h
  | ok x c1 =>
    rw [e] at h
    simp only [R.bind] at h
    intro G1 ca1 H1 vx s1 r1 w1
    refine ⟨G1, ca1, env, c1, r1, ?_⟩
    cases e2 : fb env c1 with
    | st => rw [e2] at h; exact h
    | er z c2 => rw [e2] at h; exact Bad.back h s1
    | ok y c2 =>
      rw [e2] at h
      dsimp only at h
      intro G2 ca2 H2 vy s2 r2 w2
      have s12 := s1.trans s2
      cases e3 : g x.d y.d with
      | none => rw [e3] at h; exact h.elim
      | some d =>
        rw [e3] at h
        refine h2 G2 ca2 H2 c2 vx vy x.d y.d d _ r2.r0 ((w1.step s2).read r2) (w2.read r2) e3 fun G3 H3 v s3 r3 w3 => ?_
        have rs3 := r2.step s3 r3
        have s123 := s12.trans s3
        cases d with
        | bl k =>
          cases w3
          refine ⟨k, rfl, ?_⟩
          cases k with
          | false => exact iteF (h G3 ca2 H3 _ s123 rs3 (.bl false))
          | true =>
            refine iteT ⟨G3, ca2, env, c2, rs3, ?_⟩
            dsimp only at h
            cases e4 : fc env c2 with
            | st => rw [e4] at h; exact h
            | er z c2 => rw [e4] at h; exact Bad.back h s123
            | ok z c4 =>
              rw [e4] at h
              dsimp only at h
              intro G4 ca4 H4 vz s4 r4 w4
              cases e5 : g' y.d z.d with
              | none => rw [e5] at h; exact h.elim
              | some d =>
                rw [e5] at h
                exact h2' G4 ca4 H4 c4 vy vz y.d z.d d _ r4.r0 (((w2.step s3).step s4).read r4) (w4.read r4) e5 fun G5 H5 v s5 r5 w5 => h G5 ca4 H5 v ((s123.trans s4).trans s5) (r4.step s5 r5) w5
        | _ => exact h.elim
theorem pdt_chain {op op' : CmpOp} {a b c : Expr} {g g' : D → D → Option D} {fa fb fc : DE} {pos : Pos} (ho : OpD X Z (compareOp op) g) (ho' : OpD X Z (compareOp op') g') (ha : PD X Z N W a fa) (hb : PD X Z N W b fb) (hc : PD X Z N W c fc)
    (hm : lastMarks [op, op'] [b, c] = false := by with_unfolding_all rfl) : PDT X Z N W (.Compare a [op, op'] [b, c] pos) (tBl (dChain g g' fa fb fc)) := by
  obtain ⟨r, h1, h2⟩ := ho
  obtain ⟨r', h1', h2'⟩ := ho'
  exact pt_imp (pt_chain h1 h1' ha hb hc hm) fun σ H Q h => tdchain (op := compareOp op) (op' := compareOp op') h2 h2' (tdt_bl h)
theorem pdt_cmp {op : CmpOp} {a b : Expr} {fa fb : DE} {g : D → D → Option D} {pos : Pos} (ho : OpD X Z (compareOp op) g) (ha : PD X Z N W a fa) (hb : PD X Z N W b fb) (hm : behindInMarks op b = false) : PDT X Z N W (.Compare a [op] [b] pos) (tBl (dO2 g fa fb)) := by
  obtain ⟨r, h1, h2⟩ := ho
  exact pt_imp (pt_cmpR h1 ha hb hm) fun σ H Q h => td2 h2 (tdt_bl h)
/-! ### several names at once -/
/-- is a no value of the new ones -/
def notNew : List (Nat × Bool) → List V → Addr → Prop
  | (_, true) :: ks, v :: vs, a => v ≠ .ref a ∧ notNew ks vs a
  | (_, false) :: ks, _ :: vs, a => notNew ks vs a
  | _, _, _ => True
/-- the values at hand: H0 is the heap ahead of them -/
inductive ParW (Y : Yp) (N : En) (H0 G : Hp) (ca : Option Addr) (H : Hp) (σ : L2.St) (env : Env) : List (Nat × Bool) → List V → List RV → Prop
  | nil : ParW Y N H0 G ca H σ env [] [] []
  | val {i : Nat} {v : V} {rv : RV} {ks : List (Nat × Bool)} {vs : List V} {rvs : List RV} : WtR Y G ca σ env v rv → ParW Y N H0 G ca H σ env ks vs rvs → ParW Y N H0 G ca H σ env ((i, false) :: ks) (v :: vs) (rv :: rvs)
  | new {i : Nat} {a : Addr} {us : List V} {ds : List D} {ks : List (Nat × Bool)} {vs : List V} {rvs : List RV} : NoO H0 a → H a = some (.lst us) → Wts Y G ca us ds → G a = none → ca ≠ some a → ds.length ≤ sizeL → notNew ks vs a →
      ParW Y N H0 G ca H σ env ks vs rvs → ParW Y N H0 G ca H σ env ((i, true) :: ks) (.ref a :: vs) (.pl (.lst ds) :: rvs)
theorem ParW.notNew {H0 G H : Hp} {ca : Option Addr} {σ : L2.St} {env : Env} {a : Addr} (ha : ¬ NoO H0 a) : ∀ {ks : List (Nat × Bool)} {vs : List V} {rvs : List RV}, ParW Y N H0 G ca H σ env ks vs rvs → DL.notNew ks vs a
  | _, _, _, .nil => trivial
  | _, _, _, .val _ r => r.notNew ha
  | _, _, _, .new h _ _ _ _ _ _ r => ⟨fun e => by cases e; exact ha h, r.notNew ha⟩
theorem ParW.back {H0 H1 G H : Hp} {ca : Option Addr} {σ : L2.St} {env : Env} (hb : ∀ a, NoO H1 a → NoO H0 a) : ∀ {ks : List (Nat × Bool)} {vs : List V} {rvs : List RV}, ParW Y N H1 G ca H σ env ks vs rvs → ParW Y N H0 G ca H σ env ks vs rvs
  | _, _, _, .nil => .nil
  | _, _, _, .val w r => .val w (r.back hb)
  | _, _, _, .new h h1 h2 h3 h4 h5 h6 r => .new (hb _ h) h1 h2 h3 h4 h5 h6 (r.back hb)
def tDM (Y : Yp) (N : En) (W : WX) (ks : List (Nat × Bool)) (f : DA) : TA := fun σ H Q => ∃ G ca env c, RS Y N G ca σ H env c ∧ (match f env c with
  | .ok rvs c' => ∀ G' ca' H' vs, Stp G ca H G' ca' H' → RS Y N G' ca' σ H' env c' → ParW Y N H G' ca' H' σ env ks vs rvs → Q vs H'
  | .er x c' => Bad Y N W σ env x c' G ca H
  | .st => False)
abbrev PDM (X : Cx) (Z : Zp) (N : En) (W : WX) (ks : List (Nat × Bool)) (es : List Expr) (fs : List DE) : Prop := PA X es (tDM (yOf X Z) N W ks (dArgs fs))
theorem pdm_nil : PDM X Z N W [] [] [] := pa_imp pa_nil fun σ H Q ⟨G, ca, env, c, r, h⟩ => h _ _ _ [] .refl r .nil
theorem pdm_val {i : Nat} {ks : List (Nat × Bool)} {e : Expr} {es : List Expr} {f : DE} {fs : List DE} (ha : PD X Z N W e f) (hr : PDM X Z N W ks es fs) (hs : starEach (e :: es) X.env = (false, eval e X.env) :: starEach es X.env := by rfl) : PDM X Z N W ((i, false) :: ks) (e :: es) (f :: fs) := by
  refine pa_imp (pa_cons ha hr hs) fun σ H Q h => ?_
  obtain ⟨G, ca, env, c, rs, h⟩ := h
  refine ⟨G, ca, env, c, rs, ?_⟩
  simp only [dArgs] at h
  cases e : f env c with
  | st => rw [e] at h; exact h
  | er x c1 => rw [e] at h; exact h
  | ok x c1 =>
    rw [e] at h
    simp only [R.bind] at h
    intro G1 ca1 H1 vx s1 r1 w1
    refine ⟨G1, ca1, env, c1, r1, ?_⟩
    cases e2 : dArgs fs env c1 with
    | st => rw [e2] at h; exact h
    | er z c2 => rw [e2] at h; exact Bad.back h s1
    | ok ys c2 =>
      rw [e2] at h
      intro G2 ca2 H2 vs s2 r2 w2
      exact h G2 ca2 H2 (vx :: vs) (s1.trans s2) r2 (.val (w1.step s2) (w2.back fun a z => s1.dm a z))
theorem pdm_new {i : Nat} {ks : List (Nat × Bool)} {e : Expr} {es : List Expr} {f : DE} {fs : List DE} (ha : PDO X Z N W e f) (hf : ∀ env c c' rv, f env c = .ok rv c' → ∃ ds, rv = .pl (.lst ds)) (hr : PDM X Z N W ks es fs) (hs : starEach (e :: es) X.env = (false, eval e X.env) :: starEach es X.env := by rfl) : PDM X Z N W ((i, true) :: ks) (e :: es) (f :: fs) := by
  refine pa_imp (pa_cons ha hr hs) fun σ H Q h => ?_
  obtain ⟨G, ca, env, c, rs, h⟩ := h
  refine ⟨G, ca, env, c, rs, ?_⟩
  simp only [dArgs] at h
  cases e : f env c with
  | st => rw [e] at h; exact h
  | er x c1 => rw [e] at h; exact h
  | ok x c1 =>
    rw [e] at h
    simp only [R.bind] at h
    obtain ⟨ds, rfl⟩ := hf _ _ _ _ e
    refine ⟨ds, rfl, fun G1 ca1 H1 a us s1 r1 hn hA gA nA w1 l1 => ?_⟩
    refine ⟨G1, ca1, env, c1, r1, ?_⟩
    cases e2 : dArgs fs env c1 with
    | st => rw [e2] at h; exact h
    | er z c2 => rw [e2] at h; exact Bad.back h s1
    | ok ys c2 =>
      rw [e2] at h
      intro G2 ca2 H2 vs s2 r2 w2
      have hA2 : H2 a = some (.lst us) := s2.fr a _ hA notbl nA
      have gA2 : G2 a = none := by
        cases q : G2 a with
        | none => rfl
        | some o =>
          rcases s2.nw a o q with z | z
          · rw [gA] at z; cases z
          · exact (z.no hA notbl).elim
      have nA2 : ca2 ≠ some a := fun q => by
        rcases s2.cn a q with z | z
        · exact nA z
        · exact z.no hA notbl
      exact h G2 ca2 H2 (.ref a :: vs) (s1.trans s2) r2 (.new hn hA2 (Wts.mono s2.le s2.cl w1) gA2 nA2 l1 (w2.notNew fun z => z.no hA notbl) (w2.back fun a z => s1.dm a z))
/-! ### .. stored -/
def stS : List (Nat × Bool) → List V → L2.St → L2.St
  | (i, _) :: ks, v :: vs, σ => stS ks vs (σ.set i (some v))
  | _, _, σ => σ
def Apart (ks : List (Nat × Bool)) (vs : List V) (σ : L2.St) (env : Env) : Prop := ∀ (j : Nat) (xs : List D) (a : Addr), env[j]? = some (.own xs) → σ[j]? = some (some (.ref a)) → notNew ks vs a
theorem wtr_pl {G : Hp} {ca : Option Addr} {σ : L2.St} {env : Env} {v : V} {d : D} (w : WtR Y G ca σ env v (.pl d)) : Wt Y G ca v d := w
theorem RS.par {H0 G H : Hp} {ca : Option Addr} {c : C} {σ0 : L2.St} {env0 : Env} (hN : ∀ a, NoO H0 a → NoO N.H a) {ks : List (Nat × Bool)} {vs : List V} {rvs : List RV} (p : ParW Y N H0 G ca H σ0 env0 ks vs rvs) :
    ∀ {σ : L2.St} {env env' : Env}, RS Y N G ca σ H env c → Apart ks vs σ env → parSet ks rvs env = some env' → RS Y N G ca (stS ks vs σ) H env' c := by
  induction p with
  | nil =>
    intro σ env env' r ap e
    cases e
    exact r
  | @val i v rv ks vs rvs w p ih =>
    intro σ env env' r ap e
    cases rv with
    | ow j xs => cases e
    | pl d =>
      refine ih (r.set (i := i) (wtr_pl w)) (fun j xs a h1 h2 => ?_) e
      by_cases hj : i = j
      · subst hj
        rw [List.getElem?_set] at h1
        by_cases hl : i < env.length
        · rw [if_pos rfl, if_pos hl] at h1; cases h1
        · rw [if_pos rfl, if_neg hl] at h1; cases h1
      · rw [List.getElem?_set_ne hj] at h1 h2
        exact ap j xs a h1 h2
  | @new i a us ds ks vs rvs h h1 h2 h3 h4 h5 h6 p ih =>
    intro σ env env' r ap e
    refine ih (r.setOwn (i := i) h1 h2 h3 h4 (hN _ h) h5 fun j xs q1 q2 => (ap j xs _ q1 q2).1 rfl) (fun j xs b q1 q2 => ?_) e
    by_cases hj : i = j
    · subst hj
      rw [List.getElem?_set] at q1 q2
      by_cases hl : i < env.length
      · rw [if_pos rfl, if_pos (by rw [← r.len]; exact hl)] at q2
        cases q2
        exact h6
      · rw [if_pos rfl, if_neg hl] at q1; cases q1
    · rw [List.getElem?_set_ne hj] at q1 q2
      exact (ap j xs b q1 q2).2
theorem tpar {D : Ends} {σ : L2.St} {H : Hp} {ks : List (Nat × Bool)} {es : List DE} {Q : List V → Hp → Prop} (h : tS Y N W (sPar ks es) D σ H) (hq : ∀ vs H', D.nx (stS ks vs σ) H' → vs.length = ks.length → Q vs H') : tDM Y N W ks (dArgs es) σ H Q := by
  obtain ⟨G, ca, env, c, rs, h⟩ := h
  refine ⟨G, ca, env, c, rs, ?_⟩
  simp only [sPar] at h
  cases e : dArgs es env c with
  | st => rw [e] at h; exact h
  | er x c1 =>
    rw [e] at h
    exact fun cls dd G' ca' H' h1 h2 h3 => h cls dd G' ca' σ H' h1 h3
  | ok rvs c1 =>
    rw [e] at h
    simp only [F.of] at h
    intro G' ca' H' vs s r w
    cases e2 : parSet ks rvs env with
    | none => rw [e2] at h; exact h.elim
    | some env' =>
      rw [e2] at h
      have hl : ∀ {ks : List (Nat × Bool)} {vs : List V} {rvs : List RV}, ParW Y N H G' ca' H' σ env ks vs rvs → vs.length = ks.length := by
        intro ks vs rvs w
        induction w with
        | nil => rfl
        | val _ _ ih => simp [ih]
        | new _ _ _ _ _ _ _ _ ih => simp [ih]
      refine hq vs H' (h G' ca' _ H' (RS.par (fun a z => rs.st.dm a z) w r (fun j xs a q1 q2 => w.notNew ?_) e2) s.gr) (hl w)
      obtain ⟨b, us, p1, p2, _⟩ := rs.own j xs q1
      rw [q2] at p1
      cases p1
      exact fun z => z.no p2 notbl
theorem psd_par2 {i j : Nat} {b1 b2 : Bool} {x y : Str} {a b : Expr} {fs : List DE} {px py pt pos : Pos} {kt k2 pt2} (hc : X.calm = true) (hN : X.N.Nodup) (hi : X.N[i]? = some x) (hj : X.N[j]? = some y) (hij : i ≠ j)
    (hx : X.env.scope.names.lookup x = some .local) (hy : X.env.scope.names.lookup y = some .local) (ha : PDM X Z N W [(i, b1), (j, b2)] [a, b] fs)
    (hw : swappedStores [.Tuple [.Name x px, .Name y py] kt pt] (.Tuple [a, b] k2 pt2) X.env = pure (some [x, y]))
    (hs : swapsWithSole [.Tuple [.Name x px, .Name y py] kt pt] (.Tuple [a, b] k2 pt2) pos.line X.env = pure false := by rfl) : PSD X Z N W (.Assign [.Tuple [.Name x px, .Name y py] kt pt] (.Tuple [a, b] k2 pt2) pos) (sPar [(i, b1), (j, b2)] fs) :=
  ps_imp (ps_par hc hN hi hj hij hx hy ha hw hs) fun D σ H h => tpar h fun vs H' q hl => by
    match vs, hl with
    | [v, w], _ => exact ⟨v, w, rfl, q⟩
theorem psd_par3 {i j l : Nat} {b1 b2 b3 : Bool} {x y z : Str} {a b c : Expr} {fs : List DE} {px py pz pt pos : Pos} {kt k2 pt2} (hc : X.calm = true) (hN : X.N.Nodup) (hi : X.N[i]? = some x) (hj : X.N[j]? = some y) (hl : X.N[l]? = some z) (hij : i ≠ j) (hil : i ≠ l) (hjl : j ≠ l)
    (hx : X.env.scope.names.lookup x = some .local) (hy : X.env.scope.names.lookup y = some .local) (hz : X.env.scope.names.lookup z = some .local) (ha : PDM X Z N W [(i, b1), (j, b2), (l, b3)] [a, b, c] fs)
    (hw : swappedStores [.Tuple [.Name x px, .Name y py, .Name z pz] kt pt] (.Tuple [a, b, c] k2 pt2) X.env = pure (some [x, y, z]))
    (hs : swapsWithSole [.Tuple [.Name x px, .Name y py, .Name z pz] kt pt] (.Tuple [a, b, c] k2 pt2) pos.line X.env = pure false := by rfl) : PSD X Z N W (.Assign [.Tuple [.Name x px, .Name y py, .Name z pz] kt pt] (.Tuple [a, b, c] k2 pt2) pos) (sPar [(i, b1), (j, b2), (l, b3)] fs) :=
  ps_imp (ps_par3 hc hN hi hj hl hij hil hjl hx hy hz ha hw hs) fun D σ H h => tpar h fun vs H' q hl => by
    match vs, hl with
    | [u, v, w], _ => exact ⟨u, v, w, rfl, q⟩
/-- names as targets, one after another -/
def gM (ks : List (Nat × Bool)) : TGs := fun vs σ H Q => vs.length = ks.length ∧ Q (stS ks vs σ) H
abbrev PGM (X : Cx) (ks : List (Nat × Bool)) (es : List Expr) : Prop := PGs X es (gM ks)
theorem pgm_nil : PGM X [] [] := pgs_imp pgs_nil fun vs σ H Q h => by
  match vs, h with
  | [], h => exact ⟨rfl, h.2⟩
theorem pgm_cons {i : Nat} {b : Bool} {x : Str} {pos : Pos} {ks : List (Nat × Bool)} {es : List Expr} (hN : X.N.Nodup) (hi : X.N[i]? = some x) (hx : Loc X.env.scope x) (hf : X.fn x = true ∨ X.env.scope.names.lookup x = some .local) (hr : PGM X ks es)
    (hs : (assignEach (.Name x pos :: es) X.env).map (·.2) = assign (.Name x pos) X.env :: (assignEach es X.env).map (·.2) := by rfl) : PGM X ((i, b) :: ks) (.Name x pos :: es) :=
  pgs_imp (pgs_cons (pg_name hN hi hx hf) hr hs) fun vs σ H Q h => by
    match vs, h with
    | v :: vs, h => exact ⟨v, vs, rfl, by simpa using h.1, h.2⟩
theorem psd_parT {ks : List (Nat × Bool)} {es tgs : List Expr} {fs : List DE} {k k2 : _} {pt pt2 pos : Pos} (hc : X.calm = true) (ha : PDM X Z N W ks es fs) (hg : PGM X ks tgs) (hlen : tgs.length = ks.length) (hl : ks.length ≤ 1000 := by decide)
    (hn : (assignEach tgs X.env).length = tgs.length := by rfl) (hst : (assignEach tgs X.env).findIdx? (·.1) = none := by rfl)
    (hs : swapsWithSole [.Tuple tgs k pt] (.Tuple es k2 pt2) pos.line X.env = pure false := by rfl) (hw : swappedStores [.Tuple tgs k pt] (.Tuple es k2 pt2) X.env = pure none := by rfl)
    (h1 : (assignEach [.Tuple tgs k pt] X.env).map (·.2) = [assign (.Tuple tgs k pt) X.env] := by rfl) : PSD X Z N W (.Assign [.Tuple tgs k pt] (.Tuple es k2 pt2) pos) (sPar ks fs) :=
  ps_imp (ps_asg (pe_tup ha) (pg_tup hc hg hn hst) hs hw h1) fun D σ H h => by
    obtain ⟨G, ca, env, c, rs, h⟩ := h
    refine ⟨G, ca, env, c, rs, ?_⟩
    simp only [sPar] at h
    cases e : dArgs fs env c with
    | st => rw [e] at h; exact h
    | er x c1 =>
      rw [e] at h
      exact fun cls dd G' ca' H' h1 h2 h3 => h cls dd G' ca' σ H' h1 h3
    | ok rvs c1 =>
      rw [e] at h
      simp only [F.of] at h
      intro G' ca' H' vs s r w
      cases e2 : parSet ks rvs env with
      | none => rw [e2] at h; exact h.elim
      | some env' =>
        rw [e2] at h
        have hl' : ∀ {ks : List (Nat × Bool)} {vs : List V} {rvs : List RV}, ParW (yOf X Z) N H G' ca' H' σ env ks vs rvs → vs.length = ks.length := by
          intro ks vs rvs w
          induction w with
          | nil => rfl
          | val _ _ ih => simp [ih]
          | new _ _ _ _ _ _ _ _ ih => simp [ih]
        have hv := hl' w
        refine ⟨Nat.le_of_lt (small1000 (by rw [hv]; exact hl)), fun p hp => ⟨p, vs, rfl, .inl (.inl upd_same), by rw [hv, hlen], hv, ?_⟩⟩
        have r' := RS.par (fun a z => rs.st.dm a z) w r (fun j xs a q1 q2 => w.notNew (by
          obtain ⟨b, us, p1, p2, _⟩ := rs.own j xs q1
          rw [q2] at p1
          cases p1
          exact fun z => z.no p2 notbl)) e2
        exact h G' ca' _ _ (r'.step (.new hp) (r'.r0.new hp)) s.gr
/-! ### a function of a module -/
theorem pd_callI {x : Str} {id : String} {e : Expr} {es : List Expr} {fs : List DE} {g : List D → Option D} {p pos : Pos} (hc : CallD X Z (.builtin id) g) (hg : Gl X x) (hm : X.mg x = some (.builtin id)) (ha : PDA X Z N W (e :: es) (dArgs fs)) (hdb : (x == ("__debug__" : Str)) = false)
    (he : starEach (e :: es) X.env = (false, eval e X.env) :: starEach es X.env := by rfl) (hpl : (backTo pos (starEach es X.env)).any (·.1) = false := by rfl) : PD X Z N W (.Call (.Name x p) (e :: es) [] pos) (dB g fs) := by
  obtain ⟨r, h1, h2⟩ := hc
  exact pe_imp (pe_callBfun h1 hg hm ha hdb he hpl) fun σ H Q h => tdb h2 h
theorem cd_gcd : CallD X Z (.builtin "math.gcd") m_gcd := ⟨_, cr_gcd, fun G ca H c xs ds d Q rs w e k => by
  unfold m_gcd at e
  split at e
  · cases e
    match xs, w with
    | [_, _], .cons w1 (.cons w2 .nil) =>
      have e1 := (w1.atom fun _ z => by cases z)
      have e2 := (w2.atom fun _ z => by cases z)
      cases e1
      cases e2
      exact ⟨_, _, rfl, k.here rs (.int _)⟩
  · cases e⟩
end
end DL

set_option Elab.async false
set_option linter.all false
set_option maxRecDepth 100000
set_option maxHeartbeats 4000000
set_option autoImplicit false
set_option exponentiation.threshold 20000
namespace DL
open PySem PySem.Spec PyProof.Rows L2 PySem.W PySem.Calls
theorem entry_comb : entryFor table "math.comb" = some Builtin.«math.comb» := entryFor_of_tree (by kernel_rfl)
theorem kind_comb : builtinKind "math.comb" = none := by kernel_rfl
theorem plain_comb : plainId "math.comb" = true := by decide +kernel
theorem args_comb (a b : Value) : argsOk "math.comb" ⟨[a, b], []⟩ := by unfold argsOk; kernel_rfl
theorem run_comb0 (a : Int) (t : Tok) (b : Int) (u : Tok) (h1 : ¬ a < 0) (h2 : ¬ b < 0) (h3 : b > a) :
    Gives (Builtin.«math.comb» ⟨[.int a t, .int b u], []⟩) (.int 0) :=
  .of_wp fun M A E s Q h => by obtain ⟨hp, g, d, tk, os⟩ := s; wp_walk; exact ⟨_, rfl, h⟩
theorem run_comb (a : Int) (t : Tok) (b : Int) (u : Tok) (h1 : ¬ a < 0) (h2 : ¬ b < 0) (h3 : ¬ b > a) (h4 : ¬ min b (a - b) > Builtin.Math.maxSsize) (h5 : ¬ min b (a - b) > Builtin.Math.manyFactors) (h6 : ¬ min b (a - b) > 9000)
    (hsz : (Builtin.Math.fallingProduct a (min b (a - b)).toNat / Builtin.Math.fallingProduct (min b (a - b)) (min b (a - b)).toNat).natAbs.log2 < bitsLine) :
    Gives (Builtin.«math.comb» ⟨[.int a t, .int b u], []⟩) (.int (Builtin.Math.fallingProduct a (min b (a - b)).toNat / Builtin.Math.fallingProduct (min b (a - b)) (min b (a - b)).toNat)) :=
  .of_wp fun M A E s Q h => by obtain ⟨hp, g, d, tk, os⟩ := s; wp_walk; exact ⟨_, rfl, h⟩
theorem fallD_le {n : Int} (h0 : 0 ≤ n) (h1 : n ≤ 1000) : ∀ k : Nat, k ≤ 1000 → (fallD n k).natAbs ≤ 1024 ^ k
  | 0, _ => Nat.le_refl 1
  | k + 1, hk => by
    have ih := fallD_le h0 h1 k (by omega)
    unfold fallD at ih ⊢
    rw [List.range_succ, List.foldl_append, List.foldl_cons, List.foldl_nil, Int.natAbs_mul, Nat.pow_succ]
    exact Nat.mul_le_mul ih (by omega)
theorem comb_small {n k : Int} (h0 : 0 ≤ n) (h1 : n ≤ 1000) (hk : 0 ≤ k) (hk2 : k ≤ n) : (fallD n (min k (n - k)).toNat / fallD (min k (n - k)) (min k (n - k)).toNat).natAbs.log2 < bitsLine := by
  have hm : (min k (n - k)).toNat ≤ 1000 := by omega
  have h := fallD_le h0 h1 (min k (n - k)).toNat hm
  have h2 : (fallD n (min k (n - k)).toNat / fallD (min k (n - k)) (min k (n - k)).toNat).natAbs ≤ 1024 ^ (min k (n - k)).toNat := Nat.le_trans (Int.natAbs_ediv_le_natAbs _ _) h
  have h3 : (1024 : Nat) ^ (min k (n - k)).toNat ≤ 1024 ^ 1000 := Nat.pow_le_pow_right (by decide) hm
  have h4 : (1024 : Nat) ^ 1000 = 2 ^ 10000 := by
    rw [show (1024 : Nat) = 2 ^ 10 from rfl, ← Nat.pow_mul]
  by_cases e : (fallD n (min k (n - k)).toNat / fallD (min k (n - k)) (min k (n - k)).toNat).natAbs = 0
  · rw [e]; decide
  · rw [Nat.log2_lt e]
    refine Nat.lt_of_le_of_lt h2 (Nat.lt_of_le_of_lt h3 ?_)
    rw [h4]
    exact Nat.pow_lt_pow_right (by decide) (by decide)
section
variable {X : Cx} {Z : Zp} {N : En} {W : WX} {Y : Yp}
def rComb : List V → Hp → VK → Prop := fun vs H Q => ∃ n k : Int, vs = [.int n, .int k] ∧ 0 ≤ n ∧ 0 ≤ k ∧ n ≤ 1000 ∧ Q (.int (if k > n then 0 else fallD n (min k (n - k)).toNat / fallD (min k (n - k)) (min k (n - k)).toNat)) H
theorem cr_comb : CallR X (.builtin "math.comb") rComb := by
  intro pins s σ H vs us Q I r h
  obtain ⟨n, k, rfl, h0, hk, h1, q⟩ := h
  obtain ⟨t, u, rfl⟩ := Vals.int2 r
  by_cases e : k > n
  · rw [if_pos e] at q
    exact call_function_meets kind_comb plain_comb entry_comb (args_comb _ _) (run_comb0 n t k u (by omega) (by omega) e).meets ⟨.int _, H, I.tok _, ⟨_, rfl⟩, q⟩
  · rw [if_neg e] at q
    exact call_function_meets kind_comb plain_comb entry_comb (args_comb _ _) (run_comb n t k u (by omega) (by omega) e (by unfold Builtin.Math.maxSsize; omega) (by unfold Builtin.Math.manyFactors; omega) (by omega) (comb_small h0 h1 hk (by omega))).meets ⟨.int _, H, I.tok _, ⟨_, rfl⟩, q⟩
theorem cd_comb : CallD X Z (.builtin "math.comb") m_comb := ⟨_, cr_comb, fun G ca H c xs ds d Q rs w e k => by
  unfold m_comb at e
  split at e
  · split at e
    · rename_i hh
      cases e
      match xs, w with
      | [_, _], .cons w1 (.cons w2 .nil) =>
        have e1 := (w1.atom fun _ z => by cases z)
        have e2 := (w2.atom fun _ z => by cases z)
        cases e1
        cases e2
        exact ⟨_, _, rfl, hh.1, hh.2.1, hh.2.2, k.here rs (.int _)⟩
    · cases e
  · cases e⟩
end
/-! ### a def called too deep: no promise -/
section
variable {P : Program} {w : World} {K : PySem.W.Frag} {mg : Str → Option Value} {base : Heap} {Z : Zp}
theorem fnD_none {x : Str} {st : Stmt} {f : Addr} {fd : FuncData} {Nm ps : List Str} {k n : Nat} (F : L2.Fun K x x st f fd) (S : FnScope Nm ps (defScope st)) (hm : mg x = some (.ref f)) (hb : Binds K fd ps []) (hn : ps.length = n) : FnD P w K mg base Z k x n (fun _ _ => .st) := by
  refine ⟨f, fd, ps, hm, F.kp, hb, hn, ⟨fun vs H Q E h => h.1.trans hn.symm, fun A outer s H args us vs Q E hr _ _ _ h => ?_⟩⟩
  obtain ⟨hl, G, ca, c, ds, r, w, h⟩ := h
  exact h.elim
end
end DL
namespace DL
open PySem PySem.Spec PyProof.Rows L2
section
variable {X : Cx} {Z : Zp} {N : En} {W : WX}
theorem pd_gk {x : Str} {v : V} {d : D} {pos : Pos} (hg : Gl X x) (hm : ∃ u, X.mg x = some u ∧ RelV v u) (w : ∀ G ca, Wt (yOf X Z) G ca v d) (hd : (x == ("__debug__" : Str)) = false) : PD X Z N W (.Name x pos) (dC d) := by
  obtain ⟨u, h1, h2⟩ := hm
  exact pd_glob hg h1 h2 w hd
end
end DL

set_option Elab.async false
set_option linter.all false
set_option maxRecDepth 100000
set_option maxHeartbeats 4000000
set_option autoImplicit false
/-! ## a lambda handed to a def that calls it under try, exceptions noted with their context -/
namespace DL
open PySem PySem.Spec PyProof.Rows L2 LamX
/-- the lambda's body's context -/
abbrev lcx (X : Cx) (A : Around) (outer : List PySem.Env) (s : Shared) (H : Hp) (E : XK) (scope : Scope) (f c' : Addr) : Cx :=
  (lamCx X A outer s H E scope f c').tr [] fun u t => wpAny (model X.prog X.w) (A.deeper (lamEnv X scope s.heap.objs.size f c')) (leaving (lamEnv X scope s.heap.objs.size f c') u)
    (fun _ t' => L2N.CX X.prog X.w outer H s E u t') (fun u' t' => L2N.CX X.prog X.w outer H s E u' t') t
/-- the context of the def that gets the lambda -/
abbrev gcx (X : Cx) (Ng : List Str) (x : Str) (sg : Scope) (g : Addr) (cdg : Value) (s : Shared) (H : Hp) : Cx := cxOf C8.CX0 X.prog X.w X.K X.mg X.base Ng x sg g cdg X.A X.stack s H C8.E0
section
variable {X : Cx} {pins : List (Addr × Obj)} {σ : L2.St} {H : Hp} {s : Shared}
theorem act_lam {Ng : List Str} {qg a : Str} {sg scope : Scope} {g f c' : Addr} {cdg pm ctv : Value} {params : Arguments} {body : Expr} {k i : Nat} {pn : List (Addr × Obj)} {xe : Value → Shared → Prop} {W : WX} {tb : XK → TE} {p1 p2 : Pos}
    (inv : Inv X pins σ H s) (ls : LamS X.env.scope scope) (fobj : s.heap.get? f = some (PySem.W.kla_obj "<lambda>" (X.env.qual ++ "<lambda>") params body scope (cloFrom X.env.cells scope.names []) pm c' ctv)) (fno : H f = none) (fst : f ∉ frs X.stack)
    (bnd : bindArgs (PySem.W.kla_fn "<lambda>" (X.env.qual ++ "<lambda>") params body scope (cloFrom X.env.cells scope.names []) pm (.ref c') ctv) ⟨[], []⟩ = pure [])
    (tk : L2N.Takes ((gcx X Ng qg sg g cdg s H).tr pn xe) W) (rm : Room (k + 1) (X.A.deeper (envOfC qg sg s.heap.objs.size g cdg)))
    (bd : ∀ (A : Around) (outer : List PySem.Env) (s : Shared) (H : Hp) (E : XK), Room k (A.deeper (lamEnv X scope s.heap.objs.size f c')) → PE (lcx X A outer s H E scope f c') body (tb E))
    (hNa : Ng[i]? = some a) (vis : Vis sg a) (nd1 : (a == ("__debug__" : Str)) = false) (nd2 : (a == ("__classdict__" : Str)) = false) :
    PE ((gcx X Ng qg sg g cdg s H).tr pn xe) (.Call (.Name a p1) [] [] p2)
      (fun τ HZ Q => τ[i]? = some (some (.ref f)) ∧ HZ c' = some (CodeO c' (X.env.qual ++ "<lambda>")) ∧ tb (fun cls d H' => W cls d τ H') σ HZ Q) := by
  refine ⟨fun pz sz τ HZ Q iz hh => ?_⟩
  obtain ⟨atf, code, tail⟩ := hh
  refine wpAny_Call_Name_kw (thn ((pe_var (pos := p1) (i := i) hNa vis nd1 nd2).run pz sz τ HZ (fun v H1 => v = .ref f ∧ H1 = HZ) iz ⟨.ref f, atf, rfl, rfl⟩) fun u t1 ⟨v, H1, J1, rel, ev, eh⟩ => ?_)
  subst ev
  rw [eh] at J1
  obtain rfl : u = Value.ref f := rel
  have still : t1.heap.get? f = some (PySem.W.kla_obj "<lambda>" (X.env.qual ++ "<lambda>") params body scope (cloFrom X.env.cells scope.names []) pm c' ctv) := J1.base.keep f _ fobj fno fst (fun z => nomatch (show f ∈ ([] : List Addr) from z))
  refine PySem.W.callWith_F0 ⟨_, _, _, _, still⟩ ?_
  have unc : Un (frs X.stack) [] H HZ s.heap t1.heap := J1.base
  obtain ⟨⟨oc, vs, tt, g1, g2, g3⟩, _, _⟩ := J1.hok c' _ code
  have inner : codeAny (model X.prog X.w) (X.A.deeper (envOfC qg sg s.heap.objs.size g cdg)) (.call (.ref f) ⟨[], []⟩) (CR (L2N.CX X.prog X.w) (envOfC qg sg s.heap.objs.size g cdg :: X.stack) X.prog X.w HZ t1 Q (fun cls d H' => W cls d τ H')) t1 := by
    refine PySem.W.kla_callFunE rm.depth still rfl ls.co ls.gen rfl ⟨c', oc, vs, tt, rfl, g1, g2, g3⟩ ?_
    rw [bnd]
    refine wpAny_pure (wpAny_newFunctionEnv (fun y hy => (ls.own y hy).2) (fun y hy => absurd hy (by simp)) (fun h₁ ns sb => ⟨J1.nolimit.fresh _ sb, ?_⟩) ls.kind)
    show codeAny _ _ (.expr body (lamEnv X scope t1.heap.objs.size f c')) _ _
    have kept : ∀ b o, t1.heap.get? b = some o → h₁.get? b = some o := fun b o e => sb.extBut b o (Nat.ne_of_lt (Heap.lt_size e)) (Heap.get?_push_of_some _ e)
    have lamI := lam_start2 (A := X.A.deeper (envOfC qg sg s.heap.objs.size g cdg)) (outer := envOfC qg sg s.heap.objs.size g cdg :: X.stack) (E := fun cls d H' => W cls d τ H') (tk := t1.toks + ([] : List (Str × Value)).length) (c' := c') (f := f) inv ls J1.env0 rm.hd unc ns kept
    refine PySem.W.kla_codeExpr (wpAny_mono ((bd _ _ t1 HZ _ (rm.deeper _)).run [] _ _ HZ Q (lamI.toTry _) tail) (fun v s' hq => ?_) fun e s' hq => hq)
    obtain ⟨w', H', J', rv, q⟩ := hq
    exact ⟨w', H', J'.os, J'.bare, J'.base, J'.hok, rv, q⟩
  refine wpAny_call (codeAny_mono inner fun r s' hq => ?_)
  cases r with
  | error e => exact L2N.passAt tk τ pz HZ t1 e s' J1 hq
  | ok fl =>
    cases fl with
    | ret u => exact J1.after hq
    | next => exact False.elim hq
    | brk => exact False.elim hq
    | cont => exact False.elim hq
/-- what the getting def's body keeps: TT, of the lambda's reading tl -/
def Gets (X : Cx) (Ng : List Str) (x : Str) (sg : Scope) (g : Addr) (cdg : Value) (bg : List Stmt) (a : Str) (q : Str) (TT : (XK → Hp → VK → Prop) → Hp → VK → Prop) : Prop :=
  ∀ (f c' : Addr) (s : Shared) (H : Hp) (Q : VK) (tl : XK → Hp → VK → Prop),
    (∀ (W : WX) (pn : List (Addr × Obj)) (xe : Value → Shared → Prop) (p1 p2 : Pos), L2N.Takes ((gcx X Ng x sg g cdg s H).tr pn xe) W →
      PE ((gcx X Ng x sg g cdg s H).tr pn xe) (.Call (.Name a p1) [] [] p2) (fun τ HZ Q => τ[0]? = some (some (.ref f)) ∧ HZ c' = some (CodeO c' q) ∧ tl (fun cls d H' => W cls d τ H') HZ Q)) →
    H c' = some (CodeO c' q) → TT tl H Q → L2H.RoomH 0 (gcx X Ng x sg g cdg s H).A →
    ∃ t, PSs (gcx X Ng x sg g cdg s H).nox bg t ∧ t { nx := fun _ H' => Q .non H', rt := Q } (L2.start Ng [.ref f]) H
theorem pe_give {T : List (Addr × Str)} {TT : (XK → Hp → VK → Prop) → Hp → VK → Prop} {x a : Str} {g c P : Addr} {k : Nat} {pg : Arguments} {bg : List Stmt} {sg scope : Scope} {dV kV doc pm cdv ct oc : Value} {an od : Option Addr} {osl : Array (Option Value)} {Ng : List Str}
    {params : Arguments} {body : Expr} {t : XK → TE} {p lpos pos : Pos} (gl : Gl X x) (mg : X.mg x = some (.ref g)) (kp : PySem.W.keepIn X.K (.ref g) = true)
    (lk : X.K.lookup g = some ⟨oc, od, .func (PySem.W.fnOf x x pg bg sg dV kV doc pm an cdv ct), osl⟩) (cin : PySem.W.codeIn X.K cdv x = true) (bs : L2.Binds X.K (PySem.W.fnOf x x pg bg sg dV kV doc pm an cdv ct) [a] []) (fs : FnScope Ng [a] sg) (n0 : Ng[0]? = some a) (vis : Vis sg a)
    (gets : Gets X Ng x sg g cdv bg a (X.env.qual ++ "<lambda>") TT)
    (tabs : TabB X.base X.mg c P) (code : X.env.code = .ref c) (inT : (P, X.env.qual ++ "<lambda>") ∈ T) (uniq : ∀ p ∈ T, p.1 = P → p.2 = X.env.qual ++ "<lambda>") (rm : Room (k + 2) X.A) (ls : LamS X.env.scope scope) (nodef : defaultsOf params X.env = ([], []))
    (bnd : ∀ (q : Str) (cl : List (Str × Addr)) (pm cv ctv : Value), bindArgs (PySem.W.kla_fn "<lambda>" q params body scope cl pm cv ctv) ⟨[], []⟩ = pure [])
    (bd : ∀ (A : Around) (outer : List PySem.Env) (s : Shared) (H : Hp) (E : XK) (f c' : Addr), Room k (A.deeper (lamEnv X scope s.heap.objs.size f c')) → PE (lcx X A outer s H E scope f c') body (t E))
    (nd0 : (x == ("__debug__" : Str)) = false) (nd1 : (a == ("__debug__" : Str)) = false) (nd2 : (a == ("__classdict__" : Str)) = false) :
    PE X (.Call (.Name x p) [.Lambda params body scope lpos] [] pos) (tLam T TT t) := by
  refine ⟨fun pins s σ H Q I hh => ?_⟩
  obtain ⟨tb0, hh⟩ := hh
  refine wpAny_Call_Name_kw (ld_glob I gl mg ?_ nd0)
  refine PySem.W.callWith_K (h₀ := X.base) I.ok.mod.kin kp ?_ (by rfl) (by rfl)
  show wpAny _ _ (spliced ((false, eval (.Lambda params body scope lpos) X.env) :: backTo pos (starEach [] X.env))) _ _ s
  refine Calls.spliced_cons (lam_make2 I tabs code inT uniq tb0 nodef (ls.has I.ok) fun f c' pm' ctv H1 s' J1 ext tb1 fobj fno fst co => ?_)
  refine Calls.spliced_nil ⟨J1.kIn, ?_⟩
  have all : codeAny (model X.prog X.w) X.A (.call (.ref g) ⟨[.ref f], []⟩) (CR C8.CX0 X.stack X.prog X.w H1 s' Q C8.E0) s' := by
    refine run_ofS (N := Ng) (ps := [a]) (us := [.ref f]) (vs := [.ref f]) lk cin fs rm J1.env0 (bs s' [.ref f] J1.kIn rfl) (.cons rfl .nil) rfl fun rm' => ?_
    obtain ⟨t', ht', hq'⟩ := gets f c' s' H1 Q (fun E H' Q' => t E σ H' Q') (fun W pn xe p1 p2 tk => act_lam (tb := fun E => t E) (i := 0) J1 ls fobj fno fst (bnd _ _ _ _ _) tk rm' (fun A outer s H E r2 => bd A outer s H E f c' r2) n0 vis nd1 nd2) co (hh H1 ext tb1) (L2H.roomH_of (rm'.mono (Nat.zero_le _)))
    exact ⟨t', ht'.nox, hq'⟩
  refine wpAny_call (codeAny_mono all fun r s2 hq => ?_)
  cases r with
  | error e => exact (show False from hq).elim
  | ok fl =>
    cases fl with
    | ret u => exact J1.after hq
    | next => exact False.elim hq
    | brk => exact False.elim hq
    | cont => exact False.elim hq
end
end DL

set_option Elab.async false
set_option linter.all false
set_option maxRecDepth 100000
set_option maxHeartbeats 4000000
set_option autoImplicit false
/-! ## iterators that end while an exception is handled -/
namespace HX
open PySem PySem.Spec PyProof.Rows HotX
section
variable {prog : Program} {w : World} {A : Around} {E : Value → Shared → Prop} {s : Shared}
theorem list_end {it l x1 : Addr} {i : Nat} {items : Array Value} {Q : Option Value → Shared → Prop} (hot : HotAt A x1 s.heap) (ne : x1 ≠ it)
    (hit : s.heap.IsListIter it l i) (hl : s.heap.IsList l items) (hx : items[i]? = none) (hQ : ∀ h', Heap.ExtBut it s.heap h' → Q none { s with heap := h' }) : wpAny (model prog w) A (pyNext (.ref it)) Q E s := by
  obtain ⟨o, ho, hc, hd⟩ := id hit
  obtain ⟨ol, hol, _, nl, hdl⟩ := hl
  obtain ⟨hh, o1, vs1, h1, d1, c1⟩ := hot
  have tp := hit.typeIs
  unfold pyNext
  refine wpAny_bind (wpAny_attempt (wpAny_callSpecial?_slot (name := Str.ofString "__next__") tp slot_listiter_next (wpAny_call_entry slot_listiter_next tp entry_listiter_next ?_ (args_listiter_next _))))
  show wpAny _ _ (field (.ref it) 0 >>= _) _ _ s
  refine wpAny_bind (wpAny_field ho hd (x := .ref l) rfl ?_)
  show wpAny _ _ (if (Value.ref l == Value.none) = true then _ else _) _ _ s
  rw [if_neg (show ¬ ((Value.ref l == Value.none) = true) from Bool.false_ne_true)]
  show wpAny _ _ (field (.ref it) 1 >>= _) _ _ s
  refine wpAny_bind (wpAny_field ho hd (x := .int i 0) rfl ?_)
  show wpAny _ _ (seqItems? _ >>= _) _ _ s
  refine wpAny_bind (wpAny_seqItems hol hdl ?_)
  simp only [Int.toNat_natCast, hx]
  have kept : Heap.ExtBut it s.heap (s.heap.update it (Obj.mapFields (·.setIfInBounds 0 .none))) := (Heap.SameBut.update ..).extBut
  refine wpAny_bind (wpAny_rule (wpAny_bind (wpAny_setField ho hd (by simp) ?_)))
  show wpAny _ _ (newExc (.type "StopIteration") [] >>= _) _ _ _
  have up : ∀ {b u}, b ≠ it → s.heap.get? b = some u → (s.heap.update it (Obj.mapFields (·.setIfInBounds 0 .none))).get? b = some u := fun {b u} nb e => kept b u nb e
  refine wpAny_bind ?_
  simp only [newExc, newTuple]
  refine wpAny_bind (wpAny_newObj_type ?_ (by size_fits))
  refine wpAny_bind (m := firstArgMember _ _) (wpAny_of_eq (a := Value.none) (by first | rfl | (simp only [firstArgMember]; rfl)) ?_)
  refine wpAny_newObj_type ?_ (by size_fits)
  refine raiseNew_hot ⟨hh, o1, vs1, Heap.get?_push_of_some _ (Heap.get?_push_of_some _ (up ne h1)), d1, c1⟩ (Nat.ne_of_lt ?_) (Heap.get?_push_size _ rfl) rfl (by first | (simp; done) | (simp; omega) | (simp only [Array.size_append]; simp; omega)) ?_
  · exact Heap.lt_size (Heap.get?_push_of_some _ (up ne h1))
  · refine wpAny_bind (wpAny_isInstance (T := "StopIteration") (b := true) ⟨_, Heap.get?_update_self _ (Heap.get?_push_size _ rfl) rfl, rfl⟩ isSubtype_stop ?_)
    refine wpAny_pure (hQ _ fun b u nb e => ?_)
    rw [Heap.get?_update_other _ _ (Nat.ne_of_gt (Heap.lt_size (Heap.get?_push_of_some _ (up nb e))))]
    exact Heap.get?_push_of_some _ (Heap.get?_push_of_some _ (up nb e))
theorem tup_end {it t x1 : Addr} {i : Nat} {items : Array Value} {Q : Option Value → Shared → Prop} (hot : HotAt A x1 s.heap) (ne : x1 ≠ it)
    (hit : IsTupIter s.heap it t i) (ht : IsTup s.heap t items) (hx : items[i]? = none) (hQ : ∀ h', Heap.ExtBut it s.heap h' → Q none { s with heap := h' }) : wpAny (model prog w) A (pyNext (.ref it)) Q E s := by
  obtain ⟨o, ho, hc, hd⟩ := id hit
  obtain ⟨ol, hol, _, nl, hdl⟩ := ht
  obtain ⟨hh, o1, vs1, h1, d1, c1⟩ := hot
  have tp := hit.typeIs
  unfold pyNext
  refine wpAny_bind (wpAny_attempt (wpAny_callSpecial?_slot (name := Str.ofString "__next__") tp slot_tupleiter_next (wpAny_call_entry slot_tupleiter_next tp entry_tupleiter_next ?_ (args_tupleiter_next _))))
  show wpAny _ _ (field (.ref it) 0 >>= _) _ _ s
  refine wpAny_bind (wpAny_field ho hd (x := .ref t) rfl ?_)
  show wpAny _ _ (if (Value.ref t == Value.none) = true then _ else _) _ _ s
  rw [if_neg (show ¬ ((Value.ref t == Value.none) = true) from Bool.false_ne_true)]
  show wpAny _ _ (field (.ref it) 1 >>= _) _ _ s
  refine wpAny_bind (wpAny_field ho hd (x := .int i 0) rfl ?_)
  show wpAny _ _ (seqItems? _ >>= _) _ _ s
  refine wpAny_bind (wpAny_seqItems hol hdl ?_)
  simp only [Int.toNat_natCast, hx]
  have kept : Heap.ExtBut it s.heap (s.heap.update it (Obj.mapFields (·.setIfInBounds 0 .none))) := (Heap.SameBut.update ..).extBut
  refine wpAny_bind (wpAny_rule (wpAny_bind (wpAny_setField ho hd (by simp) ?_)))
  show wpAny _ _ (newExc (.type "StopIteration") [] >>= _) _ _ _
  have up : ∀ {b u}, b ≠ it → s.heap.get? b = some u → (s.heap.update it (Obj.mapFields (·.setIfInBounds 0 .none))).get? b = some u := fun {b u} nb e => kept b u nb e
  refine wpAny_bind ?_
  simp only [newExc, newTuple]
  refine wpAny_bind (wpAny_newObj_type ?_ (by size_fits))
  refine wpAny_bind (m := firstArgMember _ _) (wpAny_of_eq (a := Value.none) (by first | rfl | (simp only [firstArgMember]; rfl)) ?_)
  refine wpAny_newObj_type ?_ (by size_fits)
  refine raiseNew_hot ⟨hh, o1, vs1, Heap.get?_push_of_some _ (Heap.get?_push_of_some _ (up ne h1)), d1, c1⟩ (Nat.ne_of_lt ?_) (Heap.get?_push_size _ rfl) rfl (by first | (simp; done) | (simp; omega) | (simp only [Array.size_append]; simp; omega)) ?_
  · exact Heap.lt_size (Heap.get?_push_of_some _ (up ne h1))
  · refine wpAny_bind (wpAny_isInstance (T := "StopIteration") (b := true) ⟨_, Heap.get?_update_self _ (Heap.get?_push_size _ rfl) rfl, rfl⟩ isSubtype_stop ?_)
    refine wpAny_pure (hQ _ fun b u nb e => ?_)
    rw [Heap.get?_update_other _ _ (Nat.ne_of_gt (Heap.lt_size (Heap.get?_push_of_some _ (up nb e))))]
    exact Heap.get?_push_of_some _ (Heap.get?_push_of_some _ (up nb e))
/-- a tuple taken apart there -/
theorem asg_tup {x1 : Addr} {env : Env} {elts : List Expr} {k : _} {pos : Pos} {t : Addr} {items : Array Value} {Q : Unit → Shared → Prop} (hot : HotAt A x1 s.heap) (ht : IsTup s.heap t items)
    (hn : (assignEach elts env).length = items.size) (hstar : (assignEach elts env).findIdx? (·.1) = none)
    (h : ∀ h', Heap.ExtBut s.heap.objs.size s.heap h' → wpAny (model prog w) A (assignInOrder ((assignEach elts env).map (·.2)) items.toList) Q E { s with heap := h' }) :
    wpAny (model prog w) A (assign (.Tuple elts k pos) env (.ref t)) Q E s := by
  rw [assign_Tuple]
  refine wpAny_bind (wpAny_standAt ?_)
  unfold unpack
  rw [hn, hstar]
  refine wpAny_bind (wpAny_holding ?_)
  have tlt : t ≠ s.heap.objs.size := by obtain ⟨o, ho, _⟩ := ht; exact Nat.ne_of_lt (Heap.lt_size ho)
  have xlt : x1 ≠ s.heap.objs.size := by obtain ⟨_, o, _, ho, _⟩ := hot; exact Nat.ne_of_lt (Heap.lt_size ho)
  unfold unpackItems
  refine wpAny_bind ?_
  unfold notIterableAtAll
  refine wpAny_bind (wpAny_specialOf ht.typeIs slot_tuple_iter.lookup ?_)
  refine wpAny_pure ?_
  simp only [Bool.false_eq_true, if_false]
  refine wpAny_bind (wpAny_holding (iter_tuple ht ?_))
  refine wpAny_bind (wpAny_holding (draw_tuple tlt items.size 0 _ _ ⟨_, Heap.get?_push_size _ rfl, rfl, rfl⟩ (ht.push _) (by omega) fun h₁ it₁ sb₁ => ?_))
  rw [show List.take items.size (List.drop 0 items.toList) = items.toList by rw [List.drop_zero]; exact List.take_of_length_le (by simp), if_neg (by simp)]
  obtain ⟨q1, o1, v1, q2, q3, q4⟩ := hot
  have hot₁ : HotAt A x1 h₁ := ⟨q1, o1, v1, sb₁.extBut _ _ xlt (Heap.get?_push_of_some _ q2), q3, q4⟩
  refine wpAny_bind (wpAny_holding (tup_end hot₁ xlt it₁ ((ht.push _).extBut sb₁.extBut tlt) (by simp) fun h₂ eb₂ => ?_))
  simp only [Option.isSome_none, Bool.false_eq_true, if_false]
  exact wpAny_pure (h h₂ fun b o hb e => eb₂ b o hb (sb₁.extBut b o hb (Heap.get?_push_of_some _ e)))
end
end HX

set_option Elab.async false
set_option linter.all false
set_option maxRecDepth 100000
set_option maxHeartbeats 4000000
set_option autoImplicit false
/-! ## a list comprehension within an except suite -/
namespace HX
open PySem PySem.Spec PyProof.Rows HotX L2
def HotB (X : Cx) : Prop := ∀ (pins : List (Addr × Obj)) (σ : L2.St) (H : Hp) (s : Shared), Inv X pins σ H s → ∃ x1, HotAt X.A x1 s.heap
theorem HotB.of {X : Cx} (h : L2H.HotC X) : HotB X := fun _ _ _ _ I => h.at I
theorem pg_tup {X : Cx} {es : List Expr} {k : _} {t : TGs} {n : Nat} {pos : Pos} (hot : HotB X) (h : PGs X es t) (hn : (assignEach es X.env).length = n := by rfl) (hst : (assignEach es X.env).findIdx? (·.1) = none := by rfl) : PG X (.Tuple es k pos) (gTup X.K n t) := by
  refine ⟨fun pins s σ H v u Q I r hw => ?_⟩
  obtain ⟨a, xs, rfl, hq, hl, hw⟩ := hw
  cases r
  obtain ⟨its, rv, ht, hz⟩ := I.tuple hq
  obtain ⟨x1, hx⟩ := hot _ _ _ _ I
  refine asg_tup hx ht (by simp [hn, ← hl, rv.length]) hst fun h' eb => ?_
  exact h.run pins _ σ H xs _ Q (I.kept (t' := s.toks) fun b o e => eb b o (Nat.ne_of_lt (Heap.lt_size e)) e) (by simpa using rv) hw
/-- an iterator's turns -/
structure TurnX (P : Program) (w : World) (K : PySem.W.Frag) (tg : Expr) (J : It) (fp : List Addr) (it : Addr) (tn : Nat → Heap → Prop) : Prop where
  obj : ∀ i h, tn i h → ∀ b ∈ fp, ∃ o, h.get? b = some o ∧ ∀ v, o.data ≠ .cell v
  keep : ∀ i h h', tn i h → (∀ b ∈ fp, ∀ o, h.get? b = some o → h'.get? b = some o) → tn i h'
  item : ∀ (X : Cx), X.prog = P → X.w = w → X.K = K → ∀ (i : Nat) (pins : List (Addr × Obj)) (s : Shared) (σ : L2.St) (H : Hp) (E : Value → Shared → Prop), Inv X pins σ H s → (∀ b ∈ fp, FpOk X pins H b) → tn i s.heap → J.go i H →
    wpAny (model P w) X.A (pyNext (.ref it)) (fun r s1 => ∃ u, r = some u ∧
      wpAny (model P w) X.A (letOwnedTupleGo tg (.ref it) u) (fun _ s2 => ∃ x H', Inv X pins σ H' s2 ∧ RelV x u ∧ J.yld i H x H' ∧ tn (i + 1) s2.heap ∧ ∀ b ∈ fp, H' b = none) E s1) E s
  done : ∀ (X : Cx), X.prog = P → X.w = w → X.K = K → ∀ (x1 : Addr) (i : Nat) (pins : List (Addr × Obj)) (s : Shared) (σ : L2.St) (H : Hp) (E : Value → Shared → Prop), HotAt X.A x1 s.heap → x1 ∉ fp → Inv X pins σ H s → (∀ b ∈ fp, FpOk X pins H b) → tn i s.heap → J.stop i H →
    wpAny (model P w) X.A (pyNext (.ref it)) (fun r s1 => r = none ∧ Inv X pins σ H s1) E s
  self : ∀ (A : Around) (i : Nat) (s : Shared) (Q : Value → Shared → Prop) (E : Value → Shared → Prop), tn i s.heap → Q (.ref it) s → wpAny (model P w) A (pyIter (.ref it)) Q E s
theorem turnx_list {P : Program} {w : World} {K : PySem.W.Frag} {tg : Expr} (a it : Addr) : TurnX P w K tg (Itl K a) [it] it (fun i h => h.IsListIter it a i) where
  obj := (turn_list (P := P) (w := w) (K := K) (tg := tg) a it).obj
  keep := (turn_list (P := P) (w := w) (K := K) (tg := tg) a it).keep
  self := (turn_list (P := P) (w := w) (K := K) (tg := tg) a it).self
  item := by
    intro X hP hw hK i pins s σ H E I hf st ⟨xs, x, hq, hx⟩
    subst hP hw hK
    obtain ⟨its, rv, p, hz⟩ := I.list hq
    obtain ⟨u, hu, ru⟩ := rv.get hx
    obtain ⟨f0, f1, f2, f3, f4, f5⟩ := hf it (by simp)
    refine wpAny_pyNext_list_item st p.isList (x := u) (by simpa using hu) fun h' st' sb => ?_
    obtain ⟨o, e, c, d⟩ := id st'
    exact ⟨u, rfl, go_of (s := { s with heap := h' }) e c d (by decide) ⟨x, H, I.turned (t' := s.toks) (fun b o hb e => (sb.2 b hb).trans e) f0 f1 f3 f4 f5, ru, ⟨rfl, fun ys hy => by rw [I.list_inj hy hq]; exact hx⟩, st', fun b hb => (hf b hb).1⟩⟩
  done := by
    intro X hP hw hK x1 i pins s σ H E hot ne I hf st ⟨xs, hq, hx⟩
    subst hP hw hK
    obtain ⟨its, rv, p, hz⟩ := I.list hq
    obtain ⟨f0, f1, f2, f3, f4, f5⟩ := hf it (by simp)
    have hl := rv.length
    exact list_end hot (fun z => ne (by simp [z])) st p.isList (by simp; omega) fun h' eb => ⟨rfl, I.turned (t' := s.toks) (fun b o hb e => eb b o hb e) f0 f1 f3 f4 f5⟩
def PIEX (X : Cx) (pins : List (Addr × Obj)) (σ : L2.St) (tg : Expr) (R : It → Hp → Prop) (itv : Value) (s2 : Shared) : Prop :=
  ∃ (it : Addr) (fp : List Addr) (tn : Nat → Heap → Prop) (J : It) (H' : Hp), itv = .ref it ∧ Inv X pins σ H' s2 ∧ TurnX X.prog X.w X.K tg J fp it tn ∧ tn 0 s2.heap ∧ (∀ b ∈ fp, FpOk X pins H' b) ∧ R J H'
structure PIX (X : Cx) (tg iter : Expr) (wi : TI) : Prop where
  run : ∀ (pins : List (Addr × Obj)) (s : Shared) (σ : L2.St) (H : Hp) (R : It → Hp → Prop), Inv X pins σ H s → wi σ H R →
    wpAny (model X.prog X.w) X.A (eval iter X.env) (fun v s1 => wpAny (model X.prog X.w) X.A (pyIter v) (PIEX X pins σ tg R) X.xe s1) X.xe s
theorem pix_imp {X : Cx} {tg e : Expr} {t t' : TI} (h : PIX X tg e t) (i : ∀ σ H Q, t' σ H Q → t σ H Q) : PIX X tg e t' := ⟨fun pins s σ H Q I q => h.run pins s σ H Q I (i _ _ _ q)⟩
theorem pix_list {X : Cx} {tg l : Expr} {tl : TE} (hl : PE X l tl) : PIX X tg l (iList X.K tl) := by
  refine ⟨fun pins s σ H R I h => ?_⟩
  refine thn (hl.run pins s σ H _ I h) fun v s1 ⟨x, H1, I1, r1, a, e, ⟨xs, hq⟩, q⟩ => ?_
  subst e
  cases r1
  obtain ⟨its, rv, p, hz⟩ := I1.list hq
  refine wpAny_pyIter_list p.isList ⟨s1.heap.objs.size, [s1.heap.objs.size], _, _, H1, rfl, I1.kept (t' := s1.toks) fun b o e => Heap.get?_push_of_some _ e, turnx_list a _, ⟨_, Heap.get?_push_size _ rfl, rfl, rfl⟩, fun b hb => ?_, q⟩
  obtain rfl : b = s1.heap.objs.size := by simpa using hb
  exact I1.fpOk (Nat.le_refl _) (I1.hok.fresh (Nat.le_refl _))
section
variable {X : Cx} {elt tg iter : Expr} {ifs : List Expr} {scope : Scope} {own : List (Str × Nat)} {pos : Pos} {wi : TI} {g : TG} {tt : TT} {te : TE}
/-- what is asked of the parts of a comprehension's block -/
structure Parts (X : Cx) (scope : Scope) (elt tg : Expr) (ifs : List Expr) (g : TG) (tt : TT) (te : TE) : Prop where
  tg : ∀ (s : Shared) (H : Hp) (C : Addr) (cl : List (Str × Addr)) (fp : List Addr), HotB (X.blk s H scope (compEnvC scope cl C X.env) fp) → PG (X.blk s H scope (compEnvC scope cl C X.env) fp) tg g
  ts : ∀ (s : Shared) (H : Hp) (C : Addr) (cl : List (Str × Addr)) (fp : List Addr), HotB (X.blk s H scope (compEnvC scope cl C X.env) fp) → PTs (X.blk s H scope (compEnvC scope cl C X.env) fp) ifs tt
  el : ∀ (s : Shared) (H : Hp) (C : Addr) (cl : List (Str × Addr)) (fp : List Addr), HotB (X.blk s H scope (compEnvC scope cl C X.env) fp) → PE (X.blk s H scope (compEnvC scope cl C X.env) fp) elt te
theorem lc_hot {pins : List (Addr × Obj)} {s : Shared} {σ : L2.St} {H : Hp} {Q : VK} {pos' : Pos} {use : Option (Value → PySem.Sem Unit)} {Qf : Value → Shared → Prop}
    (hot : L2H.HotC X) (nd : X.N.Nodup) (inv : Inv X pins σ H s) (walks : PIX X tg iter wi) (ok : BlkOk X.N X.env.scope scope own) (pt : Parts X scope elt tg ifs g tt te) (nofold : ∀ x, foldedSetIterable iter X.env x = pure x)
    (wish : tLc wi g tt te (own.map (·.2)) σ H Q)
    (behind : ∀ L C s' m H', Inv X pins σ H' s' → Q (.ref L) H' → s'.heap.Ns C m → FpOk X pins H' C → compPost (model X.prog X.w) X.A X.xe use Qf (.ref L) C (.ok .next) s') :
    wpAny (model X.prog X.w) X.A (comprehension (.ListComp elt [⟨tg, iter, ifs, 0⟩] scope pos) scope X.env pos' (newList []) false (eval iter X.env) use) Qf X.xe s := by
  obtain ⟨px, ⟨hd, v1, d1, c1⟩, pmem⟩ := hot
  have frees : ∀ y ∈ scope.names, y.2 = .free → ∃ c, X.env.cells.lookup y.1 = some c := fun y hy e => inv.ok.has _ (ok.free y hy e)
  refine wpAny_comprehension_free (use := use) rfl nofold (closure_ok frees) ok.kind (fun y hy e => by rw [ok.uniq y hy, e]) (thn (walks.run pins s σ H _ inv wish) fun xv sa ha => thn ha fun itv sb hb => ?_)
  obtain ⟨it, fp, tn, J, Hb, rfl, Ib, T, stb, fpb, q⟩ := hb
  refine wpAny_newObj_type (newEnv_comp ?_) (by show 0 ≤ sizeLine; decide)
  -- L: the new list, in the state sc
  obtain ⟨L, hL⟩ : ∃ L, L = sb.heap.objs.size := ⟨_, rfl⟩
  have Lno : Hb L = none := by rw [hL]; exact Ib.hok.fresh (Nat.le_refl _)
  obtain ⟨V, ⟨m0, v0⟩, turn⟩ := q L Lno
  obtain ⟨sc, hsc⟩ : ∃ sc : Shared, sc = { sb with heap := sb.heap.push { cls := .type "list", data := .seq ([] : List Value).toArray } } := ⟨_, rfl⟩
  have grown : ∀ b o, sb.heap.get? b = some o → sc.heap.get? b = some o := fun b o e => by rw [hsc]; exact Heap.get?_push_of_some _ e
  have Ic : Inv X pins σ (upd Hb L (.lst [])) sc := by
    rw [hsc]
    refine Ib.laid (t' := sb.toks) (fun b o e => Heap.get?_push_of_some _ e) (by rw [hL]; exact Nat.le_refl _) ⟨Nat.zero_le _, [], 0, .nil, ?_⟩
    rw [hL]
    exact Heap.get?_push_size _ rfl
  have bound : ∀ b ∈ fp, b < sb.heap.objs.size := fun b hb => by
    obtain ⟨o, e, _⟩ := T.obj _ _ stb b hb
    exact Heap.lt_size e
  have fpc : ∀ b ∈ fp, FpOk X pins (upd Hb L (.lst [])) b ∧ b < sc.heap.objs.size := fun b hb => by
    have lt := bound b hb
    refine ⟨⟨?_, (fpb b hb).2⟩, by rw [hsc]; show b < (sb.heap.push _).objs.size; rw [Heap.size_push]; exact Nat.lt_succ_of_lt lt⟩
    rw [upd_ne (by rw [hL]; exact Nat.ne_of_lt lt)]
    exact (fpb b hb).1
  have stc : tn 0 sc.heap := T.keep _ _ _ stb fun b _ o e => grown b o e
  have Id := block_start Ic ok nd fpc
  have start : sc.heap.objs.size = sc.heap.objs.size := rfl
  show codeAny _ _ (.compStart (.ListComp elt [⟨tg, iter, ifs, 0⟩] scope pos) 0 (.ref it) (.ref sb.heap.objs.size) (compEnvC scope (cellsFrom ((sb.heap.push { cls := .type "list", data := .seq ([] : List Value).toArray }).objs.size + 1) scope.names (cloFrom X.env.cells scope.names [])) (sb.heap.push { cls := .type "list", data := .seq ([] : List Value).toArray }).objs.size X.env)) (compPost (model X.prog X.w) X.A X.xe use Qf (.ref sb.heap.objs.size) (sb.heap.push { cls := .type "list", data := .seq ([] : List Value).toArray }).objs.size) { sb with heap := pushCells ((sb.heap.push { cls := .type "list", data := .seq ([] : List Value).toArray }).push { cls := .type "dict", data := .dict #[] }) scope.names }
  rw [← hL, show (sb.heap.push { cls := .type "list", data := .seq ([] : List Value).toArray }) = sc.heap by rw [hsc], show ({ sb with heap := pushCells (sc.heap.push { cls := .type "dict", data := .dict #[] }) scope.names } : Shared) = { sc with heap := pushCells (sc.heap.push { cls := .type "dict", data := .dict #[] }) scope.names } by rw [hsc]]
  obtain ⟨Hc, hHc⟩ : ∃ Hc, Hc = upd Hb L (.lst []) := ⟨_, rfl⟩
  rw [← hHc] at Ic Id v0 fpc
  obtain ⟨ce, hce⟩ : ∃ ce, ce = compEnvC scope (cellsFrom (sc.heap.objs.size + 1) scope.names (cloFrom X.env.cells scope.names [])) sc.heap.objs.size X.env := ⟨_, rfl⟩
  have cL : ce.locals = sc.heap.objs.size := by rw [hce]; rfl
  -- the handled exception, seen from the block
  obtain ⟨pget, pno, pnl, pnf, _⟩ := Ic.pin px (List.mem_append_left _ pmem)
  have pfp : px.1 ∉ fp := fun z => (fpc _ z).1.2.2.2.2.2 px (List.mem_append_left _ pmem) rfl
  have pst : px.1 ∉ frs X.stack := by
    rcases Ic.ok.stk with z | ⟨z, fz⟩
    · rw [z]; exact pnf
    · rw [z]
      intro hm
      obtain ⟨e, he, q⟩ := List.mem_filterMap.mp hm
      rcases List.mem_cons.mp he with e1 | e1
      · rw [e1, fz] at q
        exact pnl (Option.some.inj q).symm
      · exact pnf (List.mem_filterMap.mpr ⟨e, e1, q⟩)
  have hotB : HotB (X.blk sc Hc scope ce fp) := fun _ _ _ _ I => ⟨px.1, hd, px.2, v1, I.base.keep _ _ pget pno pst pfp, d1, c1⟩
  have pg := pt.tg sc Hc sc.heap.objs.size (cellsFrom (sc.heap.objs.size + 1) scope.names (cloFrom X.env.cells scope.names [])) fp
  have pts := pt.ts sc Hc sc.heap.objs.size (cellsFrom (sc.heap.objs.size + 1) scope.names (cloFrom X.env.cells scope.names [])) fp
  have pel := pt.el sc Hc sc.heap.objs.size (cellsFrom (sc.heap.objs.size + 1) scope.names (cloFrom X.env.cells scope.names [])) fp
  rw [← hce] at pg pts pel Id ⊢
  have pg := pg hotB
  have pts := pts hotB
  have pel := pel hotB
  have std : tn 0 (pushCells (sc.heap.push { cls := .type "dict", data := .dict #[] }) scope.names) := T.keep _ _ _ stc fun b _ o e => pushCells_keeps _ _ _ _ (Heap.get?_push_of_some _ e)
  have fpk : ∀ {σ' : L2.St} {H' : Hp} {s' : Shared}, Inv (X.blk sc Hc scope ce fp) [] σ' H' s' → (∀ b ∈ fp, H' b = none) → ∀ b ∈ fp, FpOk (X.blk sc Hc scope ce fp) [] H' b := fun {σ' H' s'} I' n b hb =>
    ⟨n b hb, (I'.ok.exf b hb).1, I'.ok.exfs b hb, .inl hb, fun x c e => (I'.ok.exf b hb).2 x c e, fun p hp => absurd (show p ∈ ([] : List (Addr × Obj)) ++ [] from hp) (by simp)⟩
  have loop : codeAny (model X.prog X.w) X.A (.compLoop (.ListComp elt [⟨tg, iter, ifs, 0⟩] scope pos) 0 (.ref it) (.ref L) ce) (compPost (model X.prog X.w) X.A X.xe use Qf (.ref L) sc.heap.objs.size) { sc with heap := pushCells (sc.heap.push { cls := .type "dict", data := .dict #[] }) scope.names } := by
    refine compLoop_any (fun n s' => ∃ i H', Inv (X.blk sc Hc scope ce fp) [] (wipe σ (own.map (·.2))) H' s' ∧ tn i s'.heap ∧ (∀ b ∈ fp, H' b = none) ∧ V i n H') ?_ m0 ⟨0, Hc, Id, std, fun b hb => (fpc b hb).1.1, v0⟩
    rintro n se ⟨i, He, Ie, ste, ne, ve⟩
    rcases turn i n He ve with ⟨stop, qq⟩ | ⟨go, Nx, less, step⟩
    · obtain ⟨x1, hx1⟩ := hotB _ _ _ _ Ie
      have x1e : x1 = px.1 := by
        have z : some (Value.ref x1) = some (.ref px.1) := hx1.1.symm.trans hd
        cases z
        rfl
      refine thnF (T.done (X.blk sc Hc scope ce fp) rfl rfl rfl x1 i [] se _ He (fun _ _ => False) hx1 (by rw [x1e]; exact pfp) Ie (fpk Ie ne) ste stop) fun r sf ⟨hr, If⟩ => ?_
      subst hr
      have Ig : Inv X pins σ He sf := Ic.call' (ch := fp) If.os If.base If.hok If.bare fun b hb => ⟨(fpc b hb).1.2.2.2.1, (fpc b hb).1.2.1, (fpc b hb).1.2.2.2.2.1, (fpc b hb).1.2.2.2.2.2⟩
      obtain ⟨m, ns, _⟩ := If.loc
      have ns : sf.heap.Ns ce.locals m := ns
      have no : He ce.locals = none := If.free
      rw [cL] at ns no
      exact behind L sc.heap.objs.size sf m He Ig qq ns (Ic.fpOk (Nat.le_refl _) no)
    · refine thnF (T.item (X.blk sc Hc scope ce fp) rfl rfl rfl i [] se _ He (fun _ _ => False) Ie (fpk Ie ne) ste go) fun r sf ⟨u, hr, hf⟩ => ?_
      subst hr
      refine thnF hf fun _ sg ⟨x, Hg, Ig, rg, yg, stg, ng⟩ => ?_
      refine thnF (pg.run _ sg _ Hg x u _ (Ig.pinned (fpk Ig ng) (T.obj _ _ stg)) rg (step x Hg yg)) fun _ sh ⟨σh, Hh, Ih, wh, qh⟩ => ?_
      refine thnF (pts.run _ sh σh Hh _ Ih qh) fun b si ⟨Hi, Ii, qi⟩ => ?_
      have onward : ∀ {s' : Shared} {H' : Hp}, Inv (X.blk sc Hc scope ce fp) ([] ++ pinsAt fp sg.heap) σh H' s' → Nx H' → ∃ m, m < n ∧ ∃ i H', Inv (X.blk sc Hc scope ce fp) [] (wipe σ (own.map (·.2))) H' s' ∧ tn i s'.heap ∧ (∀ b ∈ fp, H' b = none) ∧ V i m H' := fun {s' H'} I' nx => by
        obtain ⟨m', lt, v'⟩ := less H' nx
        have pinned : ∀ b ∈ fp, ∀ o, sg.heap.get? b = some o → s'.heap.get? b = some o ∧ H' b = none := fun b hb o e =>
          ⟨(I'.pin (b, o) (List.mem_append_right _ (List.mem_append_right _ (mem_pinsAt hb e)))).1, (I'.pin (b, o) (List.mem_append_right _ (List.mem_append_right _ (mem_pinsAt hb e)))).2.1⟩
        refine ⟨m', lt, i + 1, H', (I'.unpinned (pins := [])).weak (by rw [← wh, wipe_length]) (fun j v e => ?_), T.keep _ _ _ stg fun b hb o e => (pinned b hb o e).1, fun b hb => ?_, v'⟩
        · rw [← wh] at e
          exact (wipe_some e).1
        · obtain ⟨o, e, _⟩ := T.obj _ _ stg b hb
          exact (pinned b hb o e).2
      cases b with
      | false =>
        simp only [Bool.false_eq_true, if_false] at qi ⊢
        exact onward Ii qi
      | true =>
        simp only [if_true] at qi ⊢
        refine thnF (pel.run _ si σh Hi _ Ii qi) fun z sj ⟨yv, Hj, Ij, rj, acc, haj, hzj, nx⟩ => ?_
        exact app_ok (X := X.blk sc Hc scope ce fp) Ij haj hzj rj fun sk Ik => onward Ik nx
  exact codeAny_compStart_list loop (T.self X.A 0 _ _ _ std loop)
theorem pe_lc (hot : L2H.HotC X) (nd : X.N.Nodup) (walks : PIX X tg iter wi) (ok : BlkOk X.N X.env.scope scope own) (pt : Parts X scope elt tg ifs g tt te) (nofold : ∀ x, foldedSetIterable iter X.env x = pure x := by intro _; rfl) :
    PE X (.ListComp elt [⟨tg, iter, ifs, 0⟩] scope pos) (tLc wi g tt te (own.map (·.2))) := by
  refine ⟨fun pins s σ H Q I h => ?_⟩
  rw [eval_ListComp]
  refine lc_hot hot nd I walks ok pt nofold h fun L C s' m H' I' q ns f => ⟨m, ns, fun h'' sb => ?_⟩
  obtain ⟨f0, f1, f2, f3, f4, f5⟩ := f
  exact ⟨.ref L, H', I'.turned (t' := s'.toks) (fun b o hb e => (sb.2 b hb).trans e) f0 f1 f3 f4 f5, rfl, q⟩
theorem ps_setLc {i : Nat} {y : Str} {py spos : Pos} (hot : L2H.HotC X) (nd : X.N.Nodup) (hy : X.N[i]? = some y) (hyl : X.env.scope.names.lookup y = some .local) (hsw : swapsWith (.ListComp elt [⟨tg, iter, ifs, 0⟩] scope pos) (some (.Name y py)) spos.line X.env = pure true)
    (walks : PIX X tg iter wi) (ok : BlkOk X.N X.env.scope scope own) (pt : Parts X scope elt tg ifs g tt te) (nofold : ∀ x, foldedSetIterable iter X.env x = pure x := by intro _; rfl) :
    PS X (.Assign [.Name y py] (.ListComp elt [⟨tg, iter, ifs, 0⟩] scope pos) spos) (tAsg (tLc wi g tt te (own.map (·.2))) (gName i)) := by
  refine ⟨fun pins s σ H D I h => ?_⟩
  rw [exec_Assign_Name_used _ _ _ _ hsw]
  refine wpAny_bind (wpAny_standAt (wpAny_bind ?_))
  show wpAny _ X.A (do let _ ← comprehension (.ListComp elt [⟨tg, iter, ifs, 0⟩] scope pos) scope X.env (firstIterPos [⟨tg, iter, ifs, 0⟩] pos) (newList []) false (eval iter X.env) (some (assign (.Name y py) X.env))) _ _ s
  have h : tLc wi g tt te (own.map (·.2)) σ H (fun x H1 => gName i x σ H1 D.nx) := h
  refine wpAny_bind (thn (lc_hot (Qf := fun _ s' => SP X pins D .next s') hot nd I walks ok pt nofold h fun L C s' m H' I' q ns f => ?_) fun _ s' hq => wpAny_pure (wpAny_pure hq))
  show wpAny _ _ (assign (.Name y py) X.env (.ref L)) _ _ _
  refine wpAny_assign_Name (store_ok2 (v := V.ref L) I' nd hy (.inl hyl) rfl (fun s2 I2 ⟨a, sb, wh⟩ => ?_) (.inr hyl))
  obtain ⟨f0, f1, f2, f3, f4, f5⟩ := f
  have Ca : C ≠ a := by
    rcases wh with z | z
    · rw [z]; exact f1
    · exact fun e => f4 y a z e.symm
  exact ⟨m, ns.sameBut sb Ca, fun h3 sb3 => ⟨_, H', I2.turned (t' := s2.toks) (fun b o hb e => (sb3.2 b hb).trans e) f0 f1 f3 f4 f5, q⟩⟩
end
end HX

set_option Elab.async false
set_option linter.all false
set_option maxRecDepth 100000
set_option maxHeartbeats 4000000
set_option autoImplicit false
namespace DL
open PySem PySem.Spec PyProof.Rows L2
section
variable {X : Cx} {Z : Zp} {N : En} {W : WX} {Y : Yp}
/-! ### s.join(xs) -/
theorem Wts.strs {G : Hp} {ca : Option Addr} : ∀ {vs : List V} {ds : List D} {ys : List Str}, Wts Y G ca vs ds → DL.strsOf ds = some ys → vs = ys.map V.str
  | _, _, _, .nil, e => by simp only [DL.strsOf] at e; cases e; rfl
  | _, .str x :: ds, ys, .cons h r, e => by
    simp only [DL.strsOf, Option.map_eq_some_iff] at e
    obtain ⟨zs, e1, rfl⟩ := e
    cases h
    rw [Wts.strs r e1]
    rfl
  | _, .non :: _, _, .cons _ _, e => by simp only [DL.strsOf] at e; cases e
  | _, .bl _ :: _, _, .cons _ _, e => by simp only [DL.strsOf] at e; cases e
  | _, .int _ :: _, _, .cons _ _, e => by simp only [DL.strsOf] at e; cases e
  | _, .tup _ :: _, _, .cons _ _, e => by simp only [DL.strsOf] at e; cases e
  | _, .lst _ :: _, _, .cons _ _, e => by simp only [DL.strsOf] at e; cases e
  | _, .cup :: _, _, .cons _ _, e => by simp only [DL.strsOf] at e; cases e
  | _, .fn _ :: _, _, .cons _ _, e => by simp only [DL.strsOf] at e; cases e
  | _, .ty _ :: _, _, .cons _ _, e => by simp only [DL.strsOf] at e; cases e
  | _, .exc :: _, _, .cons _ _, e => by simp only [DL.strsOf] at e; cases e
theorem join_eq (s : Str) (ys : List Str) : Txt.join s ys = Str.join s ys := eq_of_beq (join_plain_closes s ys)
theorem pd_join {w : Str} {e : Expr} {f : DE} {k : _} {apos cpos p : Pos} (ha : PDA X Z N W [e] (dArgs [f]))
    (hbase : attributeBase (.Constant (.str w) k p) "join" X.env (eval (.Constant (.str w) k p) X.env) = eval (.Constant (.str w) k p) X.env := by rfl)
    (hfew : ((backTo cpos (starEach [e] X.env)).all (fun x => !x.1) && (backToKw cpos (keywordEach [] X.env)).all (fun x => x.1.isSome)
      && decide (([e]).length + ([] : List Keyword).length + (if ([] : List Keyword).isEmpty then 0 else 1) < 30)) = true := by rfl)
    (hline : (apos.endLine == cpos.line) = true := by rfl) (hs : starEach [e] X.env = (false, eval e X.env) :: starEach [] X.env := by rfl) (hplain : (backTo cpos (starEach [] X.env)).any (·.1) = false := by rfl) :
    PD X Z N W (.Call (.Attribute (.Constant (.str w) k p) "join" apos) [e] [] cpos) (dO1 (D.join (.str w)) f) :=
  pe_imp (pe_bm PySem.F.plainAttrs_str PySem.F.slot_str_join PySem.F.type_str_join mt_join pe_str ha hbase hfew hline hs hplain) fun σ H Q ⟨G, ca, env, c, rs, h⟩ => by
    refine ⟨rfl, G, ca, env, c, rs, ?_⟩
    simp only [dO1] at h
    simp only [dArgs]
    cases e1 : f env c with
    | st => rw [e1] at h; exact h
    | er x c1 => rw [e1] at h; exact h
    | ok x c1 =>
      rw [e1] at h
      simp only [R.bind] at h ⊢
      intro G1 ca1 H1 vs s1 r1 w1
      cases e2 : D.join (.str w) x.d with
      | none => rw [e2] at h; exact h.elim
      | some d =>
        rw [e2] at h
        simp only [opt1] at h
        match vs, w1 with
        | [v], .cons wv .nil =>
          have ws := wv.read r1
          cases e3 : x.d with
          | lst xs =>
            rw [e3] at e2 ws
            simp only [D.join] at e2
            cases e4 : DL.strsOf xs with
            | none => rw [e4] at e2; cases e2
            | some ys =>
              rw [e4] at e2
              simp only [Option.bind] at e2
              split at e2
              · rename_i hz
                cases e2
                obtain ⟨a, us, rfl, q1, q2, q3⟩ := ws.lst r1.r0
                refine ⟨w, a, ys, rfl, rfl, .inl (by rw [← q2.strs e4]; exact sql q1), hz, ?_⟩
                rw [join_eq]
                exact h G1 ca1 H1 _ s1 r1 (.str _)
              · cases e2
          | tup xs =>
            rw [e3] at e2 ws
            simp only [D.join] at e2
            cases e4 : DL.strsOf xs with
            | none => rw [e4] at e2; cases e2
            | some ys =>
              rw [e4] at e2
              simp only [Option.bind] at e2
              split at e2
              · rename_i hz
                cases e2
                obtain ⟨a, us, rfl, q1, q2, q3⟩ := ws.tup r1.r0
                refine ⟨w, a, ys, rfl, rfl, .inr (by rw [← q2.strs e4]; exact q1), hz, ?_⟩
                rw [join_eq]
                exact h G1 ca1 H1 _ s1 r1 (.str _)
              · cases e2
          | _ => rw [e3] at e2; simp only [D.join] at e2; cases e2
/-! ### comprehensions within a suite -/
theorem pix_lst {tg l : Expr} {f : DE} (hl : PD X Z N W l f) : HX.PIX X tg l (tDI (yOf X Z) N W false (iLst f)) := by
  refine HX.pix_imp (HX.pix_list hl) fun σ H R h => ?_
  obtain ⟨G, ca, env, c, rs, h⟩ := h
  refine ⟨G, ca, env, c, rs, ?_⟩
  simp only [iLst] at h
  cases e : f env c with
  | st => rw [e] at h; exact h
  | er x c1 => rw [e] at h; exact h
  | ok x c1 =>
    rw [e] at h
    simp only [DL.R.bind] at h
    intro G1 ca1 H1 vx s1 r1 w1
    cases e3 : x.d with
    | lst xs =>
      rw [e3] at h
      obtain ⟨a, vs, rfl, hlen, hsz, k⟩ := aft_lst (st := false) r1 w1 e3 rfl
      refine ⟨a, rfl, ⟨vs, sql (k G1 ca1 H1 c1 aft_refl r1.r0).1⟩, h G1 ca1 H1 _ s1 r1 ⟨hsz, fun i G ca H c A r => ?_⟩⟩
      obtain ⟨k1, k2⟩ := k G ca H c A r
      refine ⟨fun d hd => ?_, fun hi => ⟨vs, sql k1, by rw [hlen]; exact hi⟩⟩
      obtain ⟨v, e1, w⟩ := k2.get hd
      refine ⟨⟨vs, v, sql k1, e1⟩, fun x H' hy => ?_⟩
      obtain ⟨rfl, hy⟩ := hy
      have e2 := hy vs (sql k1)
      rw [e1] at e2
      cases e2
      exact ⟨G, .refl, r, w⟩
    | _ => rw [e3] at h; exact h.elim
theorem pgd_tupX {es : List Expr} {k : _} {is : List Nat} {fs : List TG} {pos : Pos} (hot : HX.HotB X) (h : PGsD X Z N is es fs) (hl : fs.length = es.length)
    (hn : (assignEach es X.env).length = es.length := by rfl) (hst : (assignEach es X.env).findIdx? (·.1) = none := by rfl) : PGD X Z N is (.Tuple es k pos) (tgT fs) :=
  pg_imp (HX.pg_tup hot h hn hst) fun v σ H Q ⟨G, ca, env, c, d, env', r, w, e, k⟩ => by
    cases d with
    | tup ds =>
      cases w with
      | tup hs w l => exact ⟨_, _, rfl, sqT_mono r.r0.le hs, by rw [w.length, tgAll_len e, hl], G, ca, env, c, ds, env', r, w, e, k⟩
    | _ => cases e
section
variable {elt tg iter : Expr} {ifs : List Expr} {scope : Scope} {own : List (Str × Nat)} {pos : Pos} {it : DI} {g : TG} {t : DT} {e : DE} {is : List Nat}
theorem pdoX_lc (hot : L2H.HotC X) (hN : X.N.Nodup) (hi : HX.PIX X tg iter (tDI (yOf X Z) N W false it)) (ok : BlkOk X.N X.env.scope scope own)
    (hg : ∀ (s : Shared) (H : Hp) (C : Addr) (cl : List (Str × Addr)) (fp : List Addr), HX.HotB (X.blk s H scope (compEnvC scope cl C X.env) fp) → PGD (X.blk s H scope (compEnvC scope cl C X.env) fp) Z N is tg g)
    (ht : ∀ (s : Shared) (H : Hp) (C : Addr) (cl : List (Str × Addr)) (fp : List Addr), HX.HotB (X.blk s H scope (compEnvC scope cl C X.env) fp) → PTs (X.blk s H scope (compEnvC scope cl C X.env) fp) ifs (tDT (yOf X Z) N W0 t))
    (he : ∀ (s : Shared) (H : Hp) (C : Addr) (cl : List (Str × Addr)) (fp : List Addr), HX.HotB (X.blk s H scope (compEnvC scope cl C X.env) fp) → PD (X.blk s H scope (compEnvC scope cl C X.env) fp) Z N W0 elt e)
    (hsb : ∀ i ∈ is, i ∈ own.map (·.2)) (hs : ∀ x, foldedSetIterable iter X.env x = pure x := by intro _; rfl) :
    PDO X Z N W (.ListComp elt [⟨tg, iter, ifs, 0⟩] scope pos) (dComp it g t e (own.map (·.2))) :=
  pe_imp (HX.pe_lc (g := gD (yOf X Z) N is g) (te := tD (yOf X Z) N W0 e) hot hN hi ok ⟨hg, ht, he⟩ hs) fun σ H Q h => tlc_of (J0 := trivial) hsb h
end
/-! ### isinstance(e, C) -/
/-- the class of the number k at C, its instances asked of all classes -/
structure XcK (K : PySem.W.Frag) (mg : Str → Option Value) (Z : Zp) (sub : Nat → Nat → Bool) (n : Nat) : Prop where
  ex : ∀ (k : Nat) (C : Addr), mg (Z.xnm k) = some (.ref C) → k < n → ExcC K C
  kit : ∀ (k j : Nat) (C D : Addr), k < n → j < n → mg (Z.xnm k) = some (.ref C) → mg (Z.xnm j) = some (.ref D) → PySem.W.kitOne K (.ref C) (.ref D) = some (sub k j) ∧ PySem.W.exmOne K (.ref C) (.ref D) = some (sub k j)
theorem pd_isx {a C D : Addr} {oe : Obj} {pn : List (Addr × Obj)} {x : Ex} {sub : Nat → Nat → Bool} {i k n : Nat} {nm cn : Str} {p1 p2 p3 pos : Pos} (S : XcK X.K X.mg Z sub n) (hx : x.cls < n) (hk : k < n) (hC : X.mg (Z.xnm x.cls) = some (.ref C)) (zn : L2N.Zn (.ref C) none oe) (hf : ∃ vs, oe.data = .fields vs)
    (gl : Gl X "isinstance") (hm : X.mg "isinstance" = none) (hN : X.N[i]? = some nm) (hv : Vis X.env.scope nm) (hd : (nm == ("__debug__" : Str)) = false) (hcd : (nm == ("__classdict__" : Str)) = false)
    (gc : Gl X cn) (hD : X.mg cn = some (.ref D)) (hkn : Z.xnm k = cn) (cd : (cn == ("__debug__" : Str)) = false) :
    PD (X.suite a ((a, oe) :: pn)) { Z with ex := some a } N W (.Call (.Name "isinstance" p1) [.Name nm p2, .Name cn p3] [] pos) (dIsX sub x i k) := by
  have hn : (X.suite a ((a, oe) :: pn)).N[i]? = some nm := hN
  refine pe_imp (pe_callB (X := X.suite a ((a, oe) :: pn)) (call_isE (S.ex _ _ hC hx) zn.zc hf) gl hm boot_isinstance (pa_cons (pe_var hn hv hd hcd) (pa_cons (pe_glob gc hD (v := .ref D) rfl cd) pa_nil)) (by decide) (by decide)) fun σ H Q h => ?_
  obtain ⟨G, ca, env, c, rs, h⟩ := h
  simp only [dIsX] at h
  cases e : env[i]? with
  | none => rw [e] at h; exact h.elim
  | some sl =>
    rw [e] at h
    cases sl with
    | val d =>
      cases d with
      | exc =>
        obtain ⟨v, h1, h2⟩ := rs.val i _ e
        cases h2 with
        | exc ha =>
          have ha : some a = some _ := ha
          cases ha
          refine ⟨_, h1, .ref D, .ref D, sub x.cls k, rfl, fun u r => by cases r; rfl, ?_, h G ca H _ .refl rs (.bl _)⟩
          exact (S.kit _ _ _ _ hx hk hC (by rw [hkn]; exact hD)).1
      | _ => exact h.elim
    | _ => exact h.elim
end
end DL

set_option Elab.async false
set_option linter.all false
set_option maxRecDepth 100000
set_option maxHeartbeats 4000000
set_option autoImplicit false
/-! ## f(lambda: ..), f: try: call() / except .. as e: .. -/
namespace DL
open PySem PySem.Spec PyProof.Rows L2 LamX
section
variable {X : Cx} {Z : Zp} {N : En} {W : WX} {Y : Yp}
theorem RS0.other {Y Y' : Yp} {G H : Hp} {ca : Option Addr} {c : C} (r : RS0 Y G ca H c) (e : Y.Z.T = Y'.Z.T) : RS0 Y' G ca H c := ⟨r.le, by rw [← e]; exact r.tab, r.cup, r.nt⟩
theorem Wt.flat {Y Y' : Yp} {G : Hp} {ca : Option Addr} {v : V} {d : D} (w : Wt Y G ca v d) (h : d.flat = true) : Wt Y' G ca v d := by
  cases w with
  | non => exact .non
  | bl b => exact .bl b
  | int i => exact .int i
  | str x => exact .str x
  | _ => cases h
/-- what the getting def makes of the lambda's reading -/
def TTd (Y : Yp) (sem : (C → R D) → C → R D) : (XK → Hp → VK → Prop) → Hp → VK → Prop := fun tl H Q => ∃ G ca c lam, RS0 Y G ca H c ∧
  (∀ (E : XK) (Q' : VK), (match lam c with
    | .ok _ c1 => ∀ G1 ca1 H1 v, Stp G ca H G1 ca1 H1 → RS0 Y G1 ca1 H1 c1 → Q' v H1
    | .er x c1 => ∀ cls dd G1 ca1 H1, IsX Y x cls dd H1 → Stp G ca H G1 ca1 H1 → RS0 Y G1 ca1 H1 c1 → E cls dd H1
    | .st => False) → tl E H Q') ∧
  (match sem lam c with
    | .ok d c' => ∀ G' ca' H' v, Stp G ca H G' ca' H' → RS0 Y G' ca' H' c' → Wt Y G' ca' v d → Q v H'
    | _ => False)
theorem rs_none {n : Nat} {G H : Hp} {ca : Option Addr} {c : C} {σ : L2.St} (r : RS0 Y G ca H c) (hl : σ.length = n) : RS Y ⟨G, ca, H⟩ G ca σ H (List.replicate n .no) c where
  r0 := r
  st := .refl
  len := by rw [List.length_replicate, hl]
  val := fun i d h => by rw [List.getElem?_replicate] at h; split at h <;> cases h
  own := fun i xs h => by rw [List.getElem?_replicate] at h; split at h <;> cases h
  sep := fun i j xs ys a h => by rw [List.getElem?_replicate] at h; split at h <;> cases h
theorem gets_try {Ng : List Str} {x a h nm q : Str} {sg : Scope} {g CS : Addr} {cdg : Value} {b₀ : Stmt} {suite rest : List Stmt} {n ie : Nat} {catch_ : Nat → Bool} {suiteD : Ex → DS} {restD : DS} {p1 p2 p3 p4 p5 p6 : Pos}
    (hl : ∀ f : Addr, (L2.start Ng [V.ref f]).length = n) (h0 : ∀ f : Addr, (L2.start Ng [V.ref f])[0]? = some (some (V.ref f))) (nd : Ng.Nodup) (hie : Ng[ie]? = some nm) (hin : ie < n) (hloc : ∀ s H, (gcx X Ng x sg g cdg s H).env.kindOf nm = some .local)
    (gh : ∀ s H, Gl (gcx X Ng x sg g cdg s H) h) (dh : (h == ("__debug__" : Str)) = false) (mh : X.mg h = some (.ref CS))
    (hcatch : ∀ (k : Nat) (C : Addr), catch_ k = true → X.mg (Z.xnm k) = some (.ref C) → PySem.W.exmOne X.K (.ref C) (.ref CS) = some true)
    (hsu : ∀ (N : En) (s : Shared) (H : Hp) (a C : Addr) (oe : Obj) (pn : List (Addr × Obj)) (x' : Ex), catch_ x'.cls = true → X.mg (Z.xnm x'.cls) = some (.ref C) → L2N.Zn (.ref C) none oe → (∃ vs, oe.data = .fields vs) → L2H.RoomH 0 (gcx X Ng x sg g cdg s H).A →
      PSsD ((gcx X Ng x sg g cdg s H).nox.suite a ((a, oe) :: pn)) { Z with ex := some a } N W0 (b₀ :: suite) (suiteD x'))
    (hrest : ∀ (N : En) (s : Shared) (H : Hp), PSsD (gcx X Ng x sg g cdg s H).nox Z N W0 rest restD) :
    Gets X Ng x sg g cdg (.Try [.Expr (.Call (.Name a p1) [] [] p2) p3] [.ExceptHandler (some (.Name h p4)) (some nm) (b₀ :: suite) p5] [] [] p6 :: rest) a q (TTd (yOf X Z) (semTry n ie catch_ suiteD restD)) := by
  intro f c' s H Q tl act code hh room
  obtain ⟨G, ca, c, lam, r0, spec, fin⟩ := hh
  refine ⟨_, pss_cons (L2N.ps_try_as (X := (gcx X Ng x sg g cdg s H).nox) (c := .ref CS) (i := ie) (Wout := fun _ _ _ _ => False)
      (tb := fun W D σ H => σ[0]? = some (some (.ref f)) ∧ H c' = some (CodeO c' q) ∧ tl (fun cls d H' => W cls d σ H') H (fun _ H1 => D.nx σ H1))
      (ts := fun a cls d D σ H1 => ∃ (x' : Ex) (C : Addr), catch_ x'.cls = true ∧ X.mg (Z.xnm x'.cls) = some (.ref C) ∧ cls = .ref C ∧ d = none ∧ tS (yOf X { Z with ex := some a }) ⟨G, ca, H⟩ W0 (suiteD x') D σ H1)
      rfl rfl nd hie (hloc s H) ⟨gh s H, dh, .inl mh⟩ takesN0 (fun W pn xe tk _ => ?_) (fun a oe cls d pn zn hf => ?_)) (hrest ⟨G, ca, H⟩ s H), ?_⟩
  · refine ⟨fun pins s' σ H' D I h' => ?_⟩
    obtain ⟨h1, h2, h3⟩ := h'
    exact (pss_one (ps_expr (pos := p3) (act W pn xe p1 p2 tk))).run pins s' σ H' D I ⟨h1, h2, h3⟩
  · refine ⟨fun pins s' σ H' D I h' => ?_⟩
    obtain ⟨x', C, q0, q1, rfl, rfl, q3⟩ := h'
    exact (hsu ⟨G, ca, H⟩ s H a C oe pn x' q0 q1 zn hf room).run pins s' σ H' D I q3
  · have base : RS (yOf X Z) ⟨G, ca, H⟩ G ca (L2.start Ng [.ref f]) H (List.replicate n .no) c := rs_none r0 (hl f)
    refine ⟨h0 f, code, spec _ _ ?_⟩
    simp only [semTry] at fin
    cases e : lam c with
    | st => rw [e] at fin; exact fin
    | ok d c1 =>
      rw [e] at fin
      dsimp only at fin
      intro G1 ca1 H1 v s1 r1
      refine ⟨G1, ca1, List.replicate n .no, c1, base.step s1 r1, ?_⟩
      cases e2 : restD (List.replicate n .no) c1 with
      | nx env c2 =>
        rw [e2] at fin
        exact fun G2 ca2 σ2 H2 r2 _ => fin G2 ca2 H2 .non r2.st r2.r0 .non
      | rt d c2 =>
        rw [e2] at fin
        exact fun G2 ca2 H2 v s2 r2 w => fin G2 ca2 H2 v s2 r2 w
      | _ => rw [e2] at fin; exact fin.elim
    | er x' c1 =>
      rw [e] at fin
      dsimp only at fin
      intro cls dd G1 ca1 H1 hx s1 r1
      obtain ⟨C, m1, rfl, m2⟩ := hx
      by_cases hb : (catch_ x'.cls && x'.arg.isNon) = true
      · rw [if_pos hb] at fin
        rw [Bool.and_eq_true] at hb
        have m3 : dd = none := by
          have z := hb.2
          cases e3 : x'.arg with
          | non => rw [e3] at m2; exact m2
          | _ => rw [e3] at z; cases z
        refine ⟨true, hcatch _ _ hb.1 m1, fun _ a' ha' => ⟨x', C, hb.1, m1, rfl, m3, ?_⟩, fun z => by cases z⟩
        have env : RS (yOf X { Z with ex := some a' }) ⟨G, ca, H⟩ G1 ca1 ((L2.start Ng [.ref f]).set ie (some (.ref a'))) H1 ((List.replicate n .no).set ie (.val .exc)) c1 := by
          refine ⟨r1.other rfl, s1, by rw [List.length_set, List.length_set, List.length_replicate, hl f], fun i d h => ?_, fun i xs h => ?_, fun i j xs ys b h => ?_⟩
          · by_cases hi : ie = i
            · subst hi
              rw [List.getElem?_set_self (by rw [List.length_replicate]; exact hin)] at h
              cases h
              exact ⟨.ref a', List.getElem?_set_self (by rw [hl f]; exact hin), .exc rfl⟩
            · rw [List.getElem?_set_ne hi, List.getElem?_replicate] at h
              split at h <;> cases h
          · by_cases hi : ie = i
            · subst hi
              rw [List.getElem?_set_self (by rw [List.length_replicate]; exact hin)] at h
              cases h
            · rw [List.getElem?_set_ne hi, List.getElem?_replicate] at h
              split at h <;> cases h
          · by_cases hi : ie = i
            · subst hi
              rw [List.getElem?_set_self (by rw [List.length_replicate]; exact hin)] at h
              cases h
            · rw [List.getElem?_set_ne hi, List.getElem?_replicate] at h
              split at h <;> cases h
        refine ⟨G1, ca1, _, c1, env, ?_⟩
        cases e2 : suiteD x' ((List.replicate n .no).set ie (.val .exc)) c1 with
        | rt d c2 =>
          rw [e2] at fin
          dsimp only at fin
          by_cases hd : d.flat = true
          · rw [if_pos hd] at fin
            exact fun G2 ca2 H2 v s2 r2 w => fin G2 ca2 H2 v s2 (r2.other rfl) (w.flat hd)
          · rw [if_neg hd] at fin; exact fin.elim
        | _ => rw [e2] at fin; exact fin.elim
      · rw [if_neg hb] at fin; exact fin.elim
/-- the maker's side -/
theorem Stp.ext {G H H1 : Hp} {ca : Option Addr} (e : ExtN H H1) : Stp G ca H G ca H1 where
  le := fun _ _ h => h
  nw := fun _ _ h => .inl h
  dm := fun b h o ho => by
    by_cases t : ∃ ps, o = .tbl ps
    · exact t
    · exact h o (e b o ho fun ps z => t ⟨ps, z⟩)
  fr := fun b o h n _ => e b o h n
  cl := fun _ h => h
  cn := fun _ h => .inl h
theorem RS0.ext {G H H1 : Hp} {ca : Option Addr} {c : C} (r : RS0 Y G ca H c) (e : ExtN H H1) (t : Tabs Y.Z.T H1) : RS0 Y G ca H1 c where
  le := fun b u h => e b u (r.le b u h) fun ps z => r.nt b ps (by rw [← z]; exact h)
  tab := t
  cup := fun a h => ⟨e a _ (r.cup a h).1 notbl, (r.cup a h).2⟩
  nt := r.nt
theorem td_lam {sem : (C → R D) → C → R D} {body : DE} {σ : L2.St} {H : Hp} {Q : VK} (h : tD Y N W (dLam sem body) σ H Q) : tLam Y.Z.T (TTd Y sem) (fun E => tD Y N (fun cls d _ H' => E cls d H') body) σ H Q := by
  obtain ⟨G, ca, env, c, rs, h⟩ := h
  refine ⟨rs.r0.tab, fun H1 ext tabs => ⟨G, ca, c, fun c => (body env c).bind fun x c => .ok x.d c, rs.r0.ext ext tabs, fun E Q' hq => ?_, ?_⟩⟩
  · have rs1 := rs.step (.ext ext) (rs.r0.ext ext tabs)
    refine ⟨G, ca, env, c, rs1, ?_⟩
    dsimp only at hq
    cases e : body env c with
    | st => rw [e] at hq; exact hq
    | er x c1 =>
      rw [e] at hq
      exact fun cls dd G' ca' H' h1 s2 r2 => hq cls dd G' ca' H' h1 s2 r2.r0
    | ok rv c1 =>
      rw [e] at hq
      exact fun G' ca' H' v s2 r2 _ => hq G' ca' H' v s2 r2.r0
  · simp only [dLam] at h
    cases e : sem (fun c => (body env c).bind fun x c => .ok x.d c) c with
    | st => rw [e] at h; exact h.elim
    | er x c1 => rw [e] at h; exact h.elim
    | ok d c1 =>
      rw [e] at h
      intro G' ca' H' v s2 r2 w
      exact h G' ca' H' v ((Stp.ext ext).trans s2) (rs.step ((Stp.ext ext).trans s2) r2) w
end
end DL
namespace DL
open PySem PySem.Spec PyProof.Rows L2 LamX
section
variable {X : Cx} {Z : Zp} {N : En} {W : WX}
variable {elt tg iter : Expr} {ifs : List Expr} {scope : Scope} {own : List (Str × Nat)} {pos py spos : Pos} {it : DI} {g : TG} {t : DT} {e : DE} {is : List Nat} {i : Nat} {y : Str}
theorem psd_ownLcX (hot : L2H.HotC X) (hN : X.N.Nodup) (hy : X.N[i]? = some y) (hyl : X.env.scope.names.lookup y = some .local)
    (hsw : swapsWith (.ListComp elt [⟨tg, iter, ifs, 0⟩] scope pos) (some (.Name y py)) spos.line X.env = pure true) (hi : HX.PIX X tg iter (tDI (yOf X Z) N W false it)) (ok : BlkOk X.N X.env.scope scope own)
    (hg : ∀ (s : Shared) (H : Hp) (C : Addr) (cl : List (Str × Addr)) (fp : List Addr), HX.HotB (X.blk s H scope (compEnvC scope cl C X.env) fp) → PGD (X.blk s H scope (compEnvC scope cl C X.env) fp) Z N is tg g)
    (ht : ∀ (s : Shared) (H : Hp) (C : Addr) (cl : List (Str × Addr)) (fp : List Addr), HX.HotB (X.blk s H scope (compEnvC scope cl C X.env) fp) → PTs (X.blk s H scope (compEnvC scope cl C X.env) fp) ifs (tDT (yOf X Z) N W0 t))
    (he : ∀ (s : Shared) (H : Hp) (C : Addr) (cl : List (Str × Addr)) (fp : List Addr), HX.HotB (X.blk s H scope (compEnvC scope cl C X.env) fp) → PD (X.blk s H scope (compEnvC scope cl C X.env) fp) Z N W0 elt e)
    (hsb : ∀ i ∈ is, i ∈ own.map (·.2)) (hs : ∀ x, foldedSetIterable iter X.env x = pure x := by intro _; rfl) :
    PSD X Z N W (.Assign [.Name y py] (.ListComp elt [⟨tg, iter, ifs, 0⟩] scope pos) spos) (sOwn i (dComp it g t e (own.map (·.2)))) :=
  ps_imp (HX.ps_setLc (g := gD (yOf X Z) N is g) (te := tD (yOf X Z) N W0 e) hot hN hy hyl hsw hi ok ⟨hg, ht, he⟩ hs) fun D σ H h => tlc_of (J0 := trivial) hsb (own_asg h)
theorem psd_setLcX (hot : L2H.HotC X) (hN : X.N.Nodup) (hy : X.N[i]? = some y) (hyl : X.env.scope.names.lookup y = some .local)
    (hsw : swapsWith (.ListComp elt [⟨tg, iter, ifs, 0⟩] scope pos) (some (.Name y py)) spos.line X.env = pure true) (hi : HX.PIX X tg iter (tDI (yOf X Z) N W false it)) (ok : BlkOk X.N X.env.scope scope own)
    (hg : ∀ (s : Shared) (H : Hp) (C : Addr) (cl : List (Str × Addr)) (fp : List Addr), HX.HotB (X.blk s H scope (compEnvC scope cl C X.env) fp) → PGD (X.blk s H scope (compEnvC scope cl C X.env) fp) Z N is tg g)
    (ht : ∀ (s : Shared) (H : Hp) (C : Addr) (cl : List (Str × Addr)) (fp : List Addr), HX.HotB (X.blk s H scope (compEnvC scope cl C X.env) fp) → PTs (X.blk s H scope (compEnvC scope cl C X.env) fp) ifs (tDT (yOf X Z) N W0 t))
    (he : ∀ (s : Shared) (H : Hp) (C : Addr) (cl : List (Str × Addr)) (fp : List Addr), HX.HotB (X.blk s H scope (compEnvC scope cl C X.env) fp) → PD (X.blk s H scope (compEnvC scope cl C X.env) fp) Z N W0 elt e)
    (hsb : ∀ i ∈ is, i ∈ own.map (·.2)) (hs : ∀ x, foldedSetIterable iter X.env x = pure x := by intro _; rfl) :
    PSD X Z N W (.Assign [.Name y py] (.ListComp elt [⟨tg, iter, ifs, 0⟩] scope pos) spos) (sSet i (dComp it g t e (own.map (·.2)))) :=
  ps_imp (HX.ps_setLc (g := gD (yOf X Z) N is g) (te := tD (yOf X Z) N W0 e) hot hN hy hyl hsw hi ok ⟨hg, ht, he⟩ hs) fun D σ H h =>
    tlc_of (J0 := trivial) hsb (td_tdo (fun env c c' rv => dComp_lst env c c' rv) (tds h fun rv c G ca H v env rs w q => fin_set rs w q))
theorem hot_suite {a C : Addr} {oe : Obj} {pn : List (Addr × Obj)} (zn : L2N.Zn (.ref C) none oe) (hf : ∃ vs, oe.data = .fields vs) : L2H.HotC (X.suite a ((a, oe) :: pn)) := by
  obtain ⟨vs, hv⟩ := hf
  exact ⟨(a, oe), ⟨rfl, vs, hv, zn.2.2 vs hv⟩, List.mem_cons_self⟩
theorem un64H {A : Around} {e : Option Value} (r : L2H.RoomH 0 A) : (A.mark e).units + 64 < cLine := by have := r.un; show A.units + 64 < cLine; omega
theorem un65H {A : Around} {e : Option Value} (r : L2H.RoomH 0 A) : (A.mark e).units + 65 < cLine := by have := r.un; show A.units + 65 < cLine; omega
theorem catch_of {K : PySem.W.Frag} {mg : Str → Option Value} {sub : Nat → Nat → Bool} {n j : Nat} {CS : Addr} (S : XcK K mg Z sub n) (hj : j < n) (mj : mg (Z.xnm j) = some (.ref CS)) (hb : ∀ k, sub k j = true → k < n) :
    ∀ (k : Nat) (C : Addr), sub k j = true → mg (Z.xnm k) = some (.ref C) → PySem.W.exmOne K (.ref C) (.ref CS) = some true := fun k C hk hC => by
  rw [(S.kit k j C CS (hb k hk) hj hC mj).2, hk]
end
end DL
namespace DL
open PySem PySem.Spec PyProof.Rows L2 LamX
section
variable {X : Cx} {Z : Zp} {N : En} {W : WX}
/-- f() -/
theorem pd_call0 {k : Nat} {x : Str} {sem : DL.Sem} {p pos : Pos} (F : FnD X.prog X.w X.K X.mg X.base Z k x 0 sem) (hr : Room k X.A) (hg : Gl X x) (tk : L2N.Takes X W) (hdb : (x == ("__debug__" : Str)) = false) : PD X Z N W (.Call (.Name x p) [] [] pos) (dCall sem []) := by
  obtain ⟨f, fd, ps, hm, hk, hb, hlen, ok⟩ := F.ex
  have base : PE X (.Call (.Name x p) [] [] pos) (tCallSD (spD (yOf X Z) 0 sem) [] (fun σ cls dd H2 => W cls dd σ H2) tNil) := by
    refine ⟨fun pins s σ H Q I h => ?_⟩
    refine wpAny_Call_Name_kw (ld_glob I hg hm ?_ hdb)
    exact PySem.W.callWith_K0 I.kIn hk (run_fnSD (us := []) (vs := []) (ds := []) (dvs := []) ok hr hb .nil (L2N.passAt tk σ) I .nil h)
  refine pe_imp base fun σ H Q h => ?_
  have q := td_call (n := 0) (fs := []) rfl h
  obtain ⟨G, ca, env, c, rs, q⟩ := q
  exact q G ca H [] .refl rs .nil
end
end DL

set_option Elab.async false
set_option linter.all false
set_option maxRecDepth 100000
set_option maxHeartbeats 4000000
set_option autoImplicit false
namespace DL
open PySem PySem.Spec PyProof.Rows L2 LamX
/-! ### what _law_cup makes of a script -/
def cellOf (ns : List Int) : Int := let i := (ns ++ [0]).headD 0; if i < 0 then -i else i
def cup0 (ns : List Int) : C := ⟨if 10 ^ 18 ≤ cellOf ns then cellOf ns / 89 else 0, (cellOf ns * 331 + 4723) % 2044129279 + 191⟩
def spCup (K : PySem.W.Frag) : Sp := fun vs H Q _ => ∃ (a : Addr) (ns : List Int), vs = [.ref a] ∧ SqL K H a (ns.map V.int) ∧ ns.length ≤ 63 ∧ ∀ H' p, Same H H' → H p = none → H' p = some (.lst [.int (cup0 ns).a, .int (cup0 ns).b]) → Q (.ref p) H'
/-- the body's meaning, by its pieces: l the copy, z the zero list, r both, at the end p -/
theorem cup_first {K : PySem.W.Frag} {H : Hp} {a : Addr} {ns : List Int} (hS : SqL K H a (ns.map V.int)) : (ns.map V.int ++ [V.int 0])[0]? = some (.int ((ns ++ [0]).headD 0)) := by
  cases ns with
  | nil => rfl
  | cons x r => rfl
theorem cup_made {K : PySem.W.Frag} {H : Hp} {a : Addr} {ns : List Int} {Q : VK} (hS : SqL K H a (ns.map V.int)) (hlen : ns.length ≤ 63)
    (q : ∀ H' p, Same H H' → H p = none → H' p = some (.lst [.int (cup0 ns).a, .int (cup0 ns).b]) → Q (.ref p) H') :
    tSeq (tAsg (tCB (fun xs H Q => ∃ i, xs = [.int i] ∧ Q (.int (if i < 0 then -i else i)) H) (tCons (tOp (rIxL K) (tOp rCat (tCB (fun xs H Q => ∃ p ys, xs = [.ref p] ∧ (SqL K H p ys ∨ SqT K H p ys) ∧ ∀ l, H l = none → Q (.ref l) (upd H l (.lst ys))) (tCons (tVar 0) tNil)) (tLst (tCons (tC (.int 0)) tNil))) (tC (.int 0))) tNil)) (gName 1))
      (tRet (tLst (tCons (tIf (tTest (tOp (rI0 fun i j => .bl (decide (j ≤ i))) (tVar 1) (tOp (rI CPow fun i j => .int (i ^ j.toNat)) (tC (.int 10)) (tC (.int 18))))) (tOp (rI CDiv fun i j => .int (i / j)) (tVar 1) (tC (.int 89))) (tC (.int 0)))
        (tCons (tOp (rI0 fun i j => .int (i + j)) (tOp (rI (fun _ j => 0 < j) fun i j => .int (i % j)) (tCB (fun xs H Q => (∃ i, xs = [.int i] ∧ Q (.int i) H) ∨ ∃ k, xs = [.bl k] ∧ Q (.int (if k then 1 else 0)) H) (tCons (tOp (rI0 fun i j => .int (i + j)) (tOp (rI CMul fun i j => .int (i * j)) (tVar 1) (tC (.int 331))) (tC (.int 4723))) tNil)) (tC (.int 2044129279))) (tC (.int 191))) tNil))))
      { nx := fun _ H' => Q .non H', rt := Q } [some (.ref a), none] H := by
  refine ⟨.ref a, rfl, a, _, rfl, .inl hS, fun l nl => ⟨by decide, fun z nz => ⟨l, z, _, _, rfl, rfl, ?_, upd_same, ?_, fun r nr => ⟨r, _, 0, _, rfl, rfl, sql upd_same, atI_nat (j := 0) (cup_first hS), _, rfl, ?_⟩⟩⟩⟩
  · rw [upd_ne (ne_of_none upd_same nz)]; exact upd_same
  · rw [List.length_map]; exact Nat.le_of_lt (small1000 (by show ns.length + 1 ≤ 1000; omega))
  · have hc : (if (ns ++ [0]).headD 0 < 0 then -((ns ++ [0]).headD 0) else (ns ++ [0]).headD 0) = cellOf ns := rfl
    rw [hc]
    refine ⟨.int (cellOf ns), rfl, 10, 18, rfl, rfl, ⟨by decide, by decide, by decide⟩, cellOf ns, 10 ^ 18, rfl, rfl, _, rfl, ?_⟩
    have last : ∀ H1 : Hp, Same H H1 → ∀ x : Int, x = (cup0 ns).a → ∀ p, H1 p = none → Q (.ref p) (upd H1 p (.lst [.int x, .int (cup0 ns).b])) := fun H1 sm x e p np => by
      subst e
      exact q _ p (fun b o h => by rw [upd_ne (ne_of_none (sm b o h) np)]; exact sm b o h) (by
        cases e : H p with
        | none => rfl
        | some o => rw [sm p o e] at np; cases np) upd_same
    have tail : ∀ H1 : Hp, Same H H1 → ∀ x : Int, x = (cup0 ns).a → (tCons (tOp (rI0 fun i j => .int (i + j)) (tOp (rI (fun _ j => 0 < j) fun i j => .int (i % j)) (tCB (fun xs H Q => (∃ i, xs = [.int i] ∧ Q (.int i) H) ∨ ∃ k, xs = [.bl k] ∧ Q (.int (if k then 1 else 0)) H) (tCons (tOp (rI0 fun i j => .int (i + j)) (tOp (rI CMul fun i j => .int (i * j)) (tVar 1) (tC (.int 331))) (tC (.int 4723))) tNil)) (tC (.int 2044129279))) (tC (.int 191))) tNil) [some (.ref a), some (.int (cellOf ns))] H1 fun ys H2 => (V.int x :: ys).length ≤ sizeLine ∧ ∀ p, H2 p = none → Q (.ref p) (upd H2 p (.lst (V.int x :: ys))) := fun H1 sm x e =>
        ⟨_, rfl, _, _, rfl, rfl, .inr ⟨by decide, by decide⟩, _, _, rfl, rfl, .inl ⟨_, rfl, _, _, rfl, rfl, (by show (0 : Int) < 2044129279; decide), _, _, rfl, rfl, by show 2 ≤ sizeLine; decide, last H1 sm x e⟩⟩
    refine ite2 (fun e => ?_) (fun e => ?_)
    · refine ⟨_, rfl, _, _, rfl, rfl, ⟨by decide, by decide⟩, ?_⟩
      exact tail _ (fun b o h => DL.same_upd nr b o (DL.same_upd nz b o (DL.same_upd nl b o h))) _ (if_pos (of_decide_eq_true e)).symm
    · exact tail _ (fun b o h => DL.same_upd nr b o (DL.same_upd nz b o (DL.same_upd nl b o h))) _ (if_neg fun z => e (decide_eq_true z)).symm
/-! ### a def whose code object is known -/
structure FunC (K : PySem.W.Frag) (x : Str) (st : Stmt) (f : Addr) (fd : FuncData) (c : Addr) : Prop where
  ex : ∃ oc od kV doc pm an ct osl, fd = PySem.W.fnOf x x (defArgs st) (defBody st) (defScope st) .none kV doc pm an (.ref c) ct ∧
    K.lookup f = some ⟨oc, od, .func (PySem.W.fnOf x x (defArgs st) (defBody st) (defScope st) .none kV doc pm an (.ref c) ct), osl⟩ ∧ PySem.W.codeIn K (.ref c) x = true
  kp : PySem.W.keepIn K (.ref f) = true
section
variable {P : Program} {w : World} {K : PySem.W.Frag} {mg : Str → Option Value} {base : Heap} {Z : Zp}
theorem FunC.ok {x : Str} {st : Stmt} {f c : Addr} {fd : FuncData} {N ps : List Str} {k : Nat} {sp : Sp} (F : FunC K x st f fd c) (S : FnScope N ps (defScope st)) (len : ∀ vs H Q E, sp vs H Q E → vs.length = ps.length)
    (hbody : ∀ (A : Around) (outer : List PySem.Env) (s : Shared) (H : Hp) (vs : List V) (Q : VK) (E : XK), Room k (A.deeper (envOfC x (defScope st) s.heap.objs.size f (.ref c))) → sp vs H Q E →
      ∃ t, PSs (cxOf (L2N.CX P w) P w K mg base N x (defScope st) f (.ref c) A outer s H E) (defBody st) t ∧ t { nx := fun _ H' => Q .non H', rt := Q } (L2.start N vs) H) : FnOk P w K mg base (L2N.CX P w) (k + 1) f fd ps sp := by
  obtain ⟨oc, od, kV, doc, pm, an, ct, osl, rfl, lk, hcd⟩ := F.ex
  exact fn_of lk hcd S len hbody
theorem fnDc {x : Str} {st : Stmt} {f c : Addr} {fd : FuncData} {Nm ps : List Str} {k n : Nat} {sem : DL.Sem} {den : DS} (F : FunC K x st f fd c) (S : FnScope Nm ps (defScope st)) (hm : mg x = some (.ref f)) (hb : Binds K fd ps []) (hn : ps.length = n)
    (hsem : SemLe n sem (runF Nm.length den))
    (body : ∀ (A : Around) (outer : List PySem.Env) (s : Shared) (H : Hp) (E : XK) (En : En), Room k (A.deeper (envOfC x (defScope st) s.heap.objs.size f (.ref c))) →
      PSsD (cxOf (L2N.CX P w) P w K mg base Nm x (defScope st) f (.ref c) A outer s H E) Z En (fun cls d _ H => E cls d H) (defBody st) den) : FnD P w K mg base Z (k + 1) x n sem := by
  refine ⟨f, fd, ps, hm, F.kp, hb, hn, F.ok S (fun vs H Q E h => h.1.trans hn.symm) fun A outer s H vs Q E hr h => ?_⟩
  obtain ⟨hl, G, ca, c', ds, r, w, h⟩ := h
  have hd : ds.length = n := by rw [← w.length]; exact hl
  refine ⟨_, body A outer s H E ⟨G, ca, H⟩ hr, G, ca, _, c', rs_start r w, ?_⟩
  rcases hsem ds c' hd with e | e
  · rw [e] at h
    exact h.elim
  · rw [e] at h
    unfold runF at h
    cases e2 : den (ds.map .val ++ List.replicate (Nm.length - ds.length) .no) c' with
    | nx env c' =>
      rw [e2] at h
      exact fun G' ca' σ H' r' g => h G' ca' H' .non r'.st r'.r0 .non
    | rt d c' =>
      rw [e2] at h
      exact fun G' ca' H' v s r w => h G' ca' H' v s r w
    | er x env c' =>
      rw [e2] at h
      exact fun cls dd G' ca' σ H' h1 r' => h cls dd G' ca' H' h1 r'.st r'.r0
    | _ => rw [e2] at h; exact h.elim
/-! ### f(lambda: ..) -/
/-- the def x calls what it gets as a, and makes of it what sem says -/
structure GetD (K : PySem.W.Frag) (mg : Str → Option Value) (Z : Zp) (x a : Str) (sem : (C → R D) → C → R D) : Prop where
  ex : ∃ (g : Addr) (pg : Arguments) (bg : List Stmt) (sg : Scope) (dV kV doc pm cdv ct oc : Value) (an od : Option Addr) (osl : Array (Option Value)) (Ng : List Str), mg x = some (.ref g) ∧ PySem.W.keepIn K (.ref g) = true ∧
    K.lookup g = some ⟨oc, od, .func (PySem.W.fnOf x x pg bg sg dV kV doc pm an cdv ct), osl⟩ ∧ PySem.W.codeIn K cdv x = true ∧ L2.Binds K (PySem.W.fnOf x x pg bg sg dV kV doc pm an cdv ct) [a] [] ∧ FnScope Ng [a] sg ∧ Ng[0]? = some a ∧ Vis sg a ∧
    ∀ (X : Cx), X.K = K → X.mg = mg → ∀ q, Gets X Ng x sg g cdv bg a q (TTd ⟨K, mg, Z⟩ sem)
end
section
variable {X : Cx} {Z : Zp} {N : En} {W : WX} {Y : Yp}
theorem pd_lam {x a : Str} {sem : (C → R D) → C → R D} {params : Arguments} {body : Expr} {scope : Scope} {fb : DE} {k : Nat} {c Pt : Addr} {p lpos pos : Pos} (G : GetD X.K X.mg Z x a sem) (gl : Gl X x)
    (tabs : TabB X.base X.mg c Pt) (code : X.env.code = .ref c) (inT : (Pt, X.env.qual ++ "<lambda>") ∈ Z.T) (uniq : ∀ p ∈ Z.T, p.1 = Pt → p.2 = X.env.qual ++ "<lambda>") (rm : Room (k + 2) X.A) (ls : LamS X.env.scope scope) (nodef : defaultsOf params X.env = ([], []))
    (bnd : ∀ (q : Str) (cl : List (Str × Addr)) (pm cv ctv : Value), bindArgs (PySem.W.kla_fn "<lambda>" q params body scope cl pm cv ctv) ⟨[], []⟩ = pure [])
    (bd : ∀ (A : Around) (outer : List PySem.Env) (s : Shared) (H : Hp) (E : XK) (f c' : Addr), Room k (A.deeper (lamEnv X scope s.heap.objs.size f c')) → PD (lcx X A outer s H E scope f c') Z N (fun cls d _ H' => E cls d H') body fb)
    (nd0 : (x == ("__debug__" : Str)) = false) (nd1 : (a == ("__debug__" : Str)) = false) (nd2 : (a == ("__classdict__" : Str)) = false) :
    PD X Z N W (.Call (.Name x p) [.Lambda params body scope lpos] [] pos) (dLam sem fb) := by
  obtain ⟨g, pg, bg, sg, dV, kV, doc, pm, cdv, ct, oc, an, od, osl, Ng, mgx, kp, lk, cin, bs, fs, n0, vis, gets⟩ := G.ex
  exact pe_imp (pe_give (T := Z.T) (t := fun E => tD (yOf X Z) N (fun cls d _ H' => E cls d H') fb) gl mgx kp lk cin bs fs n0 vis (gets X rfl rfl _) tabs code inT uniq rm ls nodef bnd bd nd0 nd1 nd2) fun σ H Q h => td_lam (Y := yOf X Z) h
end
/-! ### the law -/
def spLaw (K : PySem.W.Frag) (TT : List (Addr × Str)) : Sp := fun vs H Q _ => ∃ (a : Addr) (ns : List Int), vs = [.ref a] ∧ Tabs TT H ∧ SqL K H a (ns.map V.int) ∧ ns.length ≤ 63 ∧ ∀ H', Q (.bl true) H'
section
variable {P : Program} {w : World} {K : PySem.W.Frag} {mg : Str → Option Value} {base : Heap} {Z : Zp}
theorem law_start {X : Cx} {i n : Nat} {fC : Addr} {fdC : FuncData} {rest : List Stmt} {den : DS} {W : WX} {p1 p2 p3 p4 p5 : Pos} (FC : FnOk X.prog X.w X.K X.mg X.base (L2N.CX X.prog X.w) 1 fC fdC ["script"] (spCup X.K)) (gC : X.mg "_law_cup" = some (.ref fC)) (kC : PySem.W.keepIn X.K (.ref fC) = true) (bC : Binds X.K fdC ["script"] [])
    (hr : Room 1 X.A) (nd : X.N.Nodup) (h0 : X.N[0]? = some ("script" : Str)) (hi : X.N[i]? = some ("cup" : Str)) (hin : i < n) (hi0 : i ≠ 0) (v0 : Vis X.env.scope "script") (lo : Loc X.env.scope "cup") (hf : X.fn "cup" = true ∨ X.env.scope.names.lookup ("cup" : Str) = some .local) (gl : Gl X "_law_cup")
    (hrest : ∀ N, PSsD X Z N W rest den) (hden : ∀ ns : List Int, ∃ c, den ((List.replicate n .no).set i (.val .cup)) (cup0 ns) = .rt (.bl true) c)
    (hs : swapsWith (.Call (.Name "_law_cup" p2) [.Name "script" p3] [] p4) (some (.Name "cup" p1)) p5.line X.env = pure false := by rfl)
    {Q : VK} {σ : L2.St} {H : Hp} {a : Addr} {ns : List Int} (hl : σ.length = n) (ha : σ[0]? = some (some (.ref a))) (hT : Tabs Z.T H) (hS : SqL X.K H a (ns.map V.int)) (hlen : ns.length ≤ 63) (q : ∀ H', Q (.bl true) H') :
    ∃ t, PSs X (.Assign [.Name "cup" p1] (.Call (.Name "_law_cup" p2) [.Name "script" p3] [] p4) p5 :: rest) t ∧ t { nx := fun _ H' => Q .non H', rt := Q } σ H := by
  obtain ⟨c1, e1⟩ := hden ns
  have call := pe_callSD (X := X) (p := p2) (pos := p4) (e := .Name "script" p3) (es := []) (E := fun _ _ _ _ => False) (dvs := []) FC hr gl gC kC bC .nil (fun σ pins H s e s' I z => by
    obtain ⟨_, _, _, _, _, _, _, _, _, _, _, _, z⟩ := z
    exact z.elim) (pa_cons (pe_var (i := 0) h0 v0) pa_nil)
  refine ⟨_, pss_cons (ps_set (i := i) nd hi lo call hs hf) (hrest ⟨fun _ => none, none, fun _ => none⟩), ?_⟩
  refine ⟨.ref a, ha, a, ns, rfl, hS, hlen, fun H' p sm np hp => ?_⟩
  have st : Stp (fun _ => none) none (fun _ => none) (fun _ => none) (some p) H' := ⟨fun _ _ h => h, fun _ _ h => .inl h, fun _ _ _ h => (by cases h), fun _ _ h _ _ => (by cases h), fun _ h => (by cases h), fun _ _ => .inr (.of rfl)⟩
  have r0 : RS0 (yOf X Z) (fun _ => none) (some p) H' (cup0 ns) := by
    refine ⟨fun _ _ h => (by cases h), hT.ext sm, fun b h => ?_, fun _ _ h => (by cases h)⟩
    cases h
    exact ⟨hp, rfl⟩
  have hlr : i < (List.replicate n Slot.no).length := by rw [List.length_replicate]; exact hin
  have rs : RS (yOf X Z) ⟨fun _ => none, none, fun _ => none⟩ (fun _ => none) (some p) (σ.set i (some (.ref p))) H' ((List.replicate n .no).set i (.val .cup)) (cup0 ns) := by
    refine ⟨r0, st, by rw [List.length_set, List.length_set, List.length_replicate, hl], fun j d h => ?_, fun j xs h => ?_, fun j k xs ys b h => ?_⟩
    · by_cases hj : i = j
      · subst hj
        rw [List.getElem?_set_self hlr] at h
        cases h
        exact ⟨.ref p, List.getElem?_set_self (by rw [hl]; exact hin), .cup rfl⟩
      · rw [List.getElem?_set_ne hj, List.getElem?_replicate] at h
        split at h <;> cases h
    · by_cases hj : i = j
      · subst hj
        rw [List.getElem?_set_self hlr] at h
        cases h
      · rw [List.getElem?_set_ne hj, List.getElem?_replicate] at h
        split at h <;> cases h
    · by_cases hj : i = j
      · subst hj
        rw [List.getElem?_set_self hlr] at h
        cases h
      · rw [List.getElem?_set_ne hj, List.getElem?_replicate] at h
        split at h <;> cases h
  refine ⟨_, _, _, _, rs, ?_⟩
  rw [e1]
  intro G2 ca2 H2 v s2 r2 w2
  cases w2
  exact q H2
/-! ### the row's end -/
theorem walk_tab {l : PySem.W.OpenLaw} {n k : Nat} {q : Program} {loose : List Str} {XP : (Str → Option Value) → Heap → Prop} {YP : World → Heap → Prop} {d : DefRec} {K : Params → PySem.W.Frag} {CX : World → CXT} {x : Str} {ts : List Str}
    (hn : l.most = some n) (hn2 : n ≤ sizeLine) (hdf : d.params.defaults = []) (hr : Room k callerA) (hts : ∀ t ∈ ts, ((recsOf q).find? fun e => e.name == t).isSome = true) (hY : ∀ (w : World) (h : Heap), YP w h → (K w.params).In h)
    (F : ∀ (w : World) (mg : Str → Option Value) (fa : Addr) (h : Heap), YP w h → (K w.params).In h → h.Ns mainGlobals mg → mg d.name = some (.ref fa) →
      (∀ t ∈ ts, ∀ c P, PySem.W.tabIn (K w.params) t = some (c, P) → PySem.W.CodeHd h c P ∧ h.get? P = some { cls := .none, data := .fields #[] }) → LawAtS l w (K w.params) (CX w) k n x mg fa h)
    (hCX : ∀ (w : World) (H : Hp) (s : Shared) (e : Value) (s' : Shared), CX w [] H s (fun _ _ _ => False) e s' → False) :
    PySem.W.WalkO q loose XP YP l.row.toRowW d [] (fun f vs => PySem.call f vs) := by
  refine Att.attach_callB hn hdf fun w s₀ s₁ mg mb fa o pm cd doc a vs ns G Y ho hd hcd hmg hobj hints hlen hbits hg => ?_
  have KX := hY w _ Y
  obtain ⟨fd, cs, sp, hT, nT, C, hb, hsp, hF⟩ := F w mg fa _ Y KX G.T.g hmg fun t ht c P e => by
    obtain ⟨dr, hdr⟩ := Option.isSome_iff_exists.mp (hts t ht)
    exact PySem.W.tab_of G.T KX hdr e
  exact law_callTs KX G.T.g G.T.b G.T.builtins G.T.nolimit hg hT nT C G.T.bmain hobj hints (Nat.le_trans hlen hn2) hr hF hb (fun H hH hS => hsp H a ns hlen hbits hH hS) fun H e s' => hCX w H s₁ e s'
end
end DL
namespace DL
open PySem PySem.Spec PyProof.Rows L2 LamX
theorem tab_fact {K : PySem.W.Frag} {x : Str} {f c P : Addr} {oc e : Value} {od dd : Option Addr} {fd : FuncData} {sl sl' : Array (Option Value)} {vs : Array Value} (a : PySem.W.nsIn K mainGlobals x = some (some (.ref f))) (l : K.lookup f = some ⟨oc, od, .func fd, sl⟩) (hc : fd.code = .ref c)
    (lc : K.lookup c = some ⟨e, dd, .fields vs, sl'⟩) (pv : vs[11]? = some (.ref P)) : PySem.W.tabIn K x = some (c, P) := by
  unfold PySem.W.tabIn
  rw [a]
  dsimp only
  rw [l]
  dsimp only
  rw [hc]
  dsimp only
  rw [lc]
  dsimp only
  rw [pv]
theorem pair_of {K : PySem.W.Frag} {C D : Addr} {b : Bool} (cc : PySem.W.subIn K (.ref C) (.ref C) = some true) (cd : PySem.W.subIn K (.ref C) (.ref D) = some b) (bD : PySem.W.subIn K (.ref D) (.type "BaseException") = some true) (hD : PySem.W.hasDictIn K D = true) (tD : PySem.W.typeIn K (.ref D) = some (.type "type")) :
    PySem.W.kitOne K (.ref C) (.ref D) = some b ∧ PySem.W.exmOne K (.ref C) (.ref D) = some b := by
  have ex := PySem.W.exm_ref bD hD tD cd
  refine ⟨?_, ex⟩
  unfold PySem.W.kitOne
  by_cases e : ((Value.ref C : Value) == Value.ref D) = true
  · rw [if_pos e]
    have e2 : C = D := by
      have := eq_of_beq e
      cases this
      rfl
    subst e2
    rw [cc] at cd
    exact cd
  · rw [if_neg e]
    unfold PySem.W.exmOne at ex
    rw [if_pos (by rw [bD] <;> rfl)] at ex
    exact ex
end DL

set_option Elab.async false
set_option linter.all false
set_option maxRecDepth 100000
set_option maxHeartbeats 4000000
set_option autoImplicit false
/-! ## defs as values -/
namespace DL
open PySem PySem.Spec PyProof.Rows L2 LamX
section
variable {P : Program} {w : World} {K : PySem.W.Frag} {mg : Str → Option Value} {base : Heap} {Z : Zp}
theorem FnD.up {k k' n : Nat} {x : Str} {sem : DL.Sem} (F : FnD P w K mg base Z k x n sem) (h : k ≤ k') : FnD P w K mg base Z k' x n sem := by
  obtain ⟨f, fd, ps, hm, hk, hb, hl, ok⟩ := F.ex
  exact ⟨f, fd, ps, hm, hk, hb, hl, ⟨ok.len, fun A outer s H args us vs Q E hr e0 bt r sp => ok.run A outer s H args us vs Q E (hr.mono h) e0 bt r sp⟩⟩
end
section
variable {X : Cx} {Z : Zp} {N : En} {W : WX}
theorem pd_fnv {k lev n : Nat} {x : Str} {sem : DL.Sem} {pos : Pos} (F : FnD X.prog X.w X.K X.mg X.base Z lev x n sem) (hg : Gl X x) (hk : Z.fnm k = x) (hd : (x == ("__debug__" : Str)) = false) : PD X Z N W (.Name x pos) (dC (.fn k)) := by
  obtain ⟨f, fd, ps, hm, _⟩ := F.ex
  exact pd_glob hg hm (v := .ref f) rfl (fun G ca => .fn (by show X.mg (Z.fnm k) = _; rw [hk]; exact hm)) hd
theorem pd_callV {i lev n : Nat} {x : Str} {tbl : Nat → Option DL.Sem} {e : Expr} {es : List Expr} {fs : List DE} {p pos : Pos} (hN : X.N[i]? = some x) (hv : Vis X.env.scope x) (hd : (x == ("__debug__" : Str)) = false) (hcd : (x == ("__classdict__" : Str)) = false)
    (F : ∀ k sem, tbl k = some sem → FnD X.prog X.w X.K X.mg X.base Z lev (Z.fnm k) n sem) (hr : Room lev X.A) (tk : L2N.Takes X W) (ha : PDA X Z N W (e :: es) (dArgs fs)) (hn : fs.length = n)
    (he : starEach (e :: es) X.env = (false, eval e X.env) :: starEach es X.env := by rfl) (hpl : (backTo pos (starEach es X.env)).any (·.1) = false := by rfl) : PD X Z N W (.Call (.Name x p) (e :: es) [] pos) (dCallV tbl i fs) := by
  refine ⟨fun pins s σ H Q I h => ?_⟩
  obtain ⟨G, ca, env, c, rs, h⟩ := h
  unfold dCallV at h
  cases e1 : env[i]? with
  | none => rw [e1] at h; exact h.elim
  | some sl =>
    rw [e1] at h
    cases sl with
    | val d =>
      cases d with
      | fn k =>
        dsimp only at h
        cases e2 : tbl k with
        | none => rw [e2] at h; exact h.elim
        | some sem =>
          rw [e2] at h
          obtain ⟨v, h1, h2⟩ := rs.val i _ e1
          cases h2 with
          | fn hm =>
            rename_i a
            have FF := F k sem e2
            obtain ⟨f, fd, ps, gm, hk, hb, hlen, ok⟩ := FF.ex
            have hm : X.mg (Z.fnm k) = some (.ref a) := hm
            rw [gm] at hm
            cases hm
            have q := td_call (n := n) (W := W) (N := N) (Y := yOf X Z) (σ := σ) (H := H) (Q := Q) hn ⟨G, ca, env, c, rs, h⟩
            refine wpAny_Call_Name_kw (thn ((pe_var (pos := p) (i := i) hN hv hd hcd).run pins s σ H (fun v H1 => v = .ref a ∧ H1 = H) I ⟨.ref a, h1, rfl, rfl⟩) fun u s1 ⟨v, H1, I1, r1, ev, eH⟩ => ?_)
            subst ev
            rw [eH] at I1
            obtain rfl : u = Value.ref a := r1
            refine PySem.W.callWith_K (h₀ := X.base) I.ok.mod.kin hk (thn (ha.run pos pins s1 σ H _ I1 q) fun us s2 ⟨vs, H2, I2, r, q2⟩ => ⟨I2.kIn, ?_⟩) he hpl
            exact run_fnSD (ds := []) (dvs := []) ok hr hb .nil (L2N.passAt tk σ) I2 r (by rw [List.append_nil]; exact q2)
      | _ => exact h.elim
    | _ => exact h.elim
end
end DL

set_option Elab.async false
set_option linter.all false
set_option maxRecDepth 100000
set_option maxHeartbeats 4000000
set_option autoImplicit false
/-! ## xs[::-1] -/
namespace DL
open PySem PySem.Spec PyProof.Rows L2 LamX
section
variable {X : Cx} {Z : Zp} {N : En} {W : WX}
def tRevL (K : PySem.W.Frag) (te : TE) : TE := fun σ H Q => te σ H fun v H1 => ∃ (a : Addr) (xs : List V), v = .ref a ∧ SqL K H1 a xs ∧ ∀ q, H1 q = none → Q (.ref q) (upd H1 q (.lst xs.reverse))
theorem pe_revL {e : Expr} {te : TE} {j : _} {p2 p3 p4 pos : Pos} (he : PE X e te) : PE X (.Subscript e (.Slice none none (some (.UnaryOp .USub (.Constant (.int 1) j p3) p4)) p2) pos) (tRevL X.K te) := by
  refine ⟨fun pins s σ H Q I h => ?_⟩
  refine Subscript_ (thn (he.run pins s σ H _ I h) fun v s1 ⟨x, H1, I1, r1, a, xs, ex, hx, q⟩ => ?_)
  subst ex
  cases r1
  have po : PO X (some (.UnaryOp .USub (.Constant (.int 1) j p3) p4)) _ := po_some (pe_un un_neg pe_int)
  refine wpAny_Slice (thn (po_none.run pins s1 σ H1 (fun l H2 => l = none ∧ H2 = H1) I1 ⟨rfl, rfl⟩) fun vl s2 ⟨l, H2, I2, pl, el, eh⟩ => ?_)
  subst el
  rw [eh] at I2
  refine thn (po_none.run pins s2 σ H1 (fun l H2 => l = none ∧ H2 = H1) I2 ⟨rfl, rfl⟩) fun vu s3 ⟨u, H3, I3, pu, el, eh⟩ => ?_
  subst el
  rw [eh] at I3
  refine thn (po.run pins s3 σ H1 (fun k H2 => k = some (-1) ∧ H2 = H1) I3 ?_) fun vk s4 ⟨k, H4, I4, pk, ek, eh⟩ => ?_
  · exact ⟨_, rfl, _, rfl, rfl, rfl⟩
  · subst ek
    rw [eh] at I4
    have I5 : Inv X pins σ H1 { s4 with heap := s4.heap.push { cls := .type "slice", data := .fields #[vl, vu, vk] } } := I4.kept (t' := s4.toks) fun b ob q => Heap.get?_push_of_some _ q
    obtain ⟨its, r, ht, hz⟩ := I5.list hx
    have hlen := r.length
    show wpAny (model X.prog X.w) X.A (subscriptTail e (.Slice none none (some (.UnaryOp .USub (.Constant (.int 1) j p3) p4)) p2) (.ref a) (.ref s4.heap.objs.size)) (EP X pins σ Q) X.xe { s4 with heap := s4.heap.push { cls := .type "slice", data := .fields #[vl, vu, vk] } }
    refine tail_any ht.isList.typeIs slot_list_getitem.lookup ?_ (by with_unfolding_all rfl)
    refine wpAny_getItem_list_slice ht.isList (Heap.IsSliceOf.new ..) pl pu pk (by decide) ?_ (by rw [List.size_toArray] <;> omega)
    rw [PySem.W.krv_pick]
    refine ⟨.ref (s4.heap.push { cls := .type "slice", data := .fields #[vl, vu, vk] }).objs.size, _, I5.laid (t' := s4.toks) (o := .lst xs.reverse) (fun b ob q => Heap.get?_push_of_some _ q) (Nat.le_refl _) ?_, rfl, q _ (I5.hok.fresh (Nat.le_refl _))⟩
    exact ⟨by rw [List.length_reverse]; exact hz, its.reverse, 0, r.reverse, Heap.get?_push_size _ rfl⟩
theorem pdo_rev {e : Expr} {f : DE} {j : _} {p2 p3 p4 pos : Pos} (he : PD X Z N W e f) : PDO X Z N W (.Subscript e (.Slice none none (some (.UnaryOp .USub (.Constant (.int 1) j p3) p4)) p2) pos) (dO1 D.revA f) :=
  pe_imp (pe_revL he) fun σ H Q ⟨G, ca, env, c, rs, h⟩ => by
    refine ⟨G, ca, env, c, rs, ?_⟩
    simp only [dO1] at h
    cases e1 : f env c with
    | st => rw [e1] at h; exact h
    | er x c1 => rw [e1] at h; exact h
    | ok x c1 =>
      rw [e1] at h
      simp only [R.bind] at h
      intro G1 ca1 H1 vx s1 r1 w1
      cases e2 : x.d with
      | lst xs =>
        rw [e2] at h
        obtain ⟨ds, e3, h⟩ := h
        cases e3
        have ws := w1.read r1
        rw [e2] at ws
        obtain ⟨a, us, rfl, q1, q2, q3⟩ := ws.lst r1.r0
        refine ⟨a, us, rfl, sql q1, fun q hq => ?_⟩
        exact h G1 ca1 _ q us.reverse (s1.trans (.new hq)) (r1.step (.new hq) (r1.r0.new hq)) (s1.dm q (.of hq)) upd_same (r1.r0.free hq) (r1.r0.ncup hq) q2.reverse (by rw [List.length_reverse]; exact q3)
      | _ => rw [e2] at h; exact h.elim
theorem rev_lst {f : DE} (env : DL.Env) (c c' : C) (rv : RV) (h : dO1 D.revA f env c = .ok rv c') : ∃ ds, rv = .pl (.lst ds) := by
  simp only [dO1] at h
  cases e1 : f env c with
  | st => rw [e1] at h; cases h
  | er x c1 => rw [e1] at h; cases h
  | ok x c1 =>
    rw [e1] at h
    simp only [R.bind] at h
    unfold D.revA at h
    split at h
    · cases h; exact ⟨_, rfl⟩
    · cases h
end
end DL

set_option Elab.async false
set_option linter.all false
set_option maxRecDepth 100000
set_option maxHeartbeats 4000000
set_option autoImplicit false
/-! ## bool - bool -/
namespace DL
open PySem PySem.Spec PyProof.Rows L2 LamX
section
variable {X : Cx} {Z : Zp}
def rSubB : R2 := fun x y H Q => ∃ a b : Bool, x = .bl a ∧ y = .bl b ∧ Q (.int ((if a = true then 1 else 0) - (if b = true then 1 else 0))) H
theorem op_subB : OpR X (binaryOp .Sub) rSubB := by
  intro pins s σ H x y u v Q I rx ry h
  obtain ⟨a, b, rfl, rfl, q⟩ := h
  cases rx
  cases ry
  exact sub_bool ⟨.int _, H, I.tok _, ⟨_, by cases a <;> cases b <;> rfl⟩, q⟩
theorem od_subB : OpD X Z (binaryOp .Sub) D.subB := ⟨_, op_subB, fun G ca H c x y dx dy d Q rs w1 w2 e q => by
  unfold D.subB at e
  split at e
  · cases e
    have e1 := w1.atom fun _ z => by cases z
    have e2 := w2.atom fun _ z => by cases z
    cases e1
    cases e2
    exact ⟨_, _, rfl, rfl, q.here rs (.int _)⟩
  · cases e⟩
theorem od_subA : OpD X Z (binaryOp .Sub) D.subA := opd_or od_sub od_subB
end
end DL

set_option Elab.async false
set_option linter.all false
set_option maxRecDepth 100000
set_option maxHeartbeats 4000000
set_option autoImplicit false
/-! ## a, b = a list -/
namespace DL
open PySem PySem.Spec PyProof.Rows L2 LamX
section
variable {X : Cx} {Z : Zp} {N : En} {W : WX}
theorem pgd_lst {es : List Expr} {k : _} {is : List Nat} {fs : List TG} {pos : Pos} (hc : X.calm = true) (h : PGsD X Z N is es fs) (hl : fs.length = es.length)
    (hn : (assignEach es X.env).length = es.length := by rfl) (hst : (assignEach es X.env).findIdx? (·.1) = none := by rfl) : PGD X Z N is (.Tuple es k pos) (tgL fs) :=
  pg_imp (pg_lst hc h hn hst) fun v σ H Q ⟨G, ca, env, c, d, env', r, w, e, k⟩ => by
    cases d with
    | lst ds =>
      cases w with
      | lst q1 q2 q3 => exact ⟨_, _, rfl, sql (r.r0.le _ _ q1), by rw [q2.length, tgAll_len e, hl], G, ca, env, c, ds, env', r, q2, e, k⟩
    | _ => cases e
end
end DL

set_option Elab.async false
set_option linter.all false
set_option maxRecDepth 100000
set_option maxHeartbeats 4000000
set_option autoImplicit false
/-! ## zip of two lists within an except suite -/
namespace HX
open PySem PySem.Spec PyProof.Rows HotX
section
variable {prog : Program} {w : World} {A : Around} {E : Value → Shared → Prop} {s : Shared}
theorem nextOf_end {it l x1 : Addr} {i : Nat} {items : Array Value} {Q : Value → Shared → Prop} (hot : HotAt A x1 s.heap) (ne : x1 ≠ it)
    (hit : s.heap.IsListIter it l i) (hl : s.heap.IsList l items) (hx : items[i]? = none)
    (hE : ∀ h' e, Heap.ExtBut it s.heap h' → (∃ o, h'.get? e = some o ∧ o.cls = .type "StopIteration") → E (.ref e) { s with heap := h' }) :
    wpAny (model prog w) A (Builtin.SmallTypes.nextOf (.ref it)) Q E s := by
  obtain ⟨o, ho, hc, hd⟩ := id hit
  obtain ⟨ol, hol, _, nl, hdl⟩ := hl
  obtain ⟨hh, o1, vs1, h1, d1, c1⟩ := hot
  have tp := hit.typeIs
  unfold Builtin.SmallTypes.nextOf
  refine wpAny_bind (wpAny_callSpecial?_slot (name := Str.ofString "__next__") tp slot_listiter_next (wpAny_call_entry slot_listiter_next tp entry_listiter_next ?_ (args_listiter_next _)))
  show wpAny _ _ (field (.ref it) 0 >>= _) _ _ s
  refine wpAny_bind (wpAny_field ho hd (x := .ref l) rfl ?_)
  show wpAny _ _ (if (Value.ref l == Value.none) = true then _ else _) _ _ s
  rw [if_neg (show ¬ ((Value.ref l == Value.none) = true) from Bool.false_ne_true)]
  show wpAny _ _ (field (.ref it) 1 >>= _) _ _ s
  refine wpAny_bind (wpAny_field ho hd (x := .int i 0) rfl ?_)
  show wpAny _ _ (seqItems? _ >>= _) _ _ s
  refine wpAny_bind (wpAny_seqItems hol hdl ?_)
  simp only [Int.toNat_natCast, hx]
  have kept : Heap.ExtBut it s.heap (s.heap.update it (Obj.mapFields (·.setIfInBounds 0 .none))) := (Heap.SameBut.update ..).extBut
  refine wpAny_bind (wpAny_rule (wpAny_bind (wpAny_setField ho hd (by simp) ?_)))
  show wpAny _ _ (newExc (.type "StopIteration") [] >>= _) _ _ _
  have up : ∀ {b u}, b ≠ it → s.heap.get? b = some u → (s.heap.update it (Obj.mapFields (·.setIfInBounds 0 .none))).get? b = some u := fun {b u} nb e => kept b u nb e
  refine wpAny_bind ?_
  simp only [newExc, newTuple]
  refine wpAny_bind (wpAny_newObj_type ?_ (by size_fits))
  refine wpAny_bind (m := firstArgMember _ _) (wpAny_of_eq (a := Value.none) (by first | rfl | (simp only [firstArgMember]; rfl)) ?_)
  refine wpAny_newObj_type ?_ (by size_fits)
  refine raiseNew_hot ⟨hh, o1, vs1, Heap.get?_push_of_some _ (Heap.get?_push_of_some _ (up ne h1)), d1, c1⟩ (Nat.ne_of_lt ?_) (Heap.get?_push_size _ rfl) rfl (by first | (simp; done) | (simp; omega) | (simp only [Array.size_append]; simp; omega)) ?_
  · exact Heap.lt_size (Heap.get?_push_of_some _ (up ne h1))
  · refine hE _ _ (fun b u nb e => ?_) ⟨_, Heap.get?_update_self _ (Heap.get?_push_size _ rfl) rfl, rfl⟩
    rw [Heap.get?_update_other _ _ (Nat.ne_of_gt (Heap.lt_size (Heap.get?_push_of_some _ (up nb e))))]
    exact Heap.get?_push_of_some _ (Heap.get?_push_of_some _ (up nb e))
theorem HotAt.ext {x1 b : Addr} {h h' : Heap} (hot : HotAt A x1 h) (k : Heap.ExtBut b h h') (ne : x1 ≠ b) : HotAt A x1 h' := by
  obtain ⟨q1, o1, v1, q2, q3, q4⟩ := hot
  exact ⟨q1, o1, v1, k _ _ ne q2, q3, q4⟩
theorem zip_next_end {z TI TO i1 i2 l1 l2 x1 : Addr} {k1 k2 : Nat} {xs ys : Array Value} {a b : Value} {Q : Fin → Shared → Prop} (hot : HotAt A x1 s.heap) (nz : x1 ≠ z) (nTO : x1 ≠ TO) (n1 : x1 ≠ i1) (n2 : x1 ≠ i2) (D : ZipApart z TI TO i1 i2 l1 l2)
    (hz : IsZip s.heap z TI TO .none) (hTI : IsPair s.heap TI (.ref i1) (.ref i2)) (hTO : IsPair s.heap TO a b)
    (h1 : s.heap.IsListIter i1 l1 k1) (h2 : s.heap.IsListIter i2 l2 k2) (hl1 : s.heap.IsList l1 xs) (hl2 : s.heap.IsList l2 ys) (hend : xs[k1]? = none ∨ ys[k2]? = none)
    (hE : ∀ h' e, (∀ c o, c ≠ z → c ≠ TO → c ≠ i1 → c ≠ i2 → s.heap.get? c = some o → h'.get? c = some o) → (∃ o, h'.get? e = some o ∧ o.cls = .type "StopIteration") → E (.ref e) { s with heap := h' }) :
    wpAny (model prog w) A (Builtin.«zip.__next__» ⟨[.ref z], []⟩) Q E s := by
  show wpAny _ _ (field (.ref z) 2 >>= _) _ _ _
  refine wpAny_bind (wpAny_field hz rfl (x := .bool false) rfl ?_)
  show wpAny _ _ (field (.ref z) 3 >>= _) _ _ _
  refine wpAny_bind (wpAny_field hz rfl (x := .ref TI) rfl ?_)
  refine wpAny_bind (wpAny_seqItems hTI rfl ?_)
  show wpAny _ _ (Builtin.SmallTypes.ownedTupleIsFree (.ref z) >>= _) _ _ _
  refine wpAny_bind ?_
  unfold Builtin.SmallTypes.ownedTupleIsFree
  refine wpAny_bind (wpAny_field hz rfl (x := .none) rfl (wpAny_pure ?_))
  simp only [if_true]
  refine wpAny_bind (wpAny_rule ?_)
  refine wpAny_bind (wpAny_field hz rfl (x := .ref TO) rfl ?_)
  refine wpAny_bind (wpAny_setField_rec hz (by simp) fun h₁ hz₁ hs₁ => ?_)
  replace hz₁ : IsZip h₁ z TI TO .ellipsis := hz₁
  have hot₁ : HotAt A x1 h₁ := HotAt.ext hot hs₁.extBut nz
  refine wpAny_bind ?_
  simp only [List.zipIdx_cons, List.zipIdx_nil, List.forIn_cons, List.forIn_nil]
  refine wpAny_bind (wpAny_bind (wpAny_onRaise ?_))
  show wpAny _ _ (Builtin.SmallTypes.nextOf (.ref i1) >>= _) _ _ _
  cases hx : xs[k1]? with
  | none =>
    refine wpAny_bind (nextOf_end hot₁ n1 (h1.extBut hs₁.extBut D.i1z) (hl1.extBut hs₁.extBut D.l1z) hx fun h₂ e hs₂ he => ?_)
    obtain ⟨oe, hoe, hce⟩ := he
    have hz₂ : IsZip h₂ z TI TO .ellipsis := hs₂ _ _ D.i1z.symm hz₁
    have hez : e ≠ z := fun x => by subst x; rw [hz₂] at hoe; cases hoe; simp at hce
    refine wpAny_setField_rec hz₂ (by simp) fun h₃ _ hs₃ => hE h₃ e (fun c o c1 _ c3 _ x => hs₃.extBut _ _ c1 (hs₂ _ _ c3 (hs₁.extBut _ _ c1 x))) ⟨oe, hs₃.extBut _ _ hez hoe, hce⟩
  | some x =>
    have hy : ys[k2]? = none := by rcases hend with h | h; rw [hx] at h; cases h; exact h
    refine wpAny_bind (wpAny_nextOf_list_item (h1.extBut hs₁.extBut D.i1z) (hl1.extBut hs₁.extBut D.l1z) hx fun h₂ h1₂ hs₂ => wpAny_pure ?_)
    have hTO₂ : IsPair h₂ TO a b := hs₂.extBut _ _ D.TOi1 (hs₁.extBut _ _ D.TOz hTO)
    have hot₂ : HotAt A x1 h₂ := HotAt.ext hot₁ hs₂.extBut n1
    refine wpAny_bind (wpAny_seqItems hTO₂ rfl ?_)
    refine wpAny_bind (wpAny_updateSeq_pair hTO₂ fun h₃ hTO₃ hs₃ => ?_)
    have hot₃ : HotAt A x1 h₃ := HotAt.ext hot₂ hs₃.extBut nTO
    refine wpAny_bind (wpAny_letGo (wpAny_pure ?_))
    refine wpAny_bind (wpAny_bind (wpAny_onRaise ?_))
    show wpAny _ _ (Builtin.SmallTypes.nextOf (.ref i2) >>= _) _ _ _
    refine wpAny_bind (nextOf_end hot₃ n2 (((h2.extBut hs₁.extBut D.i2z).extBut hs₂.extBut D.i12.symm).extBut hs₃.extBut D.TOi2.symm)
      (((hl2.extBut hs₁.extBut D.l2z).extBut hs₂.extBut D.l2i1).extBut hs₃.extBut D.l2TO) hy fun h₄ e hs₄ he => ?_)
    obtain ⟨oe, hoe, hce⟩ := he
    have hz₄ : IsZip h₄ z TI TO .ellipsis := hs₄ _ _ D.i2z.symm (hs₃.extBut _ _ D.TOz.symm (hs₂.extBut _ _ D.i1z.symm hz₁))
    have hez : e ≠ z := fun x => by subst x; rw [hz₄] at hoe; cases hoe; simp at hce
    refine wpAny_setField_rec hz₄ (by simp) fun h₅ _ hs₅ => hE h₅ e (fun c o c1 c2 c3 c4 x => hs₅.extBut _ _ c1 (hs₄ _ _ c4 (hs₃.extBut _ _ c2 (hs₂.extBut _ _ c3 (hs₁.extBut _ _ c1 x))))) ⟨oe, hs₅.extBut _ _ hez hoe, hce⟩
theorem zip_end {z TI TO i1 i2 l1 l2 x1 : Addr} {k1 k2 : Nat} {xs ys : Array Value} {a b : Value} {Q : Option Value → Shared → Prop} (hot : HotAt A x1 s.heap) (nz : x1 ≠ z) (nTO : x1 ≠ TO) (n1 : x1 ≠ i1) (n2 : x1 ≠ i2) (D : ZipApart z TI TO i1 i2 l1 l2)
    (hz : IsZip s.heap z TI TO .none) (hTI : IsPair s.heap TI (.ref i1) (.ref i2)) (hTO : IsPair s.heap TO a b)
    (h1 : s.heap.IsListIter i1 l1 k1) (h2 : s.heap.IsListIter i2 l2 k2) (hl1 : s.heap.IsList l1 xs) (hl2 : s.heap.IsList l2 ys) (hend : xs[k1]? = none ∨ ys[k2]? = none)
    (hQ : ∀ h', (∀ c o, c ≠ z → c ≠ TO → c ≠ i1 → c ≠ i2 → s.heap.get? c = some o → h'.get? c = some o) → Q none { s with heap := h' }) :
    wpAny (model prog w) A (pyNext (.ref z)) Q E s := by
  have hT : s.TypeIs (.ref z) "zip" := ⟨_, hz, rfl⟩
  unfold pyNext
  refine wpAny_bind (wpAny_attempt (wpAny_callSpecial?_slot (name := Str.ofString "__next__") hT F.slot_zip_next
    (wpAny_call_entry F.slot_zip_next hT F.entry_zip_next (zip_next_end hot nz nTO n1 n2 D hz hTI hTO h1 h2 hl1 hl2 hend fun h' e hk he => ?_) (F.args_zip_next_1 _))))
  obtain ⟨o, ho, hc⟩ := he
  refine wpAny_bind (wpAny_isInstance (T := "StopIteration") (b := true) ⟨o, ho, hc⟩ isSubtype_stop ?_)
  exact wpAny_pure (hQ _ hk)
end
open L2
theorem turnx_zip {P : Program} {w : World} {K : PySem.W.Frag} {elts : List Expr} {kk : _} {tpos : Pos} {a b z TI TO i1 i2 : Addr} (D : ZipApart z TI TO i1 i2 a b) :
    TurnX P w K (.Tuple elts kk tpos) (Itz K a b) [z, TI, TO, i1, i2] z (fun i h => IsZip h z TI TO .none ∧ IsPair h TI (.ref i1) (.ref i2) ∧ (∃ x y, IsPair h TO x y) ∧ h.IsListIter i1 a i ∧ h.IsListIter i2 b i) where
  obj := (turn_zip (P := P) (w := w) (K := K) (elts := elts) (kk := kk) (tpos := tpos) D).obj
  keep := (turn_zip (P := P) (w := w) (K := K) (elts := elts) (kk := kk) (tpos := tpos) D).keep
  self := (turn_zip (P := P) (w := w) (K := K) (elts := elts) (kk := kk) (tpos := tpos) D).self
  item := by
    intro X hP hw hK i pins s σ H E I hf st hg
    subst hP hw hK
    obtain ⟨hz, hTI, ⟨x0, y0, hTO⟩, h1, h2⟩ := st
    obtain ⟨xs, ys, x, y, hqx, hqy, hx, hy⟩ := hg
    obtain ⟨its, rv, p, _⟩ := I.list hqx
    obtain ⟨its2, rv2, p2, _⟩ := I.list hqy
    obtain ⟨u, hu, ru⟩ := rv.get hx
    obtain ⟨u2, hu2, ru2⟩ := rv2.get hy
    have hzl : z < s.heap.objs.size := Heap.lt_size hz
    refine wpAny_pyNext_zip_item D hz hTI hTO h1 h2 p.isList p2.isList (x := u) (y := u2) (by simpa using hu) (by simpa using hu2) fun h' z' TO' h1' h2' hT hsz hk => ?_
    refine ⟨_, rfl, wpAny_letOwnedTupleGo_zip (s := { s with heap := h' }) z' fun h'' z'' sb => ?_⟩
    have hT2 : h''.get? s.heap.objs.size = some { cls := .type "tuple", data := .seq #[u, u2] } := (sb.2 _ (Nat.ne_of_gt hzl)).trans hT
    have new : ObjOk X.prog X.w (upd H s.heap.objs.size (.tup [x, y])) h'' s.heap.objs.size (.tup [x, y]) :=
      ⟨by show 2 ≤ sizeLine; decide, [u, u2], .cons ru (.cons ru2 .nil), ⟨_, hT2, rfl, _, rfl⟩⟩
    have I1 : Inv X pins σ (upd H s.heap.objs.size (.tup [x, y])) { s with heap := h'' } :=
      I.turnedNew (t' := s.toks) (ch := [z, TI, TO, i1, i2]) (fun c o hb q => (sb.2 c (fun q' => hb (by simp [q']))).trans (hk c o (fun q' => hb (by simp [q'])) (fun q' => hb (by simp [q'])) (fun q' => hb (by simp [q'])) (fun q' => hb (by simp [q'])) q)) hf (Nat.le_refl _) new
    refine ⟨.ref s.heap.objs.size, _, I1, rfl, ⟨_, x, y, rfl, I.hok.fresh (Nat.le_refl _), rfl, fun l hl => by rw [I.list_inj hl hqx]; exact hx, fun l hl => by rw [I.list_inj hl hqy]; exact hy⟩, ⟨z'', ?_, ⟨u, u2, ?_⟩, ?_, ?_⟩, fun c hcm => ?_⟩
    · exact (sb.2 _ D.TIz).trans (hk _ _ D.TIz D.TITO D.TIi1 D.TIi2 hTI)
    · exact (sb.2 _ D.TOz).trans TO'
    · exact h1'.at fun o q => (sb.2 _ D.i1z).trans q
    · exact h2'.at fun o q => (sb.2 _ D.i2z).trans q
    · have hlt : c < s.heap.objs.size := by
        have e' : c = z ∨ c = TI ∨ c = TO ∨ c = i1 ∨ c = i2 := by simpa using hcm
        rcases e' with q | q | q | q | q
        · rw [q]; exact hzl
        · rw [q]; exact Heap.lt_size hTI
        · rw [q]; exact Heap.lt_size hTO
        · rw [q]; obtain ⟨_, e1, _⟩ := h1; exact Heap.lt_size e1
        · rw [q]; obtain ⟨_, e2, _⟩ := h2; exact Heap.lt_size e2
      rw [upd_ne (Nat.ne_of_lt hlt)]
      exact (hf c hcm).1
  done := by
    intro X hP hw hK x1 i pins s σ H E hot ne I hf st hg
    subst hP hw hK
    obtain ⟨hz, hTI, ⟨x0, y0, hTO⟩, h1, h2⟩ := st
    obtain ⟨xs, ys, hqx, hqy, hend⟩ := hg
    obtain ⟨its, rv, p, _⟩ := I.list hqx
    obtain ⟨its2, rv2, p2, _⟩ := I.list hqy
    have l1 := rv.length
    have l2 := rv2.length
    have he : its.toArray[i]? = none ∨ its2.toArray[i]? = none := by
      rcases hend with q | q
      · exact .inl (by simp; omega)
      · exact .inr (by simp; omega)
    exact zip_end hot (fun q => ne (by simp [q])) (fun q => ne (by simp [q])) (fun q => ne (by simp [q])) (fun q => ne (by simp [q])) D hz hTI hTO h1 h2 p.isList p2.isList he fun h' hk => ⟨rfl, I.turnedL (t' := s.toks) (ch := [z, TI, TO, i1, i2]) (fun c o hb q =>
      hk c o (fun q' => hb (by simp [q'])) (fun q' => hb (by simp [q'])) (fun q' => hb (by simp [q'])) (fun q' => hb (by simp [q'])) q) hf⟩
theorem pix_zip {X : Cx} {e e2 : Expr} {ta : TA} {p pos tpos : Pos} {elts : List Expr} {kk : _} (hg : Gl X "zip") (hm : X.mg "zip" = none) (ha : PA X [e, e2] ta)
    (hs : starEach [e, e2] X.env = (false, eval e X.env) :: starEach [e2] X.env := by rfl) (hpl : (backTo pos (starEach [e2] X.env)).any (·.1) = false := by rfl) :
    PIX X (.Tuple elts kk tpos) (.Call (.Name "zip" p) [e, e2] [] pos) (iZip X.K ta) := by
  refine ⟨fun pins s σ H R I h => ?_⟩
  refine Call_ (ld_blt I hg hm PyProof.Rows.boot_zip (PyProof.Rows.callWith_type1 (thn (ha.run pos pins s σ H _ I h) fun us s1 ⟨vs, H1, I1, r1, q1⟩ => ?_) hs hpl))
  obtain ⟨a, b, xs, ys, ex, hqx, hqy, q⟩ := q1
  subst ex
  cases r1 with
  | cons r rr =>
    cases rr with
    | cons r' rr =>
      cases rr
      cases r
      cases r'
      obtain ⟨its, rv, p1, _⟩ := I1.list hqx
      obtain ⟨its2, rv2, p2, _⟩ := I1.list hqy
      have la : a < s1.heap.objs.size := p1.lt
      have lb : b < s1.heap.objs.size := p2.lt
      refine call_zip_2 p1.isList p2.isList fun h' hz hTI hTO h1 h2 hsz hk => wpAny_pyIter_zip hz ?_
      have I2 : Inv X pins σ H1 { s1 with heap := h' } := I1.kept (t' := s1.toks) hk
      refine ⟨s1.heap.objs.size + 4, [s1.heap.objs.size + 4, s1.heap.objs.size + 2, s1.heap.objs.size + 3, s1.heap.objs.size, s1.heap.objs.size + 1], _, _, H1, rfl, I2, turnx_zip (PySem.W.ktu_apart s1.heap.objs.size a b la lb), ⟨hz, hTI, ⟨_, _, hTO⟩, h1, h2⟩, fun c hcm => ?_, q⟩
      have e' : c = s1.heap.objs.size + 4 ∨ c = s1.heap.objs.size + 2 ∨ c = s1.heap.objs.size + 3 ∨ c = s1.heap.objs.size ∨ c = s1.heap.objs.size + 1 := by simpa using hcm
      have hle : s1.heap.objs.size ≤ c := by
        rcases e' with z | z | z | z | z
        · rw [z]; exact Nat.le_add_right _ _
        · rw [z]; exact Nat.le_add_right _ _
        · rw [z]; exact Nat.le_add_right _ _
        · rw [z]; exact Nat.le_refl _
        · rw [z]; exact Nat.le_add_right _ _
      exact I1.fpOk hle (I1.hok.fresh hle)
end HX

set_option Elab.async false
set_option linter.all false
set_option maxRecDepth 100000
set_option maxHeartbeats 4000000
set_option autoImplicit false
/-! ## walks over lists and tuples alike: enumerate, zip of two and of three -/
namespace LG
open PySem PySem.Spec PyProof.Rows L2
/-- b: a list, else a tuple -/
def SIt (b : Bool) (h : Heap) (it a : Addr) (i : Nat) : Prop := match b with
  | true => h.IsListIter it a i
  | false => h.IsTupleIter it a i
def SOb (b : Bool) (h : Heap) (a : Addr) (items : Array Value) : Prop := match b with
  | true => h.IsList a items
  | false => h.IsTuple a items
def itO (b : Bool) (a : Addr) : Obj := match b with
  | true => { cls := .type "list_iterator", data := .fields #[.ref a, .int 0 0] }
  | false => { cls := .type "tuple_iterator", data := .fields #[.ref a, .int 0 0] }
def SqB (b : Bool) (K : PySem.W.Frag) (H : Hp) (a : Addr) (xs : List V) : Prop := match b with
  | true => SqL K H a xs
  | false => SqT K H a xs
theorem sBegins (b : Bool) (a : Addr) (items : Array Value) : Begins (.ref a) (itO b a) (fun h => SOb b h a items) := by
  cases b
  · exact begins_tuple a items
  · exact begins_list a items
theorem sIt0 {b : Bool} {h : Heap} {it a : Addr} (e : h.get? it = some (itO b a)) : SIt b h it a 0 := by
  cases b
  · exact ⟨_, e, rfl, rfl⟩
  · exact ⟨_, e, rfl, rfl⟩
theorem SIt.obj {b : Bool} {h : Heap} {it a : Addr} {i : Nat} (x : SIt b h it a i) : ∃ o, h.get? it = some o ∧ ∀ v, o.data ≠ .cell v := by
  cases b
  · obtain ⟨o, e, _, d⟩ := x; exact ⟨o, e, fun v q => by rw [d] at q; cases q⟩
  · obtain ⟨o, e, _, d⟩ := x; exact ⟨o, e, fun v q => by rw [d] at q; cases q⟩
theorem SIt.at {b : Bool} {h h' : Heap} {it a : Addr} {i : Nat} (x : SIt b h it a i) (k : ∀ o, h.get? it = some o → h'.get? it = some o) : SIt b h' it a i := by
  cases b
  · obtain ⟨o, e, r⟩ := x; exact ⟨o, k o e, r⟩
  · obtain ⟨o, e, r⟩ := x; exact ⟨o, k o e, r⟩
theorem SOb.at {b : Bool} {h h' : Heap} {a : Addr} {items : Array Value} (x : SOb b h a items) (k : ∀ o, h.get? a = some o → h'.get? a = some o) : SOb b h' a items := by
  cases b
  · obtain ⟨o, e, r⟩ := x; exact ⟨o, k o e, r⟩
  · obtain ⟨o, e, r⟩ := x; exact ⟨o, k o e, r⟩
theorem SOb.lt {b : Bool} {h : Heap} {a : Addr} {items : Array Value} (x : SOb b h a items) : a < h.objs.size := by
  cases b
  · obtain ⟨o, e, r⟩ := x; exact Heap.lt_size e
  · obtain ⟨o, e, r⟩ := x; exact Heap.lt_size e
theorem sDraws {prog : Program} {w : World} {A : Around} (hh : A.handled = none) (b : Bool) (it a : Addr) (hne : a ≠ it) (items : Array Value) (i0 : Nat) :
    Draws prog w A it [it, a] (max i0 items.size) (fun i v => items[i]? = some v) (fun i h => i0 ≤ i ∧ SIt b h it a i ∧ SOb b h a items) where
  live := fun _ _ st => let ⟨o, ho, _⟩ := st.2.1.obj; ⟨o, ho⟩
  frame := fun _ _ _ st hk => ⟨st.1, st.2.1.at fun o e => hk it (by simp) o e, st.2.2.at fun o e => hk a (by simp) o e⟩
  item := fun i s Q E hi st hQ => by
    have hlt : i < items.size := by have := st.1; omega
    have hx : items[i]? = some items[i] := by simp [hlt]
    cases b
    · refine wpAny_nextOf_tuple_item st.2.1 st.2.2 hx fun h' hit' hs' => ?_
      exact hQ _ h' s.toks hx ⟨Nat.le_succ_of_le st.1, hit', SOb.at (b := false) st.2.2 fun o e => hs'.extBut _ _ hne e⟩ hs'
    · refine wpAny_nextOf_list_item st.2.1 st.2.2 hx fun h' hit' hs' => ?_
      exact hQ _ h' s.toks hx ⟨Nat.le_succ_of_le st.1, hit', SOb.at (b := true) st.2.2 fun o e => hs'.extBut _ _ hne e⟩ hs'
  done := fun s Q E st hE => by
    have hx : items[max i0 items.size]? = none := by simp; omega
    cases b
    · exact wpAny_nextOf_tuple_end hh st.2.1 st.2.2 hx hE
    · exact wpAny_nextOf_list_end hh st.2.1 st.2.2 hx hE
theorem seqB {X : Cx} {pins : List (Addr × Obj)} {σ : L2.St} {H : Hp} {s : Shared} {b : Bool} {a : Addr} {xs : List V} (I : Inv X pins σ H s) (h : SqB b X.K H a xs) : ∃ its : List Value, Vals xs its ∧ SOb b s.heap a its.toArray ∧ xs.length ≤ sizeLine := by
  cases b
  · obtain ⟨its, r, t, z⟩ := I.tuple h
    exact ⟨its, r, t, z⟩
  · obtain ⟨its, r, p, z⟩ := I.list h
    exact ⟨its, r, p.isList, z⟩
theorem injB {X : Cx} {pins : List (Addr × Obj)} {σ : L2.St} {H : Hp} {s : Shared} {b : Bool} {a : Addr} {xs ys : List V} (I : Inv X pins σ H s) (h : SqB b X.K H a xs) (h' : SqB b X.K H a ys) : xs = ys := by
  cases b
  · exact I.tuple_inj h h'
  · exact I.list_inj h h'
/-- a turn from the library's walk -/
theorem turn_gn {P : Program} {w : World} {K : PySem.W.Frag} {tg : Expr} {J : It} {it : Addr} {fp : List Addr} {tn : Nat → Heap → Prop} (mem : it ∈ fp)
    (obj : ∀ i h, tn i h → ∀ b ∈ fp, ∃ o, h.get? b = some o ∧ ∀ v, o.data ≠ .cell v)
    (keep : ∀ i h h', tn i h → (∀ b ∈ fp, ∀ o, h.get? b = some o → h'.get? b = some o) → tn i h')
    (self : ∀ (A : Around) (i : Nat) (s : Shared) (Q : Value → Shared → Prop) (E : Value → Shared → Prop), tn i s.heap → Q (.ref it) s → wpAny (model P w) A (pyIter (.ref it)) Q E s)
    (go : ∀ (X : Cx), X.prog = P → X.w = w → X.K = K → X.A.handled = none → ∀ (i : Nat) (pins : List (Addr × Obj)) (s : Shared) (σ : L2.St) (H : Hp), Inv X pins σ H s → tn i s.heap → J.go i H →
      ∃ (fg wr : List Addr) (n : Nat) (Y : Nat → Heap → Value → Heap → Prop) (S : Nat → Heap → Prop), GoesN P w X.A tg it fg wr n Y S ∧ i < n ∧ S i s.heap ∧ (∀ b ∈ wr, b ∈ fp) ∧ (∀ h', S (i + 1) h' → tn (i + 1) h') ∧
        ∀ v h', Y i s.heap v h' → ∃ (T : Addr) (its : List Value) (xs : List V), v = .ref T ∧ s.heap.objs.size ≤ T ∧ h'.IsTuple T its.toArray ∧ Vals xs its ∧ xs.length ≤ sizeLine ∧ J.yld i H (.ref T) (upd H T (.tup xs)))
    (stop : ∀ (X : Cx), X.prog = P → X.w = w → X.K = K → X.A.handled = none → ∀ (i : Nat) (pins : List (Addr × Obj)) (s : Shared) (σ : L2.St) (H : Hp), Inv X pins σ H s → tn i s.heap → J.stop i H →
      ∃ (fg wr : List Addr) (Y : Nat → Heap → Value → Heap → Prop) (S : Nat → Heap → Prop), GoesN P w X.A tg it fg wr i Y S ∧ S i s.heap ∧ (∀ b ∈ wr, b ∈ fp)) : Turn P w K tg J fp it tn where
  mem := mem
  obj := obj
  keep := keep
  self := self
  item := by
    intro X hP hw hK hc i pins s σ H E I hf st hg
    obtain ⟨fg, wr, n, Y, S, G, hi, hS, sub, nx, tell⟩ := go X hP hw hK (I.ok.hd hc) i pins s σ H I st hg
    subst hP hw hK
    refine G.goes i s (fun v s2 => ∃ x H', Inv X pins σ H' s2 ∧ RelV x v ∧ J.yld i H x H' ∧ tn (i + 1) s2.heap ∧ ∀ b ∈ fp, H' b = none) E hi hS fun v h' tk hY st' hk _ => ?_
    obtain ⟨T, its, xs, rfl, hT, ht, r, hl, y⟩ := tell v h' hY
    have new : ObjOk X.prog X.w (upd H T (.tup xs)) h' T (.tup xs) := ⟨hl, its, r, ht⟩
    refine ⟨.ref T, _, I.turnedNew (t' := tk) (ch := wr) hk (fun b hb => hf b (sub b hb)) hT new, rfl, y, nx h' st', fun b hb => ?_⟩
    obtain ⟨o, e, _⟩ := obj i s.heap st b hb
    rw [upd_ne (Nat.ne_of_lt (Nat.lt_of_lt_of_le (Heap.lt_size e) hT))]
    exact (hf b hb).1
  done := by
    intro X hP hw hK hc i pins s σ H E I hf st hg
    obtain ⟨fg, wr, Y, S, G, hS, sub⟩ := stop X hP hw hK (I.ok.hd hc) i pins s σ H I st hg
    subst hP hw hK
    exact G.stops s _ E hS fun h' tk hk _ => I.turnedL (t' := tk) (ch := wr) hk fun b hb => hf b (sub b hb)
/-! ### enumerate -/
def IteB (b : Bool) (K : PySem.W.Frag) (a : Addr) : It :=
  ⟨fun i H => ∃ (xs : List V) (x : V), SqB b K H a xs ∧ xs[i]? = some x, fun i H v H' => ∃ T x, v = .ref T ∧ H T = none ∧ H' = upd H T (.tup [.int (i : Nat), x]) ∧ ∀ xs, SqB b K H a xs → xs[i]? = some x, fun i H => ∃ xs : List V, SqB b K H a xs ∧ xs.length ≤ i⟩
theorem turn_enumB {P : Program} {w : World} {K : PySem.W.Frag} {elts : List Expr} {kk : _} {tpos : Pos} (b : Bool) (a e it : Addr) :
    Turn P w K (.Tuple elts kk tpos) (IteB b K a) [e, it] e (fun i h => (∃ old, IsEnum h e it (0 + (i : Nat)) old) ∧ SIt b h it a i ∧ e ≠ it ∧ a ≠ it ∧ e ≠ a) := by
  refine turn_gn (by simp) (fun i h st c hc => ?_) (fun i h h' st k => ?_) (fun A i s Q E st h => let ⟨⟨_, he⟩, _⟩ := st; wpAny_pyIter_enum he h) (fun X hP hw hK hh i pins s σ H I st hg => ?_) (fun X hP hw hK hh i pins s σ H I st hg => ?_)
  · obtain ⟨⟨old, he⟩, hi, _⟩ := st
    have e' : c = e ∨ c = it := by simpa using hc
    rcases e' with z | z
    · rw [z]; exact ⟨_, he, fun v q => nomatch q⟩
    · rw [z]; exact hi.obj
  · obtain ⟨⟨old, he⟩, hi, r⟩ := st
    exact ⟨⟨old, k e (by simp) _ he⟩, hi.at fun o q => k it (by simp) o q, r⟩
  · obtain ⟨⟨old, he⟩, hi, n1, n2, n3⟩ := st
    obtain ⟨xs, x, hq, hx⟩ := hg
    subst hK
    obtain ⟨its, rv, p, hz⟩ := seqB I hq
    obtain ⟨u, hu, ru⟩ := rv.get hx
    have hl : i < its.toArray.size := by simpa using (List.getElem?_eq_some_iff.mp hu).1
    have D := sDraws (prog := P) (w := w) (A := X.A.in1) hh b it a n2 its.toArray i
    refine ⟨_, _, _, _, _, GoesN.enumFrom (elts := elts) (x1 := kk) (pos := tpos) 0 D e n1 (by simp [n1, n3]) (by simp), by omega, ⟨⟨old, he⟩, Nat.le_refl _, hi, p⟩, fun c hc => hc, fun h' st' => ⟨st'.1, st'.2.2.1, n1, n2, n3⟩, fun v h' hY => ?_⟩
    obtain ⟨T, t, x', rfl, hT, hP', ht⟩ := hY
    have ex : x' = u := by
      have q : its.toArray[i]? = some u := by simpa using hu
      rw [q] at hP'
      cases hP'
      rfl
    rw [ex] at ht
    refine ⟨T, [.int (0 + (i : Nat)) t, u], [.int (i : Nat), x], rfl, hT, ht, .cons ⟨t, by rw [Int.zero_add]⟩ (.cons ru .nil), by show 2 ≤ sizeLine; decide, T, x, rfl, I.hok.fresh hT, rfl, fun ys hy => by rw [injB I hy hq]; exact hx⟩
  · obtain ⟨⟨old, he⟩, hi, n1, n2, n3⟩ := st
    obtain ⟨xs, hq, hx⟩ := hg
    subst hK
    obtain ⟨its, rv, p, hz⟩ := seqB I hq
    have hl : its.toArray.size ≤ i := by have := rv.length; simp; omega
    have D := sDraws (prog := P) (w := w) (A := X.A.in1) hh b it a n2 its.toArray i
    rw [Nat.max_eq_left hl] at D
    exact ⟨_, _, _, _, GoesN.enumFrom (elts := elts) (x1 := kk) (pos := tpos) 0 D e n1 (by simp [n1, n3]) (by simp), ⟨⟨old, he⟩, Nat.le_refl _, hi, p⟩, fun c hc => hc⟩
set_option maxHeartbeats 1000000 in
theorem enum_new {v : Value} {o : Obj} {H : Heap → Prop} (B : Begins v o H) :
    Meets (Builtin.«enumerate.__new__» ⟨[.type "enumerate", v], []⟩) (fun _ R s => H s.heap ∧
      R (.ok (.ret (.ref (s.heap.push o).objs.size))) { s with heap := (s.heap.push o).push { cls := .type "enumerate", data := .fields #[.none, .bool false, .ref s.heap.objs.size, rawInt 0, .none, .none] } }) :=
  .of_wp fun prog w A R s h => by
    obtain ⟨hp, g, d, tk, os⟩ := s; obtain ⟨h1, h⟩ := h
    have hsub := sub_enumerate
    have q1 : ∀ {A' : Around} {E : Value → Shared → Prop} {Q : Value → Shared → Prop}, Q (.ref hp.objs.size) ⟨hp.push o, g, d, tk, os⟩ → wpAny (model prog w) A' (pyIter v) Q E ⟨hp, g, d, tk, os⟩ :=
      fun q => B.iter prog w _ _ ⟨hp, g, d, tk, os⟩ _ h1 q
    wp_walk using q1
    refine wpAny_stack_any fun st => wpAny_pure ?_
    split
    · rename_i c _ _ _ _ _
      cases (c == Value.type "enumerate")
      · wp_walk using q1
        exact ⟨_, rfl, h⟩
      · wp_walk using q1
        exact ⟨_, rfl, h⟩
    · wp_walk using q1
      exact ⟨_, rfl, h⟩
theorem enum_call {prog : Program} {w : World} {A : Around} {E : Value → Shared → Prop} {s : Shared} {v : Value} {o : Obj} {H : Heap → Prop} {Q : Value → Shared → Prop} (B : Begins v o H) (h1 : H s.heap)
    (h : ∀ h', IsEnum h' (s.heap.objs.size + 1) s.heap.objs.size 0 .none → h'.get? s.heap.objs.size = some o → h'.objs.size = s.heap.objs.size + 2 →
      (∀ b o, s.heap.get? b = some o → h'.get? b = some o) → Q (.ref (s.heap.objs.size + 1)) { s with heap := h' }) :
    wpAny (model prog w) A (call (.type "enumerate") [v]) Q E s := by
  refine callType_new F.called_enumerate (by decide) (F.typeCall_enumerate_1 _) (F.newCall_enumerate_1 _) (fun obj => F.args_object_init_2 obj _) F.entry_enumerate_new (enum_new B) ⟨h1, ?_⟩
  have hz : (s.heap.push o).objs.size = s.heap.objs.size + 1 := Heap.size_push ..
  show _ ∧ _
  rw [hz]
  have he : IsEnum ((s.heap.push o).push { cls := .type "enumerate", data := .fields #[.none, .bool false, .ref s.heap.objs.size, rawInt 0, .none, .none] }) (s.heap.objs.size + 1) s.heap.objs.size 0 .none := by
    have := Heap.get?_push_size (s.heap.push o) (o := { cls := .type "enumerate", data := .fields #[.none, .bool false, .ref s.heap.objs.size, rawInt 0, .none, .none] }) rfl
    rw [hz] at this; exact this
  exact ⟨⟨_, he, rfl⟩, h _ he (Heap.get?_push_of_some _ (Heap.get?_push_size _ B.free)) (by rw [Heap.size_push, hz]) fun b o x => Heap.get?_push_of_some _ (Heap.get?_push_of_some _ x)⟩
def iEnumB (K : PySem.W.Frag) (ta : TA) : TI := fun σ H R => ta σ H fun vs H1 => ∃ b a xs, vs = [.ref a] ∧ SqB b K H1 a xs ∧ R (IteB b K a) H1
theorem pi_enumB {X : Cx} {e : Expr} {ta : TA} {p pos tpos : Pos} {elts : List Expr} {kk : _} (hg : Gl X "enumerate") (hm : X.mg "enumerate" = none) (ha : PA X [e] ta) (hs : starEach [e] X.env = [(false, eval e X.env)] := by rfl) :
    PI X (.Tuple elts kk tpos) (.Call (.Name "enumerate" p) [e] [] pos) (iEnumB X.K ta) := by
  refine ⟨fun pins s σ H R I h => ?_⟩
  refine Call_ (ld_blt I hg hm boot_enumerate (PyProof.Rows.callWith_type1 (thn (ha.run pos pins s σ H _ I h) fun us s1 ⟨vs, H1, I1, r1, q1⟩ => ?_) hs rfl))
  obtain ⟨b, a, xs, ex, hq, q⟩ := q1
  subst ex
  cases r1 with
  | cons r rr =>
    cases rr
    cases r
    obtain ⟨its, rv, p', hz⟩ := seqB I1 hq
    have la := p'.lt
    refine enum_call (sBegins b a its.toArray) p' fun h' he hit hsz hk => wpAny_pyIter_enum he ?_
    have I2 : Inv X pins σ H1 { s1 with heap := h' } := I1.kept (t' := s1.toks) hk
    refine ⟨s1.heap.objs.size + 1, [s1.heap.objs.size + 1, s1.heap.objs.size], _, _, H1, rfl, I2, turn_enumB b a (s1.heap.objs.size + 1) s1.heap.objs.size, ⟨⟨.none, he⟩, sIt0 hit, Nat.succ_ne_self _, Nat.ne_of_lt la, Nat.ne_of_gt (Nat.lt_succ_of_lt la)⟩, fun c hb => ?_, q⟩
    have e' : c = s1.heap.objs.size + 1 ∨ c = s1.heap.objs.size := by simpa using hb
    have hle : s1.heap.objs.size ≤ c := by
      rcases e' with z | z
      · rw [z]; exact Nat.le_add_right _ _
      · rw [z]; exact Nat.le_refl _
    exact I1.fpOk hle (I1.hok.fresh hle)
end LG

set_option Elab.async false
set_option linter.all false
set_option maxRecDepth 100000
set_option maxHeartbeats 4000000
set_option autoImplicit false
/-! ## zip of two and of three, lists and tuples alike -/
namespace LG
open PySem PySem.Spec PyProof.Rows L2
def Itz2 (b1 b2 : Bool) (K : PySem.W.Frag) (a1 a2 : Addr) : It :=
  ⟨fun i H => ∃ (xs ys : List V) (x y : V), SqB b1 K H a1 xs ∧ SqB b2 K H a2 ys ∧ xs[i]? = some x ∧ ys[i]? = some y,
    fun i H v H' => ∃ T x y, v = .ref T ∧ H T = none ∧ H' = upd H T (.tup [x, y]) ∧ (∀ xs, SqB b1 K H a1 xs → xs[i]? = some x) ∧ ∀ ys, SqB b2 K H a2 ys → ys[i]? = some y,
    fun i H => ∃ xs ys : List V, SqB b1 K H a1 xs ∧ SqB b2 K H a2 ys ∧ min xs.length ys.length ≤ i⟩
def Itz3 (b1 b2 b3 : Bool) (K : PySem.W.Frag) (a1 a2 a3 : Addr) : It :=
  ⟨fun i H => ∃ (xs ys zs : List V) (x y z : V), SqB b1 K H a1 xs ∧ SqB b2 K H a2 ys ∧ SqB b3 K H a3 zs ∧ xs[i]? = some x ∧ ys[i]? = some y ∧ zs[i]? = some z,
    fun i H v H' => ∃ T x y z, v = .ref T ∧ H T = none ∧ H' = upd H T (.tup [x, y, z]) ∧ (∀ xs, SqB b1 K H a1 xs → xs[i]? = some x) ∧ (∀ ys, SqB b2 K H a2 ys → ys[i]? = some y) ∧ ∀ zs, SqB b3 K H a3 zs → zs[i]? = some z,
    fun i H => ∃ xs ys zs : List V, SqB b1 K H a1 xs ∧ SqB b2 K H a2 ys ∧ SqB b3 K H a3 zs ∧ min (min xs.length ys.length) zs.length ≤ i⟩
theorem get_u {its : List Value} {i : Nat} {u u' : Value} (h : its[i]? = some u) (h' : its.toArray[i]? = some u') : u' = u := by
  have q : its.toArray[i]? = some u := by simpa using h
  rw [q] at h'
  cases h'
  rfl
theorem turn_zip2B {P : Program} {w : World} {K : PySem.W.Frag} {elts : List Expr} {kk : _} {tpos : Pos} {b1 b2 : Bool} {a1 a2 z TI TO i1 i2 : Addr} (Sp : ZipSep2 z TI TO i1 i2 [i1, a1] [i2, a2]) (n1 : a1 ≠ i1) (n2 : a2 ≠ i2) :
    Turn P w K (.Tuple elts kk tpos) (Itz2 b1 b2 K a1 a2) [z, TI, TO, i1, i2] z (fun i h => IsZip h z TI TO .none ∧ IsTupOf2 h TI (.ref i1) (.ref i2) ∧ (∃ x y, IsTupOf2 h TO x y) ∧ SIt b1 h i1 a1 i ∧ SIt b2 h i2 a2 i) := by
  refine turn_gn (by simp) (fun i h st c hc => ?_) (fun i h h' st k => ?_) (fun A i s Q E st h => wpAny_pyIter_zip st.1 h) (fun X hP hw hK hh i pins s σ H I st hg => ?_) (fun X hP hw hK hh i pins s σ H I st hg => ?_)
  · obtain ⟨hz, hTI, ⟨x, y, hTO⟩, h1, h2⟩ := st
    have e' : c = z ∨ c = TI ∨ c = TO ∨ c = i1 ∨ c = i2 := by simpa using hc
    rcases e' with q | q | q | q | q
    · rw [q]; exact ⟨_, hz, fun v q => nomatch q⟩
    · rw [q]; exact ⟨_, hTI, fun v q => nomatch q⟩
    · rw [q]; exact ⟨_, hTO, fun v q => nomatch q⟩
    · rw [q]; exact h1.obj
    · rw [q]; exact h2.obj
  · obtain ⟨hz, hTI, ⟨x, y, hTO⟩, h1, h2⟩ := st
    exact ⟨k z (by simp) _ hz, k TI (by simp) _ hTI, ⟨x, y, k TO (by simp) _ hTO⟩, h1.at fun o q => k i1 (by simp) o q, h2.at fun o q => k i2 (by simp) o q⟩
  · obtain ⟨hz, hTI, hTO, h1, h2⟩ := st
    obtain ⟨xs, ys, x, y, hqx, hqy, hx, hy⟩ := hg
    subst hK
    obtain ⟨its, rv, p, _⟩ := seqB I hqx
    obtain ⟨its2, rv2, p2, _⟩ := seqB I hqy
    obtain ⟨u, hu, ru⟩ := rv.get hx
    obtain ⟨u2, hu2, ru2⟩ := rv2.get hy
    have l1 : i < its.toArray.size := by simpa using (List.getElem?_eq_some_iff.mp hu).1
    have l2 : i < its2.toArray.size := by simpa using (List.getElem?_eq_some_iff.mp hu2).1
    have D1 := sDraws (prog := P) (w := w) (A := X.A.in1) hh b1 i1 a1 n1 its.toArray i
    have D2 := sDraws (prog := P) (w := w) (A := X.A.in1) hh b2 i2 a2 n2 its2.toArray i
    refine ⟨_, _, _, _, _, GoesN.zip2 (elts := elts) (x1 := kk) (pos := tpos) Sp D1 D2, by omega, ⟨hz, hTI, hTO, ⟨Nat.le_refl _, h1, p⟩, ⟨Nat.le_refl _, h2, p2⟩⟩, fun c hc => by simp only [List.mem_cons, List.not_mem_nil, or_false] at hc ⊢; rcases hc with q | q | q | q <;> simp [q],
      fun h' st' => ⟨st'.1, st'.2.1, st'.2.2.1, st'.2.2.2.1.2.1, st'.2.2.2.2.2.1⟩, fun v h' hY => ?_⟩
    obtain ⟨T, x', y', rfl, hT, hP1, hP2, ht⟩ := hY
    rw [get_u hu hP1, get_u hu2 hP2] at ht
    exact ⟨T, [u, u2], [x, y], rfl, hT, ht, .cons ru (.cons ru2 .nil), by show 2 ≤ sizeLine; decide, T, x, y, rfl, I.hok.fresh hT, rfl, fun l hl => by rw [injB I hl hqx]; exact hx, fun l hl => by rw [injB I hl hqy]; exact hy⟩
  · obtain ⟨hz, hTI, hTO, h1, h2⟩ := st
    obtain ⟨xs, ys, hqx, hqy, hend⟩ := hg
    subst hK
    obtain ⟨its, rv, p, _⟩ := seqB I hqx
    obtain ⟨its2, rv2, p2, _⟩ := seqB I hqy
    have l1 := rv.length
    have l2 := rv2.length
    have D1 := sDraws (prog := P) (w := w) (A := X.A.in1) hh b1 i1 a1 n1 its.toArray i
    have D2 := sDraws (prog := P) (w := w) (A := X.A.in1) hh b2 i2 a2 n2 its2.toArray i
    have G := GoesN.zip2 (elts := elts) (x1 := kk) (pos := tpos) Sp D1 D2
    rw [show min (max i its.toArray.size) (max i its2.toArray.size) = i by simp; omega] at G
    exact ⟨_, _, _, _, G, ⟨hz, hTI, hTO, ⟨Nat.le_refl _, h1, p⟩, ⟨Nat.le_refl _, h2, p2⟩⟩, fun c hc => by simp only [List.mem_cons, List.not_mem_nil, or_false] at hc ⊢; rcases hc with q | q | q | q <;> simp [q]⟩
theorem turn_zip3B {P : Program} {w : World} {K : PySem.W.Frag} {elts : List Expr} {kk : _} {tpos : Pos} {b1 b2 b3 : Bool} {a1 a2 a3 z TI TO i1 i2 i3 : Addr} (Sp : ZipSep3 z TI TO i1 i2 i3 [i1, a1] [i2, a2] [i3, a3]) (n1 : a1 ≠ i1) (n2 : a2 ≠ i2) (n3 : a3 ≠ i3) :
    Turn P w K (.Tuple elts kk tpos) (Itz3 b1 b2 b3 K a1 a2 a3) [z, TI, TO, i1, i2, i3] z (fun i h => IsZip h z TI TO .none ∧ IsTupOf3 h TI (.ref i1) (.ref i2) (.ref i3) ∧ (∃ x y u, IsTupOf3 h TO x y u) ∧ SIt b1 h i1 a1 i ∧ SIt b2 h i2 a2 i ∧ SIt b3 h i3 a3 i) := by
  refine turn_gn (by simp) (fun i h st c hc => ?_) (fun i h h' st k => ?_) (fun A i s Q E st h => wpAny_pyIter_zip st.1 h) (fun X hP hw hK hh i pins s σ H I st hg => ?_) (fun X hP hw hK hh i pins s σ H I st hg => ?_)
  · obtain ⟨hz, hTI, ⟨x, y, u, hTO⟩, h1, h2, h3⟩ := st
    have e' : c = z ∨ c = TI ∨ c = TO ∨ c = i1 ∨ c = i2 ∨ c = i3 := by simpa using hc
    rcases e' with q | q | q | q | q | q
    · rw [q]; exact ⟨_, hz, fun v q => nomatch q⟩
    · rw [q]; exact ⟨_, hTI, fun v q => nomatch q⟩
    · rw [q]; exact ⟨_, hTO, fun v q => nomatch q⟩
    · rw [q]; exact h1.obj
    · rw [q]; exact h2.obj
    · rw [q]; exact h3.obj
  · obtain ⟨hz, hTI, ⟨x, y, u, hTO⟩, h1, h2, h3⟩ := st
    exact ⟨k z (by simp) _ hz, k TI (by simp) _ hTI, ⟨x, y, u, k TO (by simp) _ hTO⟩, h1.at fun o q => k i1 (by simp) o q, h2.at fun o q => k i2 (by simp) o q, h3.at fun o q => k i3 (by simp) o q⟩
  · obtain ⟨hz, hTI, hTO, h1, h2, h3⟩ := st
    obtain ⟨xs, ys, zs, x, y, zz, hqx, hqy, hqz, hx, hy, hzz⟩ := hg
    subst hK
    obtain ⟨its, rv, p, _⟩ := seqB I hqx
    obtain ⟨its2, rv2, p2, _⟩ := seqB I hqy
    obtain ⟨its3, rv3, p3, _⟩ := seqB I hqz
    obtain ⟨u, hu, ru⟩ := rv.get hx
    obtain ⟨u2, hu2, ru2⟩ := rv2.get hy
    obtain ⟨u3, hu3, ru3⟩ := rv3.get hzz
    have l1 : i < its.toArray.size := by simpa using (List.getElem?_eq_some_iff.mp hu).1
    have l2 : i < its2.toArray.size := by simpa using (List.getElem?_eq_some_iff.mp hu2).1
    have l3 : i < its3.toArray.size := by simpa using (List.getElem?_eq_some_iff.mp hu3).1
    have D1 := sDraws (prog := P) (w := w) (A := X.A.in1) hh b1 i1 a1 n1 its.toArray i
    have D2 := sDraws (prog := P) (w := w) (A := X.A.in1) hh b2 i2 a2 n2 its2.toArray i
    have D3 := sDraws (prog := P) (w := w) (A := X.A.in1) hh b3 i3 a3 n3 its3.toArray i
    refine ⟨_, _, _, _, _, GoesN.zip3 (elts := elts) (x1 := kk) (pos := tpos) Sp D1 D2 D3, by omega, ⟨hz, hTI, hTO, ⟨Nat.le_refl _, h1, p⟩, ⟨Nat.le_refl _, h2, p2⟩, ⟨Nat.le_refl _, h3, p3⟩⟩, fun c hc => by simp only [List.mem_cons, List.not_mem_nil, or_false] at hc ⊢; rcases hc with q | q | q | q | q <;> simp [q],
      fun h' st' => ⟨st'.1, st'.2.1, st'.2.2.1, st'.2.2.2.1.2.1, st'.2.2.2.2.1.2.1, st'.2.2.2.2.2.2.1⟩, fun v h' hY => ?_⟩
    obtain ⟨T, x', y', z', rfl, hT, hP1, hP2, hP3, ht⟩ := hY
    rw [get_u hu hP1, get_u hu2 hP2, get_u hu3 hP3] at ht
    exact ⟨T, [u, u2, u3], [x, y, zz], rfl, hT, ht, .cons ru (.cons ru2 (.cons ru3 .nil)), by show 3 ≤ sizeLine; decide, T, x, y, zz, rfl, I.hok.fresh hT, rfl, fun l hl => by rw [injB I hl hqx]; exact hx, fun l hl => by rw [injB I hl hqy]; exact hy, fun l hl => by rw [injB I hl hqz]; exact hzz⟩
  · obtain ⟨hz, hTI, hTO, h1, h2, h3⟩ := st
    obtain ⟨xs, ys, zs, hqx, hqy, hqz, hend⟩ := hg
    subst hK
    obtain ⟨its, rv, p, _⟩ := seqB I hqx
    obtain ⟨its2, rv2, p2, _⟩ := seqB I hqy
    obtain ⟨its3, rv3, p3, _⟩ := seqB I hqz
    have l1 := rv.length
    have l2 := rv2.length
    have l3 := rv3.length
    have D1 := sDraws (prog := P) (w := w) (A := X.A.in1) hh b1 i1 a1 n1 its.toArray i
    have D2 := sDraws (prog := P) (w := w) (A := X.A.in1) hh b2 i2 a2 n2 its2.toArray i
    have D3 := sDraws (prog := P) (w := w) (A := X.A.in1) hh b3 i3 a3 n3 its3.toArray i
    have G := GoesN.zip3 (elts := elts) (x1 := kk) (pos := tpos) Sp D1 D2 D3
    rw [show min (min (max i its.toArray.size) (max i its2.toArray.size)) (max i its3.toArray.size) = i by simp; omega] at G
    exact ⟨_, _, _, _, G, ⟨hz, hTI, hTO, ⟨Nat.le_refl _, h1, p⟩, ⟨Nat.le_refl _, h2, p2⟩, ⟨Nat.le_refl _, h3, p3⟩⟩, fun c hc => by simp only [List.mem_cons, List.not_mem_nil, or_false] at hc ⊢; rcases hc with q | q | q | q | q <;> simp [q]⟩
def iZip2B (K : PySem.W.Frag) (ta : TA) : TI := fun σ H R => ta σ H fun vs H1 => ∃ b1 b2 a1 a2 xs ys, vs = [.ref a1, .ref a2] ∧ SqB b1 K H1 a1 xs ∧ SqB b2 K H1 a2 ys ∧ R (Itz2 b1 b2 K a1 a2) H1
theorem pi_zip2B {X : Cx} {e e2 : Expr} {ta : TA} {p pos tpos : Pos} {elts : List Expr} {kk : _} (hg : Gl X "zip") (hm : X.mg "zip" = none) (ha : PA X [e, e2] ta)
    (hs : starEach [e, e2] X.env = (false, eval e X.env) :: starEach [e2] X.env := by rfl) (hpl : (backTo pos (starEach [e2] X.env)).any (·.1) = false := by rfl) :
    PI X (.Tuple elts kk tpos) (.Call (.Name "zip" p) [e, e2] [] pos) (iZip2B X.K ta) := by
  refine ⟨fun pins s σ H R I h => ?_⟩
  refine Call_ (ld_blt I hg hm PyProof.Rows.boot_zip (PyProof.Rows.callWith_type1 (thn (ha.run pos pins s σ H _ I h) fun us s1 ⟨vs, H1, I1, r1, q1⟩ => ?_) hs hpl))
  obtain ⟨b1, b2, a1, a2, xs, ys, ex, hqx, hqy, q⟩ := q1
  subst ex
  cases r1 with
  | cons r rr =>
    cases rr with
    | cons r' rr =>
      cases rr
      cases r
      cases r'
      obtain ⟨its, rv, p1, _⟩ := seqB I1 hqx
      obtain ⟨its2, rv2, p2, _⟩ := seqB I1 hqy
      have la := p1.lt
      have lb := p2.lt
      refine zip_begins2 (sBegins b1 a1 its.toArray) (sBegins b2 a2 its2.toArray) p1 p2 fun h' hz hTI hTO h1 h2 hsz hk => wpAny_pyIter_zip hz ?_
      have I2 : Inv X pins σ H1 { s1 with heap := h' } := I1.kept (t' := s1.toks) hk
      refine ⟨s1.heap.objs.size + 4, [s1.heap.objs.size + 4, s1.heap.objs.size + 2, s1.heap.objs.size + 3, s1.heap.objs.size, s1.heap.objs.size + 1], _, _, H1, rfl, I2,
        turn_zip2B (zip_sep2 (N := s1.heap.objs.size) (fp1 := [a1]) (fp2 := [a2]) (by simpa using la) (by simpa using lb)) (Nat.ne_of_lt la) (Nat.ne_of_lt (Nat.lt_succ_of_lt lb)), ⟨hz, hTI, ⟨_, _, hTO⟩, sIt0 h1, sIt0 h2⟩, fun c hcm => ?_, q⟩
      have hle : s1.heap.objs.size ≤ c := by
        have e' : c = s1.heap.objs.size + 4 ∨ c = s1.heap.objs.size + 2 ∨ c = s1.heap.objs.size + 3 ∨ c = s1.heap.objs.size ∨ c = s1.heap.objs.size + 1 := by simpa using hcm
        rcases e' with z | z | z | z | z <;> rw [z] <;> first | exact Nat.le_refl _ | exact Nat.le_add_right _ _
      exact I1.fpOk hle (I1.hok.fresh hle)
def iZip3B (K : PySem.W.Frag) (ta : TA) : TI := fun σ H R => ta σ H fun vs H1 => ∃ b1 b2 b3 a1 a2 a3 xs ys zs, vs = [.ref a1, .ref a2, .ref a3] ∧ SqB b1 K H1 a1 xs ∧ SqB b2 K H1 a2 ys ∧ SqB b3 K H1 a3 zs ∧ R (Itz3 b1 b2 b3 K a1 a2 a3) H1
theorem pi_zip3B {X : Cx} {e e2 e3 : Expr} {ta : TA} {p pos tpos : Pos} {elts : List Expr} {kk : _} (hg : Gl X "zip") (hm : X.mg "zip" = none) (ha : PA X [e, e2, e3] ta)
    (hs : starEach [e, e2, e3] X.env = (false, eval e X.env) :: starEach [e2, e3] X.env := by rfl) (hpl : (backTo pos (starEach [e2, e3] X.env)).any (·.1) = false := by rfl) :
    PI X (.Tuple elts kk tpos) (.Call (.Name "zip" p) [e, e2, e3] [] pos) (iZip3B X.K ta) := by
  refine ⟨fun pins s σ H R I h => ?_⟩
  refine Call_ (ld_blt I hg hm PyProof.Rows.boot_zip (PyProof.Rows.callWith_type1 (thn (ha.run pos pins s σ H _ I h) fun us s1 ⟨vs, H1, I1, r1, q1⟩ => ?_) hs hpl))
  obtain ⟨b1, b2, b3, a1, a2, a3, xs, ys, zs, ex, hqx, hqy, hqz, q⟩ := q1
  subst ex
  cases r1 with
  | cons r rr =>
    cases rr with
    | cons r' rr =>
      cases rr with
      | cons r'' rr =>
        cases rr
        cases r
        cases r'
        cases r''
        obtain ⟨its, rv, p1, _⟩ := seqB I1 hqx
        obtain ⟨its2, rv2, p2, _⟩ := seqB I1 hqy
        obtain ⟨its3, rv3, p3, _⟩ := seqB I1 hqz
        have la := p1.lt
        have lb := p2.lt
        have lc := p3.lt
        refine zip_begins3 (sBegins b1 a1 its.toArray) (sBegins b2 a2 its2.toArray) (sBegins b3 a3 its3.toArray) p1 p2 p3 fun h' hz hTI hTO h1 h2 h3 hsz hk => wpAny_pyIter_zip hz ?_
        have I2 : Inv X pins σ H1 { s1 with heap := h' } := I1.kept (t' := s1.toks) hk
        refine ⟨s1.heap.objs.size + 5, [s1.heap.objs.size + 5, s1.heap.objs.size + 3, s1.heap.objs.size + 4, s1.heap.objs.size, s1.heap.objs.size + 1, s1.heap.objs.size + 2], _, _, H1, rfl, I2,
          turn_zip3B (zip_sep3 (N := s1.heap.objs.size) (fp1 := [a1]) (fp2 := [a2]) (fp3 := [a3]) (by simpa using la) (by simpa using lb) (by simpa using lc)) (Nat.ne_of_lt la) (Nat.ne_of_lt (Nat.lt_succ_of_lt lb)) (Nat.ne_of_lt (Nat.lt_succ_of_lt (Nat.lt_succ_of_lt lc))), ⟨hz, hTI, ⟨_, _, _, hTO⟩, sIt0 h1, sIt0 h2, sIt0 h3⟩, fun c hcm => ?_, q⟩
        have hle : s1.heap.objs.size ≤ c := by
          have e' : c = s1.heap.objs.size + 5 ∨ c = s1.heap.objs.size + 3 ∨ c = s1.heap.objs.size + 4 ∨ c = s1.heap.objs.size ∨ c = s1.heap.objs.size + 1 ∨ c = s1.heap.objs.size + 2 := by simpa using hcm
          rcases e' with z | z | z | z | z | z <;> rw [z] <;> first | exact Nat.le_refl _ | exact Nat.le_add_right _ _
        exact I1.fpOk hle (I1.hok.fresh hle)
end LG

set_option Elab.async false
set_option linter.all false
set_option maxRecDepth 100000
set_option maxHeartbeats 4000000
set_option autoImplicit false
/-! ## walks over lists and tuples alike, as data -/
namespace DL
open PySem PySem.Spec PyProof.Rows L2 LG
section
variable {X : Cx} {Z : Zp} {N : En} {W : WX} {Y : Yp}
theorem aft_seq {st : Bool} {G1 H1 : Hp} {ca1 : Option Addr} {σ : L2.St} {env : DL.Env} {c1 : C} {v : V} {rv : RV} {xs : List D} (rs : RS Y N G1 ca1 σ H1 env c1) (w : WtR Y G1 ca1 σ env v rv) (e : rv.d.items = some xs) (hp : rv.good st = true) :
    ∃ b a vs, v = .ref a ∧ vs.length = xs.length ∧ xs.length ≤ sizeL ∧ ∀ G ca H c, Aft st G1 ca1 H1 G ca H → RS0 Y G ca H c → SqB b Y.K H a vs ∧ Wts Y G ca vs xs := by
  cases e3 : rv.d with
  | tup ys =>
    rw [e3] at e
    cases e
    obtain ⟨a, vs, h1, h2, h3, k⟩ := aft_tup (st := st) (H1 := H1) w e3
    exact ⟨false, a, vs, h1, h2, h3, fun G ca H c A r => k G ca H c A r⟩
  | lst ys =>
    rw [e3] at e
    cases e
    obtain ⟨a, vs, h1, h2, h3, k⟩ := aft_lst rs w e3 hp
    exact ⟨true, a, vs, h1, h2, h3, fun G ca H c A r => ⟨sql (k G ca H c A r).1, (k G ca H c A r).2⟩⟩
  | _ => rw [e3] at e; cases e
theorem pdi_enumA {st : Bool} {e : Expr} {f : DE} {p pos tpos : Pos} {elts : List Expr} {kk : _} (hg : Gl X "enumerate") (hm : X.mg "enumerate" = none) (ha : PDA X Z N W [e] (dArgs [f])) (hs : starEach [e] X.env = [(false, eval e X.env)] := by rfl) :
    PDI X Z N W st (.Tuple elts kk tpos) (.Call (.Name "enumerate" p) [e] [] pos) (iEnumA st f) := by
  refine pi_imp (pi_enumB hg hm ha hs) fun σ H R h => ?_
  obtain ⟨G, ca, env, c, rs, h⟩ := h
  refine tda1 (k := kEnumA st) (Post := fun items c' => ∀ G' ca' H' J, Stp G ca H G' ca' H' → RS (yOf X Z) N G' ca' σ H' env c' → ItD (yOf X Z) st J items G' ca' H' → R J H') rs h fun x c1 G1 ca1 H1 v s1 r1 w1 h => ?_
  simp only [kEnumA] at h
  by_cases hgd : x.good st = true
  · rw [if_pos hgd] at h
    cases e3 : x.d.items with
    | none => rw [e3] at h; exact h.elim
    | some xs =>
      rw [e3] at h
      obtain ⟨b, a, vs, rfl, hlen, hsz, k⟩ := aft_seq r1 w1 e3 hgd
      refine ⟨b, a, vs, rfl, (k G1 ca1 H1 c1 aft_refl r1.r0).1, h G1 ca1 H1 _ s1 r1 ⟨by rw [enum_len]; exact hsz, fun i G ca H c A r => ?_⟩⟩
      obtain ⟨q1, q2⟩ := k G ca H c A r
      refine ⟨fun d hd => ?_, fun hi => ⟨vs, q1, by rw [enum_len] at hi; omega⟩⟩
      obtain ⟨dx, e5, rfl⟩ := enum_get hd
      obtain ⟨vx, e7, wx⟩ := q2.get e5
      refine ⟨⟨vs, vx, q1, e7⟩, fun z H' hy => ?_⟩
      obtain ⟨T, x', rfl, hT, rfl, g1⟩ := hy
      have g1 := g1 vs q1
      rw [e7] at g1
      cases g1
      have := pair_new (d := .int (0 + i)) r (by rw [Int.zero_add]; exact .int (i : Nat)) wx hT
      exact this
  · rw [if_neg hgd] at h; exact h.elim
theorem pdi_zip2A {st : Bool} {e e2 : Expr} {f g : DE} {p pos tpos : Pos} {elts : List Expr} {kk : _} (hg : Gl X "zip") (hm : X.mg "zip" = none) (ha : PDA X Z N W [e, e2] (dArgs [f, g]))
    (hs : starEach [e, e2] X.env = (false, eval e X.env) :: starEach [e2] X.env := by rfl) (hpl : (backTo pos (starEach [e2] X.env)).any (·.1) = false := by rfl) :
    PDI X Z N W st (.Tuple elts kk tpos) (.Call (.Name "zip" p) [e, e2] [] pos) (iZip2A st f g) := by
  refine pi_imp (pi_zip2B hg hm ha hs hpl) fun σ H R h => ?_
  obtain ⟨G, ca, env, c, rs, h⟩ := h
  refine tda2 (k := kZip2A st) (Post := fun items c' => ∀ G' ca' H' J, Stp G ca H G' ca' H' → RS (yOf X Z) N G' ca' σ H' env c' → ItD (yOf X Z) st J items G' ca' H' → R J H') rs h fun x y c1 G1 ca1 H1 v u s1 r1 w1 w2 h => ?_
  simp only [kZip2A] at h
  by_cases hgd : (x.good st && y.good st) = true
  · rw [if_pos hgd] at h
    simp only [Bool.and_eq_true] at hgd
    cases e3 : x.d.items with
    | none => rw [e3] at h; exact h.elim
    | some xs =>
      rw [e3] at h
      cases e4 : y.d.items with
      | none => rw [e4] at h; exact h.elim
      | some ys =>
        rw [e4] at h
        obtain ⟨b, a, vs, rfl, hlen, hsz, k⟩ := aft_seq r1 w1 e3 hgd.1
        obtain ⟨b', a', us, rfl, hlen2, hsz2, k2⟩ := aft_seq r1 w2 e4 hgd.2
        refine ⟨b, b', a, a', vs, us, rfl, (k G1 ca1 H1 c1 aft_refl r1.r0).1, (k2 G1 ca1 H1 c1 aft_refl r1.r0).1, h G1 ca1 H1 _ s1 r1 ⟨by rw [zip_len]; omega, fun i G ca H c A r => ?_⟩⟩
        obtain ⟨q1, q2⟩ := k G ca H c A r
        obtain ⟨q3, q4⟩ := k2 G ca H c A r
        refine ⟨fun d hd => ?_, fun hi => ⟨vs, us, q1, q3, by rw [zip_len] at hi; omega⟩⟩
        obtain ⟨dx, dy, e5, e6, rfl⟩ := zip_get hd
        obtain ⟨vx, e7, wx⟩ := q2.get e5
        obtain ⟨vy, e8, wy⟩ := q4.get e6
        refine ⟨⟨vs, us, vx, vy, q1, q3, e7, e8⟩, fun z H' hy => ?_⟩
        obtain ⟨T, x', y', rfl, hT, rfl, g1, g2⟩ := hy
        have g1 := g1 vs q1
        have g2 := g2 us q3
        rw [e7] at g1
        rw [e8] at g2
        cases g1
        cases g2
        exact pair_new r wx wy hT
  · rw [if_neg hgd] at h; exact h.elim
theorem zip3_get : ∀ {xs ys zs : List D} {i : Nat} {d : D}, (zipD3 xs ys zs)[i]? = some d → ∃ x y z, xs[i]? = some x ∧ ys[i]? = some y ∧ zs[i]? = some z ∧ d = .tup [x, y, z]
  | x :: xs, y :: ys, z :: zs, 0, d, h => by
    simp [zipD3] at h
    exact ⟨x, y, z, rfl, rfl, rfl, h.symm⟩
  | x :: xs, y :: ys, z :: zs, i + 1, d, h => by
    simp only [zipD3, List.getElem?_cons_succ] at h
    obtain ⟨a, b, c, h1, h2, h3, h4⟩ := zip3_get h
    exact ⟨a, b, c, by simpa using h1, by simpa using h2, by simpa using h3, h4⟩
  | [], _, _, _, _, h => by simp [zipD3] at h
  | _ :: _, [], _, _, _, h => by simp [zipD3] at h
  | _ :: _, _ :: _, [], _, _, h => by simp [zipD3] at h
theorem zip3_len : ∀ xs ys zs : List D, (zipD3 xs ys zs).length = min (min xs.length ys.length) zs.length
  | x :: xs, y :: ys, z :: zs => by simp only [zipD3, List.length_cons, zip3_len xs ys zs]; omega
  | [], _, _ => by simp [zipD3]
  | _ :: _, [], _ => by simp [zipD3]
  | _ :: _, _ :: _, [] => by simp [zipD3]
theorem trip_new {G H : Hp} {ca : Option Addr} {c : C} {p : Addr} {x y z : V} {d e f : D} (r : RS0 Y G ca H c) (w1 : Wt Y G ca x d) (w2 : Wt Y G ca y e) (w3 : Wt Y G ca z f) (hp : H p = none) :
    ∃ G', Stp G ca H G' ca (upd H p (.tup [x, y, z])) ∧ RS0 Y G' ca (upd H p (.tup [x, y, z])) c ∧ Wt Y G' ca (.ref p) (.tup [d, e, f]) :=
  ⟨upd G p (.tup [x, y, z]), .newG r hp, r.newG hp, .tup (.inl (.inl upd_same)) ((Wts.cons w1 (.cons w2 (.cons w3 .nil))).mono (same_upd (r.free hp)) fun _ h => h) (by show 3 ≤ sizeL; decide)⟩
theorem tda3 {σ : L2.St} {G H : Hp} {ca : Option Addr} {env : DL.Env} {c : C} {f g e : DE} {α : Type} {k : RV → RV → RV → C → R α} {Q' : List V → Hp → Prop} {Post : α → C → Prop} (rs : RS Y N G ca σ H env c)
    (h : ((f env c).bind fun x c => (g env c).bind fun y c => (e env c).bind fun z c => k x y z c).post Post fun x c' => Bad Y N W σ env x c' G ca H)
    (hq : ∀ x y z c1 G1 ca1 H1 v u w, Stp G ca H G1 ca1 H1 → RS Y N G1 ca1 σ H1 env c1 → WtR Y G1 ca1 σ env v x → WtR Y G1 ca1 σ env u y → WtR Y G1 ca1 σ env w z → (k x y z c1).post Post (fun x c' => Bad Y N W σ env x c' G ca H) → Q' [v, u, w] H1) : tDA Y N W (dArgs [f, g, e]) σ H Q' := by
  refine ⟨G, ca, env, c, rs, ?_⟩
  simp only [dArgs]
  cases e1 : f env c with
  | st => rw [e1] at h; exact h
  | er x c1 => rw [e1] at h; exact h
  | ok x c1 =>
    rw [e1] at h
    simp only [DL.R.bind] at h ⊢
    cases e2 : g env c1 with
    | st => rw [e2] at h; exact h
    | er x c1 => rw [e2] at h; exact h
    | ok y c2 =>
      rw [e2] at h
      simp only [DL.R.bind] at h ⊢
      cases e3 : e env c2 with
      | st => rw [e3] at h; exact h
      | er x c1 => rw [e3] at h; exact h
      | ok z c3 =>
        rw [e3] at h
        intro G1 ca1 H1 vs s1 r1 w1
        match vs, w1 with
        | [v, u, w], .cons a (.cons b (.cons d .nil)) => exact hq x y z c3 G1 ca1 H1 v u w s1 r1 a b d h
theorem pdi_zip3A {st : Bool} {e e2 e3 : Expr} {f g f3 : DE} {p pos tpos : Pos} {elts : List Expr} {kk : _} (hg : Gl X "zip") (hm : X.mg "zip" = none) (ha : PDA X Z N W [e, e2, e3] (dArgs [f, g, f3]))
    (hs : starEach [e, e2, e3] X.env = (false, eval e X.env) :: starEach [e2, e3] X.env := by rfl) (hpl : (backTo pos (starEach [e2, e3] X.env)).any (·.1) = false := by rfl) :
    PDI X Z N W st (.Tuple elts kk tpos) (.Call (.Name "zip" p) [e, e2, e3] [] pos) (iZip3A st f g f3) := by
  refine pi_imp (pi_zip3B hg hm ha hs hpl) fun σ H R h => ?_
  obtain ⟨G, ca, env, c, rs, h⟩ := h
  refine tda3 (k := kZip3A st) (Post := fun items c' => ∀ G' ca' H' J, Stp G ca H G' ca' H' → RS (yOf X Z) N G' ca' σ H' env c' → ItD (yOf X Z) st J items G' ca' H' → R J H') rs h fun x y z c1 G1 ca1 H1 v u w s1 r1 w1 w2 w3 h => ?_
  simp only [kZip3A] at h
  by_cases hgd : (x.good st && y.good st && z.good st) = true
  · rw [if_pos hgd] at h
    simp only [Bool.and_eq_true] at hgd
    cases e3 : x.d.items with
    | none => rw [e3] at h; exact h.elim
    | some xs =>
      rw [e3] at h
      cases e4 : y.d.items with
      | none => rw [e4] at h; exact h.elim
      | some ys =>
        rw [e4] at h
        cases e5 : z.d.items with
        | none => rw [e5] at h; exact h.elim
        | some zs =>
          rw [e5] at h
          obtain ⟨b, a, vs, rfl, hlen, hsz, k⟩ := aft_seq r1 w1 e3 hgd.1.1
          obtain ⟨b', a', us, rfl, hlen2, hsz2, k2⟩ := aft_seq r1 w2 e4 hgd.1.2
          obtain ⟨b3, a3, ws, rfl, hlen3, hsz3, k3⟩ := aft_seq r1 w3 e5 hgd.2
          refine ⟨b, b', b3, a, a', a3, vs, us, ws, rfl, (k G1 ca1 H1 c1 aft_refl r1.r0).1, (k2 G1 ca1 H1 c1 aft_refl r1.r0).1, (k3 G1 ca1 H1 c1 aft_refl r1.r0).1, h G1 ca1 H1 _ s1 r1 ⟨by rw [zip3_len]; omega, fun i G ca H c A r => ?_⟩⟩
          obtain ⟨q1, q2⟩ := k G ca H c A r
          obtain ⟨q3, q4⟩ := k2 G ca H c A r
          obtain ⟨q5, q6⟩ := k3 G ca H c A r
          refine ⟨fun d hd => ?_, fun hi => ⟨vs, us, ws, q1, q3, q5, by rw [zip3_len] at hi; omega⟩⟩
          obtain ⟨dx, dy, dz, e5, e6, e7, rfl⟩ := zip3_get hd
          obtain ⟨vx, f7, wx⟩ := q2.get e5
          obtain ⟨vy, f8, wy⟩ := q4.get e6
          obtain ⟨vz, f9, wz⟩ := q6.get e7
          refine ⟨⟨vs, us, ws, vx, vy, vz, q1, q3, q5, f7, f8, f9⟩, fun z H' hy => ?_⟩
          obtain ⟨T, x', y', z', rfl, hT, rfl, g1, g2, g3⟩ := hy
          have g1 := g1 vs q1
          have g2 := g2 us q3
          have g3 := g3 ws q5
          rw [f7] at g1
          rw [f8] at g2
          rw [f9] at g3
          cases g1
          cases g2
          cases g3
          exact trip_new r wx wy wz hT
  · rw [if_neg hgd] at h; exact h.elim
theorem pix_zipL {e e2 : Expr} {f g : DE} {p pos tpos : Pos} {elts : List Expr} {kk : _} (hg : Gl X "zip") (hm : X.mg "zip" = none) (ha : PDA X Z N W [e, e2] (dArgs [f, g]))
    (hs : starEach [e, e2] X.env = (false, eval e X.env) :: starEach [e2] X.env := by rfl) (hpl : (backTo pos (starEach [e2] X.env)).any (·.1) = false := by rfl) :
    HX.PIX X (.Tuple elts kk tpos) (.Call (.Name "zip" p) [e, e2] [] pos) (tDI (yOf X Z) N W false (iZipL f g)) := by
  refine HX.pix_imp (HX.pix_zip hg hm ha hs hpl) fun σ H R h => ?_
  obtain ⟨G, ca, env, c, rs, h⟩ := h
  refine tda2 (k := kZipL) (Post := fun items c' => ∀ G' ca' H' J, Stp G ca H G' ca' H' → RS (yOf X Z) N G' ca' σ H' env c' → ItD (yOf X Z) false J items G' ca' H' → R J H') rs h fun x y c1 G1 ca1 H1 v u s1 r1 w1 w2 h => ?_
  simp only [kZipL] at h
  cases e3 : x.d with
  | lst xs =>
    rw [e3] at h
    cases e4 : y.d with
    | lst ys =>
      rw [e4] at h
      obtain ⟨a, vs, rfl, hlen, hsz, k⟩ := aft_lst (st := false) r1 w1 e3 rfl
      obtain ⟨b, us, rfl, hlen2, hsz2, k2⟩ := aft_lst (st := false) r1 w2 e4 rfl
      refine ⟨a, b, vs, us, rfl, sql (k G1 ca1 H1 c1 aft_refl r1.r0).1, sql (k2 G1 ca1 H1 c1 aft_refl r1.r0).1, h G1 ca1 H1 _ s1 r1 ⟨by rw [zip_len]; omega, fun i G ca H c A r => ?_⟩⟩
      obtain ⟨q1, q2⟩ := k G ca H c A r
      obtain ⟨q3, q4⟩ := k2 G ca H c A r
      refine ⟨fun d hd => ?_, fun hi => ⟨vs, us, sql q1, sql q3, by rw [zip_len] at hi; omega⟩⟩
      obtain ⟨dx, dy, e5, e6, rfl⟩ := zip_get hd
      obtain ⟨vx, e7, wx⟩ := q2.get e5
      obtain ⟨vy, e8, wy⟩ := q4.get e6
      refine ⟨⟨vs, us, vx, vy, sql q1, sql q3, e7, e8⟩, fun z H' hy => ?_⟩
      obtain ⟨T, x', y', rfl, hT, rfl, g1, g2⟩ := hy
      have g1 := g1 vs (sql q1)
      have g2 := g2 us (sql q3)
      rw [e7] at g1
      rw [e8] at g2
      cases g1
      cases g2
      exact pair_new r wx wy hT
    | _ => rw [e4] at h; exact h.elim
  | _ => rw [e3] at h; exact h.elim
/-- never reached -/
theorem pd_st {e : Expr} : PD X Z N W e dSt := ⟨fun pins s σ H Q I h => by
  obtain ⟨_, _, _, _, _, h⟩ := h
  exact h.elim⟩
/-- the classes that can be raised: below n; those that are asked about: below m -/
structure XcM (K : PySem.W.Frag) (mg : Str → Option Value) (Z : Zp) (sub : Nat → Nat → Bool) (n m : Nat) : Prop where
  ex : ∀ (k : Nat) (C : Addr), mg (Z.xnm k) = some (.ref C) → k < n → ExcC K C
  kit : ∀ (k j : Nat) (C D : Addr), k < n → j < m → mg (Z.xnm k) = some (.ref C) → mg (Z.xnm j) = some (.ref D) → PySem.W.kitOne K (.ref C) (.ref D) = some (sub k j) ∧ PySem.W.exmOne K (.ref C) (.ref D) = some (sub k j)
theorem XcM.k {K : PySem.W.Frag} {mg : Str → Option Value} {Z : Zp} {sub : Nat → Nat → Bool} {n m : Nat} (S : XcM K mg Z sub n m) (h : n ≤ m) : XcK K mg Z sub n :=
  ⟨S.ex, fun k j C D hk hj => S.kit k j C D hk (Nat.lt_of_lt_of_le hj h)⟩
theorem catch_ofM {K : PySem.W.Frag} {mg : Str → Option Value} {sub : Nat → Nat → Bool} {n m j : Nat} {CS : Addr} (S : XcM K mg Z sub n m) (hj : j < m) (mj : mg (Z.xnm j) = some (.ref CS)) (hb : ∀ k, sub k j = true → k < n) :
    ∀ (k : Nat) (C : Addr), sub k j = true → mg (Z.xnm k) = some (.ref C) → PySem.W.exmOne K (.ref C) (.ref CS) = some true := fun k C hk hC => by
  rw [(S.kit k j C CS (hb k hk) hj hC mj).2, hk]
theorem pd_isxM {a C D : Addr} {oe : Obj} {pn : List (Addr × Obj)} {x : Ex} {sub : Nat → Nat → Bool} {i k n m : Nat} {nm cn : Str} {p1 p2 p3 pos : Pos} (S : XcM X.K X.mg Z sub n m) (hx : x.cls < n) (hk : k < m) (hC : X.mg (Z.xnm x.cls) = some (.ref C)) (zn : L2N.Zn (.ref C) none oe) (hf : ∃ vs, oe.data = .fields vs)
    (gl : Gl X "isinstance") (hm : X.mg "isinstance" = none) (hN : X.N[i]? = some nm) (hv : Vis X.env.scope nm) (hd : (nm == ("__debug__" : Str)) = false) (hcd : (nm == ("__classdict__" : Str)) = false)
    (gc : Gl X cn) (hD : X.mg cn = some (.ref D)) (hkn : Z.xnm k = cn) (cd : (cn == ("__debug__" : Str)) = false) :
    PD (X.suite a ((a, oe) :: pn)) { Z with ex := some a } N W (.Call (.Name "isinstance" p1) [.Name nm p2, .Name cn p3] [] pos) (dIsX sub x i k) := by
  have hn : (X.suite a ((a, oe) :: pn)).N[i]? = some nm := hN
  refine pe_imp (pe_callB (X := X.suite a ((a, oe) :: pn)) (call_isE (S.ex _ _ hC hx) zn.zc hf) gl hm boot_isinstance (pa_cons (pe_var hn hv hd hcd) (pa_cons (pe_glob gc hD (v := .ref D) rfl cd) pa_nil)) (by decide) (by decide)) fun σ H Q h => ?_
  obtain ⟨G, ca, env, c, rs, h⟩ := h
  simp only [dIsX] at h
  cases e : env[i]? with
  | none => rw [e] at h; exact h.elim
  | some sl =>
    rw [e] at h
    cases sl with
    | val d =>
      cases d with
      | exc =>
        obtain ⟨v, h1, h2⟩ := rs.val i _ e
        cases h2 with
        | exc ha =>
          have ha : some a = some _ := ha
          cases ha
          refine ⟨_, h1, .ref D, .ref D, sub x.cls k, rfl, fun u r => by cases r; rfl, ?_, h G ca H _ .refl rs (.bl _)⟩
          exact (S.kit _ _ _ _ hx hk hC (by rw [hkn]; exact hD)).1
      | _ => exact h.elim
    | _ => exact h.elim
end
end DL

set_option Elab.async false
set_option linter.all false
set_option maxRecDepth 100000
set_option maxHeartbeats 4000000
set_option autoImplicit false
/-! ## min, max, sorted of a list of whole numbers -/
namespace DL
open PySem PySem.Spec PyProof.Rows L2
section
variable {X : Cx} {Z : Zp}
theorem min_spec : ∀ (ns : List Int) (n : Int), ns.foldl (fun a b => if b < a then b else a) n ≤ n ∧ (∀ y ∈ ns, ns.foldl (fun a b => if b < a then b else a) n ≤ y) ∧ (ns.foldl (fun a b => if b < a then b else a) n = n ∨ ns.foldl (fun a b => if b < a then b else a) n ∈ ns)
  | [], n => ⟨Int.le_refl _, (fun _ h => by cases h), Or.inl rfl⟩
  | x :: xs, n => by
    obtain ⟨h1, h2, h3⟩ := min_spec xs (if x < n then x else n)
    have hm : (if x < n then x else n) ≤ n ∧ (if x < n then x else n) ≤ x := by split <;> omega
    rw [List.foldl_cons]
    generalize xs.foldl (fun a b => if b < a then b else a) (if x < n then x else n) = m at *
    refine ⟨Int.le_trans h1 hm.1, fun y hy => ?_, ?_⟩
    · rcases List.mem_cons.mp hy with rfl | hy
      · exact Int.le_trans h1 hm.2
      · exact h2 y hy
    · rcases h3 with h3 | h3
      · rw [h3]
        split
        · exact .inr List.mem_cons_self
        · exact .inl rfl
      · exact .inr (List.mem_cons_of_mem _ h3)
theorem max_spec : ∀ (ns : List Int) (n : Int), n ≤ ns.foldl (fun a b => if a < b then b else a) n ∧ (∀ y ∈ ns, y ≤ ns.foldl (fun a b => if a < b then b else a) n) ∧ (ns.foldl (fun a b => if a < b then b else a) n = n ∨ ns.foldl (fun a b => if a < b then b else a) n ∈ ns)
  | [], n => ⟨Int.le_refl _, (fun _ h => by cases h), Or.inl rfl⟩
  | x :: xs, n => by
    obtain ⟨h1, h2, h3⟩ := max_spec xs (if n < x then x else n)
    have hm : n ≤ (if n < x then x else n) ∧ x ≤ (if n < x then x else n) := by split <;> omega
    rw [List.foldl_cons]
    generalize xs.foldl (fun a b => if a < b then b else a) (if n < x then x else n) = m at *
    refine ⟨Int.le_trans hm.1 h1, fun y hy => ?_, ?_⟩
    · rcases List.mem_cons.mp hy with rfl | hy
      · exact Int.le_trans hm.2 h1
      · exact h2 y hy
    · rcases h3 with h3 | h3
      · rw [h3]
        split
        · exact .inr List.mem_cons_self
        · exact .inl rfl
      · exact .inr (List.mem_cons_of_mem _ h3)
theorem cd_min1 (hc : X.calm = true) : CallD X Z (.builtin "min") bMin1 := ⟨_, cr_min hc, fun G ca H c xs ds d Q rs w0 e q => by
  unfold bMin1 at e
  split at e <;> first | cases e | skip
  obtain ⟨x, rfl, w⟩ := arg1 w0
  obtain ⟨a, vs, rfl, h1, z1, hl⟩ := w.lst rs
  split at e <;> first | cases e | skip
  rename_i n ns e1
  refine ⟨a, n :: ns, rfl, by rw [← z1.ints e1]; exact sql h1, Nat.succ_pos _, fun m hm hall => ?_⟩
  obtain ⟨g1, g2, g3⟩ := min_spec ns n
  have e2 : ns.foldl (fun a b => if b < a then b else a) n = m := by
    have a1 : m ≤ ns.foldl (fun a b => if b < a then b else a) n := hall _ (by
      rcases g3 with g3 | g3
      · rw [g3]; exact List.mem_cons_self
      · exact List.mem_cons_of_mem _ g3)
    have a2 : ns.foldl (fun a b => if b < a then b else a) n ≤ m := by
      rcases List.mem_cons.mp hm with rfl | hm
      · exact g1
      · exact g2 m hm
    omega
  rw [e2] at q
  exact q.here rs (.int _)⟩
theorem cd_max1 (hc : X.calm = true) : CallD X Z (.builtin "max") bMax1 := ⟨_, cr_max hc, fun G ca H c xs ds d Q rs w0 e q => by
  unfold bMax1 at e
  split at e <;> first | cases e | skip
  obtain ⟨x, rfl, w⟩ := arg1 w0
  obtain ⟨a, vs, rfl, h1, z1, hl⟩ := w.lst rs
  split at e <;> first | cases e | skip
  rename_i n ns e1
  refine ⟨a, n :: ns, rfl, by rw [← z1.ints e1]; exact sql h1, Nat.succ_pos _, fun m hm hall => ?_⟩
  obtain ⟨g1, g2, g3⟩ := max_spec ns n
  have e2 : ns.foldl (fun a b => if a < b then b else a) n = m := by
    have a1 : ns.foldl (fun a b => if a < b then b else a) n ≤ m := hall _ (by
      rcases g3 with g3 | g3
      · rw [g3]; exact List.mem_cons_self
      · exact List.mem_cons_of_mem _ g3)
    have a2 : m ≤ ns.foldl (fun a b => if a < b then b else a) n := by
      rcases List.mem_cons.mp hm with rfl | hm
      · exact g1
      · exact g2 m hm
    omega
  rw [e2] at q
  exact q.here rs (.int _)⟩
theorem insI_perm (x : Int) : ∀ ys : List Int, (insI x ys).Perm (x :: ys)
  | [] => .refl _
  | y :: ys => by
    unfold insI
    split
    · exact .refl _
    · exact ((insI_perm x ys).cons y).trans (.swap x y ys)
theorem isort_perm : ∀ xs : List Int, (isort xs).Perm xs
  | [] => .refl _
  | x :: xs => (insI_perm x (isort xs)).trans ((isort_perm xs).cons x)
theorem insI_sorted (x : Int) : ∀ ys : List Int, ys.Pairwise (· ≤ ·) → (insI x ys).Pairwise (· ≤ ·)
  | [], _ => by simp [insI]
  | y :: ys, h => by
    unfold insI
    obtain ⟨h1, h2⟩ := List.pairwise_cons.mp h
    split
    · rename_i hx
      refine List.pairwise_cons.mpr ⟨fun z hz => ?_, h⟩
      rcases List.mem_cons.mp hz with rfl | hz
      · exact hx
      · exact Int.le_trans hx (h1 z hz)
    · rename_i hx
      refine List.pairwise_cons.mpr ⟨fun z hz => ?_, insI_sorted x ys h2⟩
      rcases List.mem_cons.mp ((insI_perm x ys).mem_iff.mp hz) with rfl | hz
      · omega
      · exact h1 z hz
theorem isort_sorted : ∀ xs : List Int, (isort xs).Pairwise (· ≤ ·)
  | [] => .nil
  | x :: xs => insI_sorted x _ (isort_sorted xs)
theorem sorted_unique : ∀ {xs ys : List Int}, xs.Pairwise (· ≤ ·) → ys.Pairwise (· ≤ ·) → xs.Perm ys → xs = ys
  | [], ys, _, _, p => (List.Perm.nil_eq p)
  | x :: xs, [], _, _, p => by
    have := p.length_eq
    simp at this
  | x :: xs, y :: ys, h1, h2, p => by
    obtain ⟨a1, a2⟩ := List.pairwise_cons.mp h1
    obtain ⟨b1, b2⟩ := List.pairwise_cons.mp h2
    have e : x = y := by
      have m1 : x ∈ y :: ys := p.mem_iff.mp List.mem_cons_self
      have m2 : y ∈ x :: xs := p.mem_iff.mpr List.mem_cons_self
      have l1 : y ≤ x := by
        rcases List.mem_cons.mp m1 with h | h
        · omega
        · exact b1 x h
      have l2 : x ≤ y := by
        rcases List.mem_cons.mp m2 with h | h
        · omega
        · exact a1 y h
      omega
    subst e
    rw [sorted_unique a2 b2 (List.perm_cons x |>.mp p)]
theorem cdo_sorted : CallDO X Z (.builtin "sorted") bSorted := ⟨_, cr_sortedI, fun G ca H c xs ds d Q rs w0 e => by
  unfold bSorted at e
  split at e <;> first | cases e | skip
  obtain ⟨x, rfl, w⟩ := arg1 w0
  obtain ⟨a, vs, rfl, h1, z1, hl⟩ := w.lst rs
  rw [Option.map_eq_some_iff] at e
  obtain ⟨ns, e1, rfl⟩ := e
  refine ⟨_, rfl, fun q => ⟨a, ns, rfl, by rw [← z1.ints e1]; exact sql h1, fun ns' p hp hs hn => ?_⟩⟩
  rw [sorted_unique hs (isort_sorted ns) (hp.trans (isort_perm ns).symm)]
  have wi : ∀ l : List Int, Wts (yOf X Z) G ca (l.map V.int) (l.map D.int) := fun l => by
    induction l with
    | nil => exact .nil
    | cons i r ih => exact .cons (.int i) ih
  refine q.new rs (wi _) ?_ hn
  rw [List.length_map, (isort_perm ns).length_eq]
  have hz : ns.length = vs.length := by rw [z1.ints e1, List.length_map]
  rw [hz, z1.length]
  exact hl⟩
theorem bSorted_lst (xs : List D) (d : D) (h : bSorted xs = some d) : ∃ es, d = .lst es := by
  unfold bSorted at h
  split at h <;> first | cases h | skip
  rw [Option.map_eq_some_iff] at h
  obtain ⟨ns, _, rfl⟩ := h
  exact ⟨_, rfl⟩
end
end DL

set_option Elab.async false
set_option linter.all false
set_option maxRecDepth 100000
set_option maxHeartbeats 4000000
set_option autoImplicit false
/-! ## t[::-1] -/
namespace HT
open PySem PyProof.Rows
section
variable {prog : Program} {w : World} {A : Around} {E : Value → Shared → Prop} {s : Shared}
theorem adjust_rev (n : Nat) : Builtin.Slice.sliceAdjust none none (-1) (n : Int) = ((n : Int) - 1, -1) := by
  unfold Builtin.Slice.sliceAdjust
  have h1 : ((-1 : Int) < 0) := by omega
  simp only [h1, if_true]
theorem places_rev (n : Nat) : Builtin.Slice.slicePlaces ((n : Int) - 1) (-1) (-1) = n := by
  unfold Builtin.Slice.slicePlaces
  have h1 : ¬ (-1 : Int) > 0 := by omega
  simp only [h1, if_false]
  split
  · rename_i h
    have e : ((n : Int) - 1 - -1 - 1) / (- -1) + 1 = n := by
      rw [show (- -1 : Int) = 1 by decide, Int.ediv_one]
      omega
    first
      | (rw [e]; simp)
      | (simp; omega)
      | omega
  · omega
theorem fm_congr {α β : Type} {f g : α → Option β} : ∀ {l : List α}, (∀ x ∈ l, f x = g x) → l.filterMap f = l.filterMap g
  | [], _ => rfl
  | x :: l, h => by
    rw [List.filterMap_cons, List.filterMap_cons, h x List.mem_cons_self, fm_congr fun y hy => h y (List.mem_cons_of_mem _ hy)]
theorem pick_rev (xs : Array Value) : ((List.range xs.size).filterMap fun (m : Nat) => xs[(((xs.size : Int) - 1) + (m : Int) * -1).toNat]?).toArray = xs.toList.reverse.toArray := by
  have e : ∀ m ∈ List.range xs.size, (fun (m : Nat) => xs[(((xs.size : Int) - 1) + (m : Int) * -1).toNat]?) m = (fun m : Nat => xs[xs.size - 1 - m]?) m := by
    intro m hm
    have := List.mem_range.mp hm
    have e2 : (((xs.size : Int) - 1) + (m : Int) * -1).toNat = xs.size - 1 - m := by omega
    show xs[(((xs.size : Int) - 1) + (m : Int) * -1).toNat]? = _
    rw [e2]
  rw [fm_congr e]
  have h2 : (fun m : Nat => xs[xs.size - 1 - m]?) = (xs[·]?) ∘ fun k => xs.size - 1 - k := rfl
  rw [h2, ← List.filterMap_map, PySem.W.krv_range, List.filterMap_reverse, PySem.W.krv_all]
theorem getItem_tuple_rev {t sl : Addr} {items : Array Value} {vk : Value} {Q : Value → Shared → Prop} (ht : IsTup s.heap t items) (hs : s.heap.IsSliceOf sl .none .none vk) (pk : IsPart vk (some (-1)))
    (h : Q (.ref s.heap.objs.size) { s with heap := s.heap.push { cls := .type "tuple", data := .seq items.toList.reverse.toArray } })
    (hsz : items.size ≤ sizeLine) : wpAny (model prog w) A (getItem (.ref t) (.ref sl)) Q E s := by
  have htake : sizeOk (.seq items.toList.reverse.toArray) := by
    show items.toList.reverse.toArray.size ≤ sizeLine
    simpa using hsz
  obtain ⟨os, hos, hcs, hds⟩ := id hs
  have hTs : s.TypeIs (.ref sl) "slice" := ⟨os, hos, hcs⟩
  unfold getItem
  try with_reducible refine wpAny_holding ?_
  first | refine wpAny_bind (wpAny_pure ?_) | skip
  refine wpAny_bind (wpAny_sequenceKey ht.typeIs (by decide) ?_)
  refine wpAny_bind (wpAny_callSpecial?_slot (name := Str.ofString "__getitem__") ht.typeIs PyProof.Rows.slot_tuple_getitem
    (wpAny_call_entry PyProof.Rows.slot_tuple_getitem ht.typeIs entry_tuple_getitem ?_ (args_tuple_getitem _ _)))
  show wpAny _ _ (Builtin.Tuple.tupleItemsOf (.ref t) >>= _) _ _ s
  refine wpAny_bind (tupleItemsOf_ ht ?_)
  refine wpAny_bind (wpAny_typeOf hTs ?_)
  rw [if_pos (by decide)]
  have ap : ∀ {Q : Int × Int × Nat → Shared → Prop} {A' : Around} {E' : Value → Shared → Prop}, Q ((items.size : Int) - 1, -1, items.size) s → wpAny (model prog w) A' (Builtin.Slice.sliceApplied (.ref sl) (pure (items.size : Int))) Q E' s := by
    intro Q A' E' h
    unfold Builtin.Slice.sliceApplied Builtin.Slice.sliceFields
    refine wpAny_bind (wpAny_bind (wpAny_field hos hds (x := .none) rfl (wpAny_bind (wpAny_field hos hds (x := .none) rfl (wpAny_bind (wpAny_field hos hds (x := vk) rfl (wpAny_pure ?_)))))))
    refine wpAny_bind (slicePart_ pk ?_)
    show wpAny _ _ (if ((-1 : Int) == 0) = true then _ else _) _ _ s
    rw [if_neg (by decide)]
    refine wpAny_bind (slicePart_none (wpAny_bind (slicePart_none (wpAny_bind (wpAny_pure ?_)))))
    show wpAny _ _ (match Builtin.Slice.sliceAdjust none none (-1) (items.size : Int) with | (lo, hi) => pure (lo, (-1 : Int), Builtin.Slice.slicePlaces lo hi (-1))) _ _ s
    rw [adjust_rev]
    show wpAny _ _ (pure ((items.size : Int) - 1, (-1 : Int), Builtin.Slice.slicePlaces ((items.size : Int) - 1) (-1) (-1))) _ _ s
    rw [places_rev]
    exact wpAny_pure h
  refine wpAny_bind (ap ?_)
  have hno : ¬ ((((items.size : Int) - 1) == 0 && (-1 : Int) == 1 && items.size == items.size) = true) := by
    intro q
    rw [Bool.and_eq_true, Bool.and_eq_true] at q
    have q1 : (-1 : Int) = 1 := eq_of_beq q.1.2
    omega
  show wpAny _ _ (if (((items.size : Int) - 1) == 0 && (-1 : Int) == 1 && items.size == items.size) = true then _ else _) _ _ s
  rw [if_neg hno, pick_rev]
  first
    | exact wpAny_bind (m := Builtin.Tuple.tupleExact _) (wpAny_newObj_type (wpAny_pure ⟨_, rfl, wpAny_pure h⟩) htake)
    | exact wpAny_bind (m := Builtin.Tuple.tupleExact _) (wpAny_newObj_type (wpAny_bind (wpAny_pure (wpAny_pure ⟨_, rfl, wpAny_pure h⟩))) htake)
    | exact wpAny_bind (wpAny_bind (m := Builtin.Tuple.tupleExact _) (wpAny_newObj_type (wpAny_pure (wpAny_pure ⟨_, rfl, wpAny_pure h⟩)) htake))
    | exact wpAny_bind (wpAny_bind (m := Builtin.Tuple.tupleExact _) (wpAny_newObj_type (wpAny_pure ⟨_, rfl, wpAny_pure h⟩) htake))
end
end HT
namespace DL
open PySem PySem.Spec PyProof.Rows L2 LamX
section
variable {X : Cx} {Z : Zp} {N : En} {W : WX}
def tRevA (K : PySem.W.Frag) (te : TE) : TE := fun σ H Q => te σ H fun v H1 => ∃ (a : Addr) (xs : List V), v = .ref a ∧ ((SqL K H1 a xs ∧ ∀ q, H1 q = none → Q (.ref q) (upd H1 q (.lst xs.reverse))) ∨ (SqT K H1 a xs ∧ ∀ q, H1 q = none → Q (.ref q) (upd H1 q (.tup xs.reverse))))
theorem pe_revA {e : Expr} {te : TE} {j : _} {p2 p3 p4 pos : Pos} (he : PE X e te) : PE X (.Subscript e (.Slice none none (some (.UnaryOp .USub (.Constant (.int 1) j p3) p4)) p2) pos) (tRevA X.K te) := by
  refine ⟨fun pins s σ H Q I h => ?_⟩
  refine Subscript_ (thn (he.run pins s σ H _ I h) fun v s1 ⟨x, H1, I1, r1, a, xs, ex, hx⟩ => ?_)
  subst ex
  cases r1
  have po : PO X (some (.UnaryOp .USub (.Constant (.int 1) j p3) p4)) _ := po_some (pe_un un_neg pe_int)
  refine wpAny_Slice (thn (po_none.run pins s1 σ H1 (fun l H2 => l = none ∧ H2 = H1) I1 ⟨rfl, rfl⟩) fun vl s2 ⟨l, H2, I2, pl, el, eh⟩ => ?_)
  subst el
  rw [eh] at I2
  refine thn (po_none.run pins s2 σ H1 (fun l H2 => l = none ∧ H2 = H1) I2 ⟨rfl, rfl⟩) fun vu s3 ⟨u, H3, I3, pu, el, eh⟩ => ?_
  subst el
  rw [eh] at I3
  refine thn (po.run pins s3 σ H1 (fun k H2 => k = some (-1) ∧ H2 = H1) I3 ?_) fun vk s4 ⟨k, H4, I4, pk, ek, eh⟩ => ?_
  · exact ⟨_, rfl, _, rfl, rfl, rfl⟩
  · subst ek
    rw [eh] at I4
    have I5 : Inv X pins σ H1 { s4 with heap := s4.heap.push { cls := .type "slice", data := .fields #[vl, vu, vk] } } := I4.kept (t' := s4.toks) fun b ob q => Heap.get?_push_of_some _ q
    rcases hx with ⟨hx, q⟩ | ⟨hx, q⟩
    · obtain ⟨its, r, ht, hz⟩ := I5.list hx
      have hlen := r.length
      show wpAny (model X.prog X.w) X.A (subscriptTail e (.Slice none none (some (.UnaryOp .USub (.Constant (.int 1) j p3) p4)) p2) (.ref a) (.ref s4.heap.objs.size)) (EP X pins σ Q) X.xe { s4 with heap := s4.heap.push { cls := .type "slice", data := .fields #[vl, vu, vk] } }
      refine tail_any ht.isList.typeIs slot_list_getitem.lookup ?_ (by with_unfolding_all rfl)
      refine wpAny_getItem_list_slice ht.isList (Heap.IsSliceOf.new ..) pl pu pk (by decide) ?_ (by rw [List.size_toArray] <;> omega)
      rw [PySem.W.krv_pick]
      refine ⟨.ref (s4.heap.push { cls := .type "slice", data := .fields #[vl, vu, vk] }).objs.size, _, I5.laid (t' := s4.toks) (o := .lst xs.reverse) (fun b ob q => Heap.get?_push_of_some _ q) (Nat.le_refl _) ?_, rfl, q _ (I5.hok.fresh (Nat.le_refl _))⟩
      exact ⟨by rw [List.length_reverse]; exact hz, its.reverse, 0, r.reverse, Heap.get?_push_size _ rfl⟩
    · obtain ⟨its, r, ht, hz⟩ := I5.tuple hx
      have hlen := r.length
      cases pl
      cases pu
      show wpAny (model X.prog X.w) X.A (subscriptTail e (.Slice none none (some (.UnaryOp .USub (.Constant (.int 1) j p3) p4)) p2) (.ref a) (.ref s4.heap.objs.size)) (EP X pins σ Q) X.xe { s4 with heap := s4.heap.push { cls := .type "slice", data := .fields #[.none, .none, vk] } }
      refine tail_any ht.typeIs PyProof.Rows.slot_tuple_getitem.lookup ?_ (by with_unfolding_all rfl)
      refine HT.getItem_tuple_rev ht (Heap.IsSliceOf.new ..) pk ?_ (by rw [List.size_toArray] <;> omega)
      refine ⟨.ref (s4.heap.push { cls := .type "slice", data := .fields #[.none, .none, vk] }).objs.size, _, I5.laid (t' := s4.toks) (o := .tup xs.reverse) (fun b ob q => Heap.get?_push_of_some _ q) (Nat.le_refl _) ?_, rfl, q _ (I5.hok.fresh (Nat.le_refl _))⟩
      exact ⟨by rw [List.length_reverse]; exact hz, its.reverse, r.reverse, IsTup.new _ _⟩
theorem pd_revX {e : Expr} {f : DE} {j : _} {p2 p3 p4 pos : Pos} (he : PD X Z N W e f) : PD X Z N W (.Subscript e (.Slice none none (some (.UnaryOp .USub (.Constant (.int 1) j p3) p4)) p2) pos) (dO1 D.revX f) :=
  pe_imp (pe_revA he) fun σ H Q ⟨G, ca, env, c, rs, h⟩ => by
    refine ⟨G, ca, env, c, rs, ?_⟩
    simp only [dO1] at h
    cases e1 : f env c with
    | st => rw [e1] at h; exact h
    | er x c1 => rw [e1] at h; exact h
    | ok x c1 =>
      rw [e1] at h
      simp only [R.bind] at h
      intro G1 ca1 H1 vx s1 r1 w1
      have ws := w1.read r1
      cases e2 : x.d with
      | lst xs =>
        rw [e2] at h ws
        obtain ⟨a, us, rfl, q1, q2, q3⟩ := ws.lst r1.r0
        refine ⟨a, us, rfl, .inl ⟨sql q1, fun q hq => ?_⟩⟩
        exact h _ _ _ _ (s1.trans (.newG r1.r0 hq)) (r1.step (.newG r1.r0 hq) (r1.r0.newG hq)) (.lst upd_same (q2.reverse.mono (same_upd (r1.r0.free hq)) fun _ h => h) (by rw [List.length_reverse]; exact q3))
      | tup xs =>
        rw [e2] at h ws
        obtain ⟨a, us, rfl, q1, q2, q3⟩ := ws.tup r1.r0
        refine ⟨a, us, rfl, .inr ⟨q1, fun q hq => ?_⟩⟩
        exact h _ _ _ _ (s1.trans (.newG r1.r0 hq)) (r1.step (.newG r1.r0 hq) (r1.r0.newG hq)) (.tup (.inl (.inl upd_same)) (q2.reverse.mono (same_upd (r1.r0.free hq)) fun _ h => h) (by rw [List.length_reverse]; exact q3))
      | _ => rw [e2] at h; exact h.elim
end
end DL

set_option Elab.async false
set_option linter.all false
set_option maxRecDepth 100000
set_option maxHeartbeats 4000000
set_option autoImplicit false
/-! ## list(range(..)), tuple(range(..)) -/
namespace DL
open PySem PySem.Spec PyProof.Rows L2
section
variable {X : Cx} {Z : Zp} {N : En} {W : WX}
theorem rng_wts {Y : Yp} {G : Hp} {ca : Option Addr} (lo : Int) : ∀ n k : Nat, Wts Y G ca ((List.range' k n).map fun i => V.int (lo + (i : Nat))) (rng (lo + k) n)
  | 0, _ => .nil
  | n + 1, k => by
    rw [List.range'_succ]
    refine .cons (.int _) ?_
    have := rng_wts (Y := Y) (G := G) (ca := ca) lo n (k + 1)
    rw [show lo + ((k + 1 : Nat) : Int) = lo + k + 1 by omega] at this
    exact this
theorem rgV_wts {Y : Yp} {G : Hp} {ca : Option Addr} (a b : Int) : Wts Y G ca (rgV a b) (rng a (b - a).toNat) := by
  have := rng_wts (Y := Y) (G := G) (ca := ca) a (b - a).toNat 0
  rw [show a + ((0 : Nat) : Int) = a by omega] at this
  unfold rgV
  rw [List.range_eq_range']
  exact this
theorem rgOk_of {a b : Int} (h1 : okR a = true) (h2 : okR b = true) (h3 : (b - a).toNat ≤ sizeL) : RgOk a b := by
  obtain ⟨a1, a2⟩ := okR_of h1
  obtain ⟨b1, b2⟩ := okR_of h2
  exact ⟨a1, a2, b1, b2, h3⟩
theorem kRng1_ok {x : RV} {c : C} (h : kRng1 x c ≠ .st) (h2 : ∀ y c', kRng1 x c ≠ .er y c') : ∃ j : Int, x.d = .int j ∧ RgOk 0 j ∧ j.toNat ≤ sizeL ∧ kRng1 x c = .ok (rng 0 j.toNat) c := by
  unfold kRng1 at h ⊢
  split at h
  · rename_i j e
    split at h
    · rename_i hj
      rw [Bool.and_eq_true] at hj
      have h3 := of_decide_eq_true hj.2
      exact ⟨j, e, rgOk_of (by decide) hj.1 (by rw [Int.sub_zero]; exact h3), h3, if_pos (by rw [Bool.and_eq_true]; exact hj)⟩
    · exact absurd rfl h
  · exact absurd rfl h
theorem kRng1_er {x : RV} {c : C} (y : Ex) (c' : C) : kRng1 x c ≠ .er y c' := by
  unfold kRng1
  split
  · split <;> exact fun z => by cases z
  · exact fun z => by cases z
theorem kRng2_ok {x y : RV} {c : C} (h : kRng2 x y c ≠ .st) (h2 : ∀ z c', kRng2 x y c ≠ .er z c') : ∃ i j : Int, x.d = .int i ∧ y.d = .int j ∧ RgOk i j ∧ (j - i).toNat ≤ sizeL ∧ kRng2 x y c = .ok (rng i (j - i).toNat) c := by
  unfold kRng2 at h ⊢
  split at h
  · rename_i i j e1 e2
    split at h
    · rename_i hj
      rw [Bool.and_eq_true, Bool.and_eq_true] at hj
      have h3 := of_decide_eq_true hj.2
      exact ⟨i, j, e1, e2, rgOk_of hj.1.1 hj.1.2 h3, h3, if_pos (by rw [Bool.and_eq_true, Bool.and_eq_true]; exact hj)⟩
    · exact absurd rfl h
  · exact absurd rfl h
theorem kRng2_er {x y : RV} {c : C} (z : Ex) (c' : C) : kRng2 x y c ≠ .er z c' := by
  unfold kRng2
  split
  · split <;> exact fun z => by cases z
  · exact fun z => by cases z
theorem pdo_listRng1 {a : Expr} {f : DE} {p p2 pos pos2 : Pos} (hc : X.calm = true) (hml : X.mg "list" = none) (hmr : X.mg "range" = none) (ha : PD X Z N W a f) (hgl : Gl X "list" := by rfl) (hgr : Gl X "range" := by rfl)
    (na : starEach [Expr.Call (.Name "range" p2) [a] [] pos2] X.env = (false, eval (Expr.Call (.Name "range" p2) [a] [] pos2) X.env) :: starEach [] X.env := by rfl) (na2 : starEach [a] X.env = (false, eval a X.env) :: starEach [] X.env := by rfl) :
    PDO X Z N W (.Call (.Name "list" p) [.Call (.Name "range" p2) [a] [] pos2] [] pos) (dListRng1 f) :=
  pe_imp (pe_listRg hc hgl hml (prg_1 hgr hmr ha na2) na) fun σ H Q ⟨G, ca, env, c, rs, h⟩ => by
    refine ⟨G, ca, env, c, rs, ?_⟩
    simp only [dListRng1] at h
    cases e1 : f env c with
    | st => rw [e1] at h; exact h
    | er x c1 => rw [e1] at h; exact h
    | ok x c1 =>
      rw [e1] at h
      intro G1 ca1 H1 vx s1 r1 w1
      simp only [DL.R.bind] at h
      obtain ⟨j, ej, ok, hl, e4⟩ := kRng1_ok (x := x) (c := c1) (fun e => by rw [e] at h; exact h) (fun y c' e => by rw [e] at h; exact absurd e (kRng1_er y c'))
      rw [e4] at h
      obtain ⟨ds, e3, h⟩ := h
      cases e3
      refine ⟨j, atom_int w1 ej, ok, fun q hq => ?_⟩
      exact h G1 ca1 _ q (rgV 0 j) (s1.trans (.new hq)) (r1.step (.new hq) (r1.r0.new hq)) (s1.dm q (.of hq)) upd_same (r1.r0.free hq) (r1.r0.ncup hq) (by have := rgV_wts (Y := yOf X Z) (G := G1) (ca := ca1) 0 j; rw [Int.sub_zero] at this; exact this) (by rw [rng_len]; exact hl)
theorem pdo_listRng2 {a b : Expr} {f g : DE} {p p2 pos pos2 : Pos} (hc : X.calm = true) (hml : X.mg "list" = none) (hmr : X.mg "range" = none) (ha : PD X Z N W a f) (hb : PD X Z N W b g) (hgl : Gl X "list" := by rfl) (hgr : Gl X "range" := by rfl)
    (na : starEach [Expr.Call (.Name "range" p2) [a, b] [] pos2] X.env = (false, eval (Expr.Call (.Name "range" p2) [a, b] [] pos2) X.env) :: starEach [] X.env := by rfl) (na2 : starEach [a, b] X.env = (false, eval a X.env) :: starEach [b] X.env := by rfl)
    (nb : starEach [b] X.env = (false, eval b X.env) :: starEach [] X.env := by rfl) (hp : (backTo pos2 (starEach [b] X.env)).any (·.1) = false := by rfl) :
    PDO X Z N W (.Call (.Name "list" p) [.Call (.Name "range" p2) [a, b] [] pos2] [] pos) (dListRng2 f g) :=
  pe_imp (pe_listRg hc hgl hml (prg_2 hgr hmr ha hb na2 nb hp) na) fun σ H Q ⟨G, ca, env, c, rs, h⟩ => by
    refine ⟨G, ca, env, c, rs, ?_⟩
    simp only [dListRng2] at h
    cases e1 : f env c with
    | st => rw [e1] at h; exact h
    | er x c1 => rw [e1] at h; exact h
    | ok x c1 =>
      rw [e1] at h
      intro G1 ca1 H1 vx s1 r1 w1
      simp only [DL.R.bind] at h
      refine ⟨G1, ca1, env, c1, r1, ?_⟩
      cases e2 : g env c1 with
      | st => rw [e2] at h; exact h
      | er x c1 => rw [e2] at h; exact h.back s1
      | ok y c2 =>
        rw [e2] at h
        intro G2 ca2 H2 vy s2 r2 w2
        simp only [] at h
        obtain ⟨i, j, ei, ej, ok, hl, e4⟩ := kRng2_ok (x := x) (y := y) (c := c2) (fun e => by rw [e] at h; exact h) (fun z c' e => by rw [e] at h; exact absurd e (kRng2_er z c'))
        rw [e4] at h
        obtain ⟨ds, e3, h⟩ := h
        cases e3
        refine ⟨i, j, atom_int w1 ei, atom_int w2 ej, ok, fun q hq => ?_⟩
        exact h G2 ca2 _ q (rgV i j) ((s1.trans s2).trans (.new hq)) (r2.step (.new hq) (r2.r0.new hq)) ((s1.trans s2).dm q (.of hq)) upd_same (r2.r0.free hq) (r2.r0.ncup hq) (rgV_wts i j) (by rw [rng_len]; exact hl)
theorem listRng1_lst {f : DE} (env : DL.Env) (c c' : C) (rv : RV) (h : dListRng1 f env c = .ok rv c') : ∃ ds, rv = .pl (.lst ds) := by
  simp only [dListRng1] at h
  cases e1 : f env c with
  | st => rw [e1] at h; cases h
  | er x c1 => rw [e1] at h; cases h
  | ok x c1 =>
    rw [e1] at h
    simp only [DL.R.bind] at h
    split at h <;> cases h
    exact ⟨_, rfl⟩
theorem listRng2_lst {f g : DE} (env : DL.Env) (c c' : C) (rv : RV) (h : dListRng2 f g env c = .ok rv c') : ∃ ds, rv = .pl (.lst ds) := by
  simp only [dListRng2] at h
  cases e1 : f env c with
  | st => rw [e1] at h; cases h
  | er x c1 => rw [e1] at h; cases h
  | ok x c1 =>
    rw [e1] at h
    simp only [DL.R.bind] at h
    cases e2 : g env c1 with
    | st => rw [e2] at h; cases h
    | er x c1 => rw [e2] at h; cases h
    | ok y c2 =>
      rw [e2] at h
      simp only [] at h
      split at h <;> cases h
      exact ⟨_, rfl⟩
theorem pd_listRng1 {a : Expr} {f : DE} {p p2 pos pos2 : Pos} (hc : X.calm = true) (hml : X.mg "list" = none) (hmr : X.mg "range" = none) (ha : PD X Z N W a f) (hgl : Gl X "list" := by rfl) (hgr : Gl X "range" := by rfl)
    (na : starEach [Expr.Call (.Name "range" p2) [a] [] pos2] X.env = (false, eval (Expr.Call (.Name "range" p2) [a] [] pos2) X.env) :: starEach [] X.env := by rfl) (na2 : starEach [a] X.env = (false, eval a X.env) :: starEach [] X.env := by rfl) :
    PD X Z N W (.Call (.Name "list" p) [.Call (.Name "range" p2) [a] [] pos2] [] pos) (dListRng1 f) := pdo_pd (pdo_listRng1 hc hml hmr ha hgl hgr na na2) listRng1_lst
theorem pd_listRng2 {a b : Expr} {f g : DE} {p p2 pos pos2 : Pos} (hc : X.calm = true) (hml : X.mg "list" = none) (hmr : X.mg "range" = none) (ha : PD X Z N W a f) (hb : PD X Z N W b g) (hgl : Gl X "list" := by rfl) (hgr : Gl X "range" := by rfl)
    (na : starEach [Expr.Call (.Name "range" p2) [a, b] [] pos2] X.env = (false, eval (Expr.Call (.Name "range" p2) [a, b] [] pos2) X.env) :: starEach [] X.env := by rfl) (na2 : starEach [a, b] X.env = (false, eval a X.env) :: starEach [b] X.env := by rfl)
    (nb : starEach [b] X.env = (false, eval b X.env) :: starEach [] X.env := by rfl) (hp : (backTo pos2 (starEach [b] X.env)).any (·.1) = false := by rfl) :
    PD X Z N W (.Call (.Name "list" p) [.Call (.Name "range" p2) [a, b] [] pos2] [] pos) (dListRng2 f g) := pdo_pd (pdo_listRng2 hc hml hmr ha hb hgl hgr na na2 nb hp) listRng2_lst
end
end DL

set_option Elab.async false
set_option linter.all false
set_option maxRecDepth 100000
set_option maxHeartbeats 4000000
set_option autoImplicit false
/-! ## sum of a tuple -/
namespace DL
open PySem PySem.Spec PyProof.Rows L2
section
variable {prog : Program} {w : World} {A : Around} {E : Value → Shared → Prop} {s : Shared} {l : Addr} {its : List Value} {ns : List Int} {Q : Value → Shared → Prop}
theorem sum_tup_raw (hh : A.handled = none) (ht : IsTup s.heap l its.toArray) (hi : IntsAre its ns)
    (h : ∀ h' tk t', (∀ b o, s.heap.get? b = some o → h'.get? b = some o) → Q (.int ns.sum t') { s with heap := h', toks := tk }) : wpAny (model prog w) A (call (.builtin "sum") [.ref l]) Q E s := by
  obtain ⟨xs, e⟩ := hi.allInts.items
  have hn : numsOf (intItems xs).toList = ns := by rw [← e]; exact hi.numsOf
  rw [nums_intItems] at hn
  rw [e] at ht
  have hlt : l < s.heap.objs.size := ht.lt
  refine call_sum_walkG (iter_tuple ht ?_)
  refine ⟨s.heap.objs.size, [s.heap.objs.size, l], [s.heap.objs.size], (intItems xs).size, _, _, numAt xs, rfl, Walks.tuple (A := A.in1) hh _ l (Nat.ne_of_lt hlt) (intItems xs), ⟨⟨_, Heap.get?_push_size _ rfl, rfl, rfl⟩, ht.push _⟩, fun b hb => ?_, (fun _ _ => intItems_at), fun h' tk t' hk => ?_⟩
  · show b < (s.heap.push _).objs.size
    rw [Heap.size_push]
    rcases List.mem_cons.mp hb with rfl | hb
    · exact Nat.lt_succ_self _
    · rcases List.mem_cons.mp hb with rfl | hb
      · exact Nat.lt_succ_of_lt hlt
      · cases hb
  · have := h h' tk t' fun b o hb => hk b o (fun hm => by
      rcases List.mem_cons.mp hm with rfl | hm
      · exact absurd (Heap.lt_size hb) (Nat.lt_irrefl _)
      · cases hm) (Heap.get?_push_of_some _ hb)
    have sz : (intItems xs).size = xs.size := by simp [intItems]
    rw [sz, preSum_eq, List.take_of_length_le (by simp), hn]
    exact this
end
section
variable {X : Cx} {Z : Zp}
theorem cr_sumT (hc : X.calm = true) : CallR X (.builtin "sum") (fun vs H Q => ∃ (a : Addr) (ns : List Int), vs = [V.ref a] ∧ SqT X.K H a (ns.map V.int) ∧ Q (.int ns.sum) H) := by
  intro pins s σ H vs us Q I r h
  obtain ⟨a, ns, rfl, hs, q⟩ := h
  obtain ⟨its, rv, ht, _⟩ := I.tuple hs
  rw [Vals.ref1 r]
  exact sum_tup_raw (I.ok.hd hc) ht rv.ints fun h' tk t' hk => ⟨.int _, H, I.kept hk, ⟨_, rfl⟩, q⟩
theorem cd_sumT (hc : X.calm = true) : CallD X Z (.builtin "sum") bSumT := ⟨_, cr_sumT hc, fun G ca H c xs ds d Q rs w0 e q => by
  unfold bSumT at e
  split at e <;> first | cases e | skip
  obtain ⟨x, rfl, w⟩ := arg1 w0
  obtain ⟨a, vs, rfl, h1, z1, hl⟩ := w.tup rs
  rw [Option.map_eq_some_iff] at e
  obtain ⟨ns, e1, rfl⟩ := e
  exact ⟨a, ns, rfl, by rw [← z1.ints e1]; exact h1, q.here rs (.int _)⟩⟩
theorem cd_sumA (hc : X.calm = true) : CallD X Z (.builtin "sum") bSumA := calld_or (cd_sum hc) (cd_sumT hc)
end
end DL

set_option Elab.async false
set_option linter.all false
set_option maxRecDepth 100000
set_option maxHeartbeats 4000000
set_option autoImplicit false
/-! ## a tuple that stands at the top of a module -/
namespace DL
open PySem PySem.Spec PyProof.Rows L2
def KTup (K : PySem.W.Frag) (mg : Str → Option Value) (x : Str) (vs : List V) : Prop :=
  ∃ (a : Addr) (o : Obj) (its : Array Value) (n : Nat), mg x = some (.ref a) ∧ K.lookup a = some o ∧ o.cls = .type "tuple" ∧ o.data = .seq its n ∧ its.size ≤ sizeLine ∧ Vals vs its.toList
theorem tup_small {its : Array Value} (h : its.size ≤ 1000) : its.size ≤ sizeLine := by rw [sizeLine_eq]; omega
section
variable {X : Cx} {Z : Zp} {N : En} {W : WX}
theorem pd_ktup {x : Str} {vs : List V} {ds : List D} {pos : Pos} (hg : Gl X x) (h : KTup X.K X.mg x vs) (w : ∀ G ca, Wts (yOf X Z) G ca vs ds) (hl : ds.length ≤ 1000) (hd : (x == ("__debug__" : Str)) = false) : PD X Z N W (.Name x pos) (dC (.tup ds)) := by
  obtain ⟨a, o, its, n, h1, h2, h3, h4, h5, h6⟩ := h
  exact pd_glob (v := .ref a) hg h1 rfl (fun G ca => .tup (.inr ⟨o, its, n, h2, h3, h4, h5, h6⟩) (w G ca) (Nat.le_trans hl (by unfold sizeL; omega))) hd
theorem cat_lst (x y d : D) (h : D.cat x y = some d) : ∃ ds, d = .lst ds := by
  unfold D.cat at h
  split at h
  · split at h <;> cases h
    exact ⟨_, rfl⟩
  · cases h
theorem rep_lst (x y d : D) (h : D.rep x y = some d) : ∃ ds, d = .lst ds := by
  unfold D.rep at h
  split at h
  · split at h <;> cases h
    exact ⟨_, rfl⟩
  · cases h
end
end DL

set_option Elab.async false
set_option linter.all false
set_option maxRecDepth 100000
set_option maxHeartbeats 4000000
set_option autoImplicit false
/-! ## tuple * n, n = 0, 1 and the empty tuple -/
namespace L2
open PySem PySem.Spec PyProof.Rows
theorem tuple_mulS (l : Addr) (items : Array Value) (n : Nat) (dd : Option Addr) (sl : Array (Option Value)) (x : Int) (u : Tok) (c0 : (decide (x < -(2 ^ 63)) || decide (x ≥ 2 ^ 63)) = false) (c1 : (items.isEmpty || x == 1) = true) :
    Meets (Builtin.«tuple.__mul__» ⟨[.ref l, .int x u], []⟩) (fun _ R s => s.heap.get? l = some { cls := .type "tuple", dict := dd, data := .seq items n, slots := sl } ∧
      R (.ok (.ret (Value.ref l))) s) :=
  .of_wp fun prog w A R s h => by
    obtain ⟨hp, g, d, tk, os⟩ := s
    obtain ⟨hl, h⟩ := h
    have f1 := AutoSeq1.idx_int
    wp_walk using wpAny_loadPart' hl
    refine wpAny_ite_false (decide_eq_false (by rw [c0]; exact Bool.false_ne_true)) ?_
    wp_walk using wpAny_loadPart' hl
    exact ⟨_, rfl, h⟩
theorem tuple_mul0 (l : Addr) (items : Array Value) (n : Nat) (dd : Option Addr) (sl : Array (Option Value)) (x : Int) (u : Tok) (c0 : (decide (x < -(2 ^ 63)) || decide (x ≥ 2 ^ 63)) = false) (c1 : (items.isEmpty || x == 1) = false) (c2 : (decide (x ≤ 0) || items.isEmpty) = true) :
    Meets (Builtin.«tuple.__mul__» ⟨[.ref l, .int x u], []⟩) (fun _ R s => s.heap.get? l = some { cls := .type "tuple", dict := dd, data := .seq items n, slots := sl } ∧
      R (.ok (.ret (Value.ref s.heap.objs.size))) { s with heap := s.heap.push { cls := Value.type "tuple", data := Data.seq #[] }, toks := s.toks }) :=
  .of_wp fun prog w A R s h => by
    obtain ⟨hp, g, d, tk, os⟩ := s
    obtain ⟨hl, h⟩ := h
    have f1 := AutoSeq1.idx_int
    wp_walk using wpAny_loadPart' hl
    repeat (first
      | (refine wpAny_ite_false (decide_eq_false (by rw [c0]; exact Bool.false_ne_true)) ?_; wp_walk using wpAny_loadPart' hl)
      | (refine wpAny_ite_false (decide_eq_false (by rw [c1]; exact Bool.false_ne_true)) ?_; wp_walk using wpAny_loadPart' hl))
    exact ⟨_, rfl, h⟩
def rRepS (K : PySem.W.Frag) : R2 := fun x y H Q => ∃ l k xs, x = .ref l ∧ y = .int k ∧ SqT K H l xs ∧ ((xs = [] ∧ -(2 ^ 63) ≤ k ∧ k < 2 ^ 63) ∨ k = 1) ∧ Q (.ref l) H
def rRep0 (K : PySem.W.Frag) : R2 := fun x y H Q => ∃ l k xs, x = .ref l ∧ y = .int k ∧ SqT K H l xs ∧ xs ≠ [] ∧ -(2 ^ 63) ≤ k ∧ k ≤ 0 ∧ ∀ p, H p = none → Q (.ref p) (upd H p (.tup []))
section
variable {X : Cx}
theorem op_repS : OpR X (binaryOp .Mult) (rRepS X.K) := by
  intro pins s σ H x y v u Q I rx ry h
  obtain ⟨l, k, xs, rfl, rfl, hT, hk, q⟩ := h
  cases rx
  obtain ⟨t, rfl⟩ := ry
  obtain ⟨its, r, ⟨⟨cls, dd, data, sl⟩, ho, hc, n, hd⟩, hs⟩ := I.tuple hT
  simp only at hc hd
  subst hc hd
  have c0 : (decide (k < -(2 ^ 63)) || decide (k ≥ 2 ^ 63)) = false := by
    rcases hk with hk | hk
    · rw [decide_eq_false (by omega), decide_eq_false (by omega)] <;> rfl
    · subst hk; decide
  have c1 : (its.toArray.isEmpty || k == 1) = true := by
    rcases hk with hk | hk
    · have hle : its.length = 0 := by rw [← r.length, hk.1]; rfl
      have : its = [] := List.eq_nil_of_length_eq_zero hle
      subst this
      rfl
    · subst hk; simp
  refine wpAny_binaryOp_repeat_ref (T := "tuple") (U := "int") (by decide) ⟨_, ho, rfl⟩ (fun s' => typeIs_int s' k t) noFill_tuple_mul F.fills_int_mul F.slot_int_rmul repeat_tuple F.slot_int_index.lookup
    (call_meets F.slot_int_rmul (typeIs_int s k t) F.entry_int_rmul (F.args_int_rmul_2 _ _) (int_rmul_tuple k t l its.toArray n dd sl)
      ⟨ho, rfl, ⟨_, ho, rfl⟩, call_meets F.slot_tuple_mul ⟨_, ho, rfl⟩ F.entry_tuple_mul (F.args_tuple_mul_2 _ _) (tuple_mulS l its.toArray n dd sl k t c0 c1) ⟨ho, ?_⟩⟩)
  exact ⟨.ref l, H, I, rfl, q⟩
theorem op_rep0 : OpR X (binaryOp .Mult) (rRep0 X.K) := by
  intro pins s σ H x y v u Q I rx ry h
  obtain ⟨l, k, xs, rfl, rfl, hT, hne, h1, h2, q⟩ := h
  cases rx
  obtain ⟨t, rfl⟩ := ry
  obtain ⟨its, r, ⟨⟨cls, dd, data, sl⟩, ho, hc, n, hd⟩, hs⟩ := I.tuple hT
  simp only at hc hd
  subst hc hd
  have c0 : (decide (k < -(2 ^ 63)) || decide (k ≥ 2 ^ 63)) = false := by rw [decide_eq_false (by omega), decide_eq_false (by omega)] <;> rfl
  have hn : its ≠ [] := fun e => hne (by
    subst e
    exact List.eq_nil_of_length_eq_zero r.length)
  have hi : its.toArray.isEmpty = false := by
    cases its with
    | nil => exact absurd rfl hn
    | cons a b => rfl
  have c1 : (its.toArray.isEmpty || k == 1) = false := by
    rw [hi, Bool.false_or]
    exact beq_eq_false_iff_ne.mpr (by omega)
  have c2 : (decide (k ≤ 0) || its.toArray.isEmpty) = true := by rw [decide_eq_true h2]; rfl
  refine wpAny_binaryOp_repeat_ref (T := "tuple") (U := "int") (by decide) ⟨_, ho, rfl⟩ (fun s' => typeIs_int s' k t) noFill_tuple_mul F.fills_int_mul F.slot_int_rmul repeat_tuple F.slot_int_index.lookup
    (call_meets F.slot_int_rmul (typeIs_int s k t) F.entry_int_rmul (F.args_int_rmul_2 _ _) (int_rmul_tuple k t l its.toArray n dd sl)
      ⟨ho, rfl, ⟨_, ho, rfl⟩, call_meets F.slot_tuple_mul ⟨_, ho, rfl⟩ F.entry_tuple_mul (F.args_tuple_mul_2 _ _) (tuple_mul0 l its.toArray n dd sl k t c0 c1 c2) ⟨ho, ?_⟩⟩)
  refine ⟨.ref s.heap.objs.size, _, I.laid (t' := s.toks) (o := .tup []) (fun b ob q => Heap.get?_push_of_some _ q) (Nat.le_refl _) ?_, rfl, q _ (I.hok.fresh (Nat.le_refl _))⟩
  exact ⟨Nat.zero_le _, _, .nil, IsTup.new _ _⟩
end
end L2
namespace DL
open PySem PySem.Spec PyProof.Rows L2
section
variable {X : Cx} {Z : Zp}
theorem od_repS : OpD X Z (binaryOp .Mult) D.repS := ⟨_, op_repS, fun G ca H c x y dx dy d Q rs w1 w2 e q => by
  cases dx <;> first | cases e | skip
  cases dy <;> first | cases e | skip
  rename_i xs k
  simp only [D.repS] at e
  split at e
  · rename_i hk
    cases e
    have t1 := w1.atom (fun _ e => by cases e)
    obtain ⟨a, vs, rfl, h1, z1, _⟩ := w1.tup rs
    refine ⟨a, k, vs, rfl, w2.int, h1, ?_, q.here rs t1⟩
    rcases hk with ⟨hn, hk⟩ | hk
    · refine .inl ⟨?_, hk⟩
      subst hn
      cases z1
      rfl
    · exact .inr hk
  · cases e⟩
theorem od_rep0 : OpD X Z (binaryOp .Mult) D.rep0 := ⟨_, op_rep0, fun G ca H c x y dx dy d Q rs w1 w2 e q => by
  cases dx <;> first | cases e | skip
  cases dy <;> first | cases e | skip
  rename_i xs k
  simp only [D.rep0] at e
  split at e
  · rename_i hk
    cases e
    obtain ⟨a, vs, rfl, h1, z1, _⟩ := w1.tup rs
    exact ⟨a, k, vs, rfl, w2.int, h1, fun z => by subst z; cases z1; exact hk.1 rfl, hk.2.1, hk.2.2, fun p hp => q.tup rs .nil (Nat.zero_le _) hp⟩
  · cases e⟩
theorem od_mulN : OpD X Z (binaryOp .Mult) D.mulN := opd_or od_mulA (opd_or od_repS od_rep0)
end
end DL

set_option Elab.async false
set_option linter.all false
set_option maxRecDepth 100000
set_option maxHeartbeats 4000000
set_option autoImplicit false
/-! ## len(set(x)) -/
namespace DL
open PySem PySem.Spec PyProof.Rows L2
theorem dedup_spec : ∀ ns : List Int, (dedupI ns).Nodup ∧ ∀ k, k ∈ dedupI ns ↔ k ∈ ns
  | [] => ⟨.nil, fun k => Iff.rfl⟩
  | n :: ns => by
    obtain ⟨h1, h2⟩ := dedup_spec ns
    have e : dedupI (n :: ns) = if (dedupI ns).contains n then dedupI ns else n :: dedupI ns := rfl
    rw [e]
    by_cases hc : (dedupI ns).contains n = true
    · rw [if_pos hc]
      refine ⟨h1, fun k => ?_⟩
      rw [h2, List.mem_cons]
      refine ⟨.inr, fun h => ?_⟩
      rcases h with rfl | h
      · exact (h2 k).mp (List.contains_iff_mem.mp hc)
      · exact h
    · rw [if_neg hc]
      refine ⟨List.nodup_cons.mpr ⟨fun h => hc (List.contains_iff_mem.mpr h), h1⟩, fun k => ?_⟩
      rw [List.mem_cons, List.mem_cons, h2]
theorem dedup_len {ks ns : List Int} (h : ks.Nodup) (m : ∀ k, k ∈ ks ↔ k ∈ ns) : ks.length = (dedupI ns).length := by
  obtain ⟨h1, h2⟩ := dedup_spec ns
  exact ((List.perm_ext_iff_of_nodup h h1).mpr fun k => (m k).trans (h2 k).symm).length_eq
theorem met_nodup (val : Nat → Int) : ∀ i, (firstMet val i).Nodup
  | 0 => by rw [firstMet_zero]; exact .nil
  | i + 1 => by
    have ih := met_nodup val i
    rw [firstMet_succ]
    unfold step_dedup
    by_cases h : (firstMet val i).any (· == val i) = true
    · rw [if_pos h]; exact ih
    · rw [if_neg h]
      refine List.nodup_append.mpr ⟨ih, by simp, fun a ha b hb e => ?_⟩
      rw [List.mem_singleton.mp hb] at e
      exact h (List.any_eq_true.mpr ⟨a, ha, by rw [e]; exact beq_self_eq_true _⟩)
theorem met_len (ns : List Int) : (firstMet (fun i => ns.getD i 0) ns.length).length = (dedupI ns).length := by
  refine dedup_len (met_nodup _ _) fun k => ?_
  have a := firstMet_any (fun i => ns.getD i 0) ns.length k
  have e : (List.range ns.length).map (fun i => ns.getD i 0) = ns := by
    refine List.ext_getElem (by simp) fun i h1 h2 => ?_
    simp [List.getElem?_eq_getElem h2]
  rw [e] at a
  have any_mem : ∀ xs : List Int, xs.any (· == k) = true ↔ k ∈ xs := fun xs => by
    rw [List.any_eq_true]
    exact ⟨fun ⟨x, h, e⟩ => by rw [← eq_of_beq e]; exact h, fun h => ⟨k, h, beq_self_eq_true _⟩⟩
  rw [← any_mem, a, any_mem]
section
variable {X : Cx} {Z : Zp} {N : En} {W : WX}
def tLenSetA (K : PySem.W.Frag) (ta : TE) : TE := fun σ H Q => ta σ H fun x H1 => ∃ (l : Addr) (ns : List Int), x = V.ref l ∧ (SqL K H1 l (ns.map V.int) ∨ SqT K H1 l (ns.map V.int)) ∧ ns.length ≤ 1000 ∧ Q (.int (dedupI ns).length) H1
theorem pe_lenSetA {a : Expr} {ta : TE} {p p2 q pos : Pos} (hc : X.calm = true) (hg : Gl X "len") (hm : X.mg "len" = none) (hg2 : Gl X "set") (hm2 : X.mg "set" = none) (ha : PE X a ta)
    (na : starEach [a] X.env = (false, eval a X.env) :: starEach [] X.env := by rfl) : PE X (.Call (.Name "len" p) [.Call (.Name "set" p2) [a] [] q] [] pos) (tLenSetA X.K ta) := by
  refine ⟨fun pins s σ H Q I h => ?_⟩
  refine Call_ (ld_blt I hg hm PySem.boot_len (callWith_builtin1 (args_cons ?_ rfl) rfl rfl))
  refine Call_ (ld_blt I hg2 hm2 boot_set (callWith_type1 (args_cons (thn (ha.run pins s σ H _ I h) fun v s1 ⟨x, H1, I1, r1, q1⟩ => args_nil ?_) na) na rfl))
  obtain ⟨l, ns, rfl, hq, hz, q1⟩ := q1
  cases r1
  rcases hq with hq | hq
  · obtain ⟨its, r, pl, _⟩ := I1.list hq
    have hl : its.toArray.size = ns.length := by rw [List.size_toArray, ← r.length, List.length_map]
    refine call_set_list (I1.ok.hd hc) pl.isList (ns := ns) (by simpa using r.ints) (by rw [hl]; unfold scanBound; omega) fun h' tk hS hk => ?_
    rw [hl, met_len] at hS
    obtain ⟨o, es, ep, t, ho, hex, hd, _, _, _, hf, hn⟩ := hS
    have I2 : Inv X pins σ H1 { s1 with heap := h', toks := tk } := I1.kept fun b o e => hk b o (Heap.lt_size e) e
    have dl : (dedupI ns).length ≤ 1000 := by
      have := firstMet_length_le (fun i => ns.getD i 0) ns.length
      rw [met_len] at this
      omega
    exact args_nil (call_len_set ho hex hd hf (by rw [hn]; omega) ⟨.int (dedupI ns).length, H1, I2.tok _, ⟨_, by rw [hn]⟩, q1⟩)
  · obtain ⟨its, r, pl, _⟩ := I1.tuple hq
    refine call_set_tupI ns (I1.ok.hd hc) pl (by simpa using r.ints) (by unfold scanBound; omega) fun h' tk c hS hc1 hk => ?_
    obtain ⟨o, es, ep, t, ho, hex, hd, _, nd, mm, _, hf, hn, _⟩ := hS
    have I2 : Inv X pins σ H1 { s1 with heap := h', toks := tk } := I1.kept fun b o e => hk b o e
    have el : es.size = (dedupI ns).length := by
      have := dedup_len nd fun k => (mm k).symm.trans (by rw [decide_eq_true_eq])
      rw [List.length_map, Array.length_toList] at this
      exact this
    exact args_nil (call_len_set ho hex hd hf (by omega) ⟨.int (dedupI ns).length, H1, I2.tok _, ⟨_, by rw [el]⟩, q1⟩)
theorem pd_lenSet {a : Expr} {f : DE} {p p2 q pos : Pos} (hc : X.calm = true) (hm : X.mg "len" = none) (hm2 : X.mg "set" = none) (ha : PD X Z N W a f) (hg : Gl X "len" := by rfl) (hg2 : Gl X "set" := by rfl)
    (na : starEach [a] X.env = (false, eval a X.env) :: starEach [] X.env := by rfl) : PD X Z N W (.Call (.Name "len" p) [.Call (.Name "set" p2) [a] [] q] [] pos) (dO1 D.lenSet f) :=
  pe_imp (pe_lenSetA hc hg hm hg2 hm2 ha na) fun σ H Q ⟨G, ca, env, c, rs, h⟩ => by
    refine ⟨G, ca, env, c, rs, ?_⟩
    simp only [dO1] at h
    cases e1 : f env c with
    | st => rw [e1] at h; exact h
    | er x c1 => rw [e1] at h; exact h
    | ok x c1 =>
      rw [e1] at h
      simp only [DL.R.bind] at h
      intro G1 ca1 H1 vx s1 r1 w1
      cases e2 : x.d with
      | lst xs =>
        rw [e2] at h
        have ws := w1.read r1
        rw [e2] at ws
        obtain ⟨a, us, rfl, q1, q2, q3⟩ := ws.lst r1.r0
        cases e3 : DL.intsOf xs with
        | none => simp only [D.lenSet, e3] at h; exact h.elim
        | some ns =>
          simp only [D.lenSet, e3, Option.bind_some] at h
          by_cases hl : ns.length ≤ 1000
          · rw [if_pos hl] at h
            exact ⟨a, ns, rfl, .inl (by rw [← q2.ints e3]; exact sql q1), hl, h G1 ca1 H1 _ s1 r1 (.int _)⟩
          · rw [if_neg hl] at h; exact h.elim
      | tup xs =>
        rw [e2] at h
        have ws := w1.read r1
        rw [e2] at ws
        obtain ⟨a, us, rfl, q1, q2, q3⟩ := ws.tup r1.r0
        cases e3 : DL.intsOf xs with
        | none => simp only [D.lenSet, e3] at h; exact h.elim
        | some ns =>
          simp only [D.lenSet, e3, Option.bind_some] at h
          by_cases hl : ns.length ≤ 1000
          · rw [if_pos hl] at h
            exact ⟨a, ns, rfl, .inr (by rw [← q2.ints e3]; exact q1), hl, h G1 ca1 H1 _ s1 r1 (.int _)⟩
          · rw [if_neg hl] at h; exact h.elim
      | _ => rw [e2] at h; exact h.elim
end
end DL

set_option Elab.async false
set_option linter.all false
set_option maxRecDepth 100000
set_option maxHeartbeats 4000000
set_option autoImplicit false
/-! ## a[i], b = x, y -/
namespace DL
open PySem PySem.Spec PyProof.Rows L2
def gXo (Y : Yp) (N : En) (G : Hp) (ca : Option Addr) (Q : L2.St → Hp → Prop) : F → Prop
  | .nx env c => ∀ G' ca' σ' H', RS Y N G' ca' σ' H' env c → Gr G ca G' ca' → Q σ' H'
  | _ => False
theorem gXo.up {Y : Yp} {N : En} {G G' : Hp} {ca ca' : Option Addr} {Q : L2.St → Hp → Prop} {f : F} (h : gXo Y N G ca Q f) (g : Gr G ca G' ca') : gXo Y N G' ca' Q f := by
  cases f with
  | nx env c => exact fun G2 ca2 σ H r q => h G2 ca2 σ H r (g.trans q)
  | _ => exact h
def gX (Y : Yp) (N : En) (t : MT) : L2.TG := fun v σ H Q => ∃ G ca env c d, RS Y N G ca σ H env c ∧ Wt Y G ca v d ∧ gXo Y N G ca Q (t d env c)
def gXs (Y : Yp) (N : En) (ts : List MT) : L2.TGs := fun vs σ H Q => ∃ G ca env c ds, RS Y N G ca σ H env c ∧ Wts Y G ca vs ds ∧ gXo Y N G ca Q (mtAll ts ds env c)
section
variable {X : Cx} {Z : Zp} {N : En} {W : WX}
abbrev PGX (X : Cx) (Z : Zp) (N : En) (tg : Expr) (t : MT) : Prop := PG X tg (gX (yOf X Z) N t)
abbrev PGXs (X : Cx) (Z : Zp) (N : En) (tgs : List Expr) (ts : List MT) : Prop := PGs X tgs (gXs (yOf X Z) N ts)
theorem pgx_name {i : Nat} {x : Str} {pos : Pos} (hN : X.N.Nodup) (hi : X.N[i]? = some x) (hx : Loc X.env.scope x) (hf : X.fn x = true ∨ X.env.scope.names.lookup x = some .local := by first | exact .inl rfl | exact .inr rfl | assumption) : PGX X Z N (.Name x pos) (mtN i) :=
  pg_imp (pg_name hN hi hx hf) fun v σ H Q ⟨G, ca, env, c, d, r, w, k⟩ => k G ca _ H (r.set w) .refl
theorem pgx_put {i : Nat} {x : Str} {k : Expr} {fk : DE} {p tpos : Pos} (hN : X.N[i]? = some x) (hv : Vis X.env.scope x) (hd : (x == ("__debug__" : Str)) = false) (hcd : (x == ("__classdict__" : Str)) = false) (hk : PD X Z N W0 k fk)
    (hh : ∀ v, assign (.Subscript (.Name x p) k tpos) X.env v = (do
      let ov ← holding [v] (eval (.Name x p) X.env)
      let iv ← holding [v, ov] (eval k X.env)
      standAt tpos
      holding [v, ov, iv] (setItem ov iv v)
      release [v, ov, iv] []) := by intro _; rfl) : PGX X Z N (.Subscript (.Name x p) k tpos) (mtP i fk) :=
  pg_imp (pg_sub (pe_var hN hv hd hcd) hk set_list hh) fun v σ H Q ⟨G, ca, env, c, d, rs, w, q⟩ => by
    simp only [mtP, sPut] at q
    cases e1 : env[i]? with
    | none => rw [e1] at q; exact q.elim
    | some sl =>
      rw [e1] at q
      cases sl with
      | own xs =>
        dsimp only at q
        have q : gXo (yOf X Z) N G ca Q (F.of (fk env c) env fun j c => kPut i env xs (.pl d) j c) := q
        obtain ⟨a, us, e2, e3, _⟩ := rs.own i xs e1
        refine ⟨.ref a, e2, G, ca, env, c, rs, ?_⟩
        cases e5 : fk env c with
        | st => rw [e5] at q; exact q
        | er z c1 => rw [e5] at q; exact q.elim
        | ok rj c2 =>
          rw [e5] at q
          intro G2 ca2 H2 vj s2 r2 w2
          have q : gXo (yOf X Z) N G2 ca2 Q (kPut i env xs (.pl d) rj c2) := gXo.up q s2.gr
          simp only [kPut] at q
          cases e6 : rj.d with
          | int j =>
            rw [e6] at q
            dsimp only at q
            cases e7 : ixD xs.length j with
            | none => rw [e7] at q; exact q.elim
            | some m =>
              rw [e7] at q
              obtain ⟨b, us2, f1, f2, f3, f4, f5, f6, f7⟩ := r2.own i xs e1
              rw [e2] at f1
              cases f1
              refine ⟨a, us2, j, m, rfl, atom_int w2 e6, f2, ?_, ?_⟩
              · rw [f3.length]; exact e7
              · exact q G2 ca2 σ _ (r2.put e1 e2 f2 (f3.set (Wt.mono s2.le s2.cl w) m) (by rw [List.length_set]; exact f7)) .refl
          | _ => rw [e6] at q; exact q.elim
      | _ => exact q.elim
theorem pgxs_nil : PGXs X Z N [] [] :=
  pgs_imp pgs_nil fun v σ H Q ⟨G, ca, env, c, ds, r, w, k⟩ => by
    cases ds with
    | nil => cases w; exact ⟨rfl, k G ca σ H r .refl⟩
    | cons d ds => exact k.elim
theorem pgxs_cons {e : Expr} {es : List Expr} {t : MT} {ts : List MT} (h1 : PGX X Z N e t) (h2 : PGXs X Z N es ts) (hs : (assignEach (e :: es) X.env).map (·.2) = assign e X.env :: (assignEach es X.env).map (·.2) := by rfl) : PGXs X Z N (e :: es) (t :: ts) :=
  pgs_imp (pgs_cons h1 h2 hs) fun v σ H Q ⟨G, ca, env, c, ds, r, w, k⟩ => by
    cases w with
    | nil => exact k.elim
    | @cons v vs d ds w ws =>
      simp only [mtAll] at k
      refine ⟨v, vs, rfl, G, ca, env, c, d, r, w, ?_⟩
      cases e1 : t d env c with
      | nx env1 c1 =>
        rw [e1] at k
        exact fun G1 ca1 σ1 H1 r1 g1 => ⟨G1, ca1, env1, c1, ds, r1, Wts.mono g1.1 g1.2 ws, gXo.up k g1⟩
      | _ => rw [e1] at k; exact k.elim
theorem mtAll_len : ∀ {ts : List MT} {ds : List D} {env env' : DL.Env} {c c' : C}, mtAll ts ds env c = .nx env' c' → ds.length = ts.length
  | [], [], _, _, _, _, _ => rfl
  | [], _ :: _, _, _, _, _, h => by cases h
  | _ :: _, [], _, _, _, _, h => by cases h
  | t :: ts, d :: ds, env, env', c, c', h => by
    simp only [mtAll] at h
    cases e : t d env c with
    | nx env1 c1 => rw [e] at h; exact congrArg (· + 1) (mtAll_len h)
    | _ => rw [e] at h; cases h
theorem pgx_tup {es : List Expr} {k : Nat} {ts : List MT} {pos : Pos} (hc : X.calm = true) (h : PGXs X Z N es ts) (hl : ts.length = es.length)
    (hn : (assignEach es X.env).length = es.length := by rfl) (hst : (assignEach es X.env).findIdx? (·.1) = none := by rfl) : PGX X Z N (.Tuple es k pos) (mtT ts) :=
  pg_imp (pg_tup hc h hn hst) fun v σ H Q ⟨G, ca, env, c, d, r, w, q⟩ => by
    cases d with
    | tup ds =>
      cases w with
      | tup hs w l =>
        have q : gXo (yOf X Z) N G ca Q (mtAll ts ds env c) := q
        refine ⟨_, _, rfl, sqT_mono r.r0.le hs, ?_, G, ca, env, c, ds, r, w, q⟩
        cases e : mtAll ts ds env c with
        | nx env' c' => rw [w.length, mtAll_len e, hl]
        | _ => rw [e] at q; exact q.elim
    | _ => exact q.elim
theorem psd_multi {tg e : Expr} {f : DE} {t : MT} {pos : Pos} (he : PD X Z N W e f) (hg : PGX X Z N tg t) (hs : swapsWithSole [tg] e pos.line X.env = pure false := by rfl) (hw : swappedStores [tg] e X.env = pure none := by rfl)
    (h1 : (assignEach [tg] X.env).map (·.2) = [assign tg X.env] := by rfl) : PSD X Z N W (.Assign [tg] e pos) (sMulti t f) :=
  ps_imp (ps_asg he hg hs hw h1) fun D σ H h => tds h fun rv c G ca H v env rs w q => by
    cases rv with
    | ow j xs => exact q.elim
    | pl d =>
      refine ⟨G, ca, env, c, d, rs, w, ?_⟩
      dsimp only at q
      cases e1 : t d env c with
      | nx env' c' =>
        rw [e1] at q
        exact fun G1 ca1 σ1 H1 r1 g1 => q G1 ca1 σ1 H1 r1 g1
      | _ => rw [e1] at q; exact q.elim
end
end DL

set_option Elab.async false
set_option linter.all false
set_option maxRecDepth 100000
set_option maxHeartbeats 4000000
set_option autoImplicit false
/-! ## xs.index(k) -/
namespace DL
open PySem PySem.Spec PyProof.Rows L2
section
variable {X : Cx} {Z : Zp} {N : En} {W : WX}
theorem flat_ints (ns : List Int) : (ns.map V.int).all flatV = true := List.all_eq_true.mpr fun x hx => by
  obtain ⟨i, _, rfl⟩ := List.mem_map.mp hx
  rfl
theorem eqV_int (a b : Int) : eqV (.int a) (.int b) = (a == b) := rfl
theorem pd_index {e k : Expr} {f fk : DE} {apos cpos : Pos} (he : PD X Z N W e f) (hk : PD X Z N W k fk)
    (hbase : attributeBase e "index" X.env (eval e X.env) = eval e X.env := by rfl)
    (hfew : ((backTo cpos (starEach [k] X.env)).all (fun x => !x.1) && (backToKw cpos (keywordEach [] X.env)).all (fun x => x.1.isSome)
      && decide ([k].length + ([] : List Keyword).length + (if ([] : List Keyword).isEmpty then 0 else 1) < 30)) = true := by rfl)
    (hline : (apos.endLine == cpos.line) = true := by rfl) (hs : starEach [k] X.env = (false, eval k X.env) :: starEach [] X.env := by rfl) (hplain : (backTo cpos (starEach [] X.env)).any (·.1) = false := by rfl) :
    PD X Z N W (.Call (.Attribute e "index" apos) [k] [] cpos) (dIndex f fk) :=
  pe_imp (pe_bm PySem.F.plainAttrs_list PySem.F.slot_list_index PySem.F.type_list_index mt_index he (pda_cons hk pda_nil hs) hbase hfew hline hs hplain) fun σ H Q ⟨G, ca, env, c, rs, h⟩ => by
    refine ⟨G, ca, env, c, rs, ?_⟩
    simp only [dIndex] at h
    cases e1 : f env c with
    | st => rw [e1] at h; exact h
    | er x c1 => rw [e1] at h; exact h
    | ok x c1 =>
      rw [e1] at h
      simp only [DL.R.bind] at h
      intro G1 ca1 H1 vx s1 r1 w1
      cases e2 : x.d with
      | lst xs =>
        rw [e2] at h
        dsimp only at h
        have ws := w1.read r1
        rw [e2] at ws
        obtain ⟨a, us, rfl, q1, q2, q3⟩ := ws.lst r1.r0
        refine ⟨.inl ⟨rfl, us, sql q1⟩, G1, ca1, env, c1, r1, ?_⟩
        simp only [dArgs]
        cases e3 : fk env c1 with
        | st => rw [e3] at h; exact h
        | er z c2 => rw [e3] at h; exact h.back s1
        | ok y c2 =>
          rw [e3] at h
          simp only [DL.R.bind] at h
          intro G2 ca2 H2 vs s2 r2 w2
          obtain ⟨v, rfl, wk⟩ := Paired.one w2
          have w1' := w1.step s2
          have ws := w1'.read r2
          rw [e2] at ws
          obtain ⟨a', us', e4, q1, q2, q3⟩ := ws.lst r2.r0
          cases e4
          cases e5 : y.d with
          | int j =>
            rw [e5] at h
            have ev := atom_int wk e5
            subst ev
            cases e6 : DL.intsOf xs with
            | none => simp only [D.index, e6] at h; exact h.elim
            | some ns =>
              simp only [D.index, e6, Option.bind_some] at h
              by_cases hj : j ∈ ns
              · rw [if_pos hj] at h
                have hz := List.idxOf_lt_length_of_mem hj
                refine ⟨a, ns.map V.int, .int j, ns.idxOf j, .int j, rfl, rfl, by rw [← q2.ints e6]; exact sql q1, rfl, flat_ints ns, ?_, by rw [eqV_int]; exact beq_self_eq_true j, fun m z' hm hz' => ?_, h G2 ca2 H2 _ (s1.trans s2) r2 (.int _)⟩
                · rw [List.getElem?_map, List.getElem?_eq_getElem hz, List.getElem_idxOf hz]
                  rfl
                · rw [List.getElem?_map] at hz'
                  have hml : m < ns.length := by omega
                  rw [List.getElem?_eq_getElem hml] at hz'
                  cases hz'
                  rw [eqV_int]
                  have := List.not_of_lt_findIdx (p := (· == j)) (xs := ns) (i := m) hm
                  simpa using this
              · rw [if_neg hj] at h; exact h.elim
          | _ => rw [e5] at h; simp only [D.index] at h; exact h.elim
      | _ => rw [e2] at h; exact h.elim
end
end DL

set_option Elab.async false
set_option linter.all false
set_option maxRecDepth 100000
set_option maxHeartbeats 4000000
set_option autoImplicit false
/-! ## sorted of a list of pairs of whole numbers -/
namespace DL
open PySem PySem.Spec PyProof.Rows L2
def LexLe (p q : Int × Int) : Prop := p.1 < q.1 ∨ (p.1 = q.1 ∧ p.2 ≤ q.2)
theorem lexLe_iff {p q : Int × Int} : lexLe p q = true ↔ LexLe p q := by
  unfold lexLe LexLe
  simp only [Bool.or_eq_true, Bool.and_eq_true, decide_eq_true_eq]
theorem insP_perm (x : Int × Int) : ∀ ys, (insP x ys).Perm (x :: ys)
  | [] => .refl _
  | y :: ys => by
    unfold insP
    split
    · exact .refl _
    · exact ((insP_perm x ys).cons y).trans (.swap x y ys)
theorem isortP_perm : ∀ xs, (isortP xs).Perm xs
  | [] => .refl _
  | x :: xs => (insP_perm x (isortP xs)).trans ((isortP_perm xs).cons x)
theorem lexLe_trans {p q r : Int × Int} (h1 : LexLe p q) (h2 : LexLe q r) : LexLe p r := by
  unfold LexLe at *
  omega
theorem insP_sorted (x : Int × Int) : ∀ ys, ys.Pairwise LexLe → (insP x ys).Pairwise LexLe
  | [], _ => by simp [insP]
  | y :: ys, h => by
    unfold insP
    obtain ⟨h1, h2⟩ := List.pairwise_cons.mp h
    by_cases hx : lexLe x y = true
    · rw [if_pos hx]
      have hx := lexLe_iff.mp hx
      refine List.pairwise_cons.mpr ⟨fun z hz => ?_, h⟩
      rcases List.mem_cons.mp hz with rfl | hz
      · exact hx
      · exact lexLe_trans hx (h1 z hz)
    · rw [if_neg hx]
      have hx : ¬ LexLe x y := fun z => hx (lexLe_iff.mpr z)
      refine List.pairwise_cons.mpr ⟨fun z hz => ?_, insP_sorted x ys h2⟩
      rcases List.mem_cons.mp ((insP_perm x ys).mem_iff.mp hz) with rfl | hz
      · unfold LexLe at *
        omega
      · exact h1 z hz
theorem isortP_sorted : ∀ xs, (isortP xs).Pairwise LexLe
  | [] => .nil
  | x :: xs => insP_sorted x _ (isortP_sorted xs)
theorem sortedP_unique : ∀ {xs ys : List (Int × Int)}, xs.Pairwise LexLe → ys.Pairwise LexLe → xs.Perm ys → xs = ys
  | [], ys, _, _, p => (List.Perm.nil_eq p)
  | x :: xs, [], _, _, p => by
    have := p.length_eq
    simp at this
  | x :: xs, y :: ys, h1, h2, p => by
    obtain ⟨a1, a2⟩ := List.pairwise_cons.mp h1
    obtain ⟨b1, b2⟩ := List.pairwise_cons.mp h2
    have e : x = y := by
      have m1 : x ∈ y :: ys := p.mem_iff.mp List.mem_cons_self
      have m2 : y ∈ x :: xs := p.mem_iff.mpr List.mem_cons_self
      have l1 : LexLe y x := by
        rcases List.mem_cons.mp m1 with h | h
        · rw [h]; exact .inr ⟨rfl, Int.le_refl _⟩
        · exact b1 x h
      have l2 : LexLe x y := by
        rcases List.mem_cons.mp m2 with h | h
        · rw [h]; exact .inr ⟨rfl, Int.le_refl _⟩
        · exact a1 y h
      unfold LexLe at l1 l2
      exact Prod.ext (by omega) (by omega)
    subst e
    rw [sortedP_unique a2 b2 (List.perm_cons x |>.mp p)]
def rSortedPT (K : PySem.W.Frag) : List V → Hp → VK → Prop := fun vs H Q => ∃ (a : Addr) (xs : List V) (ps : List (Int × Int)), vs = [V.ref a] ∧ SqL K H a xs ∧ xs.length = ps.length ∧ (∀ z ∈ xs.zip ps, ∃ t, z.1 = V.ref t ∧ SqT K H t [.int z.2.1, .int z.2.2]) ∧
  ∀ (ys : List V) (qs : List (Int × Int)) p, ys.length = qs.length → (∀ z ∈ ys.zip qs, z ∈ xs.zip ps) → qs.Pairwise LexLe → qs.Perm ps → H p = none → Q (.ref p) (upd H p (.lst ys))
theorem zip_map_k {α β : Type} (k : α → β) : ∀ (ys : List α) (z : α × β), z ∈ ys.zip (ys.map k) → z.1 ∈ ys ∧ z.2 = k z.1
  | [], z, h => by cases h
  | y :: ys, z, h => by
    rw [List.map_cons, List.zip_cons_cons] at h
    rcases List.mem_cons.mp h with rfl | h
    · exact ⟨List.mem_cons_self .., rfl⟩
    · obtain ⟨h1, h2⟩ := zip_map_k k ys z h
      exact ⟨List.mem_cons_of_mem _ h1, h2⟩
theorem map_k_zip {α β : Type} (k : α → β) : ∀ (xs : List α) (ps : List β), xs.length = ps.length → (∀ z ∈ xs.zip ps, k z.1 = z.2) → xs.map k = ps
  | [], [], _, _ => rfl
  | [], _ :: _, h, _ => by cases h
  | _ :: _, [], h, _ => by cases h
  | x :: xs, p :: ps, h, hz => by
    rw [List.map_cons, hz (x, p) (by rw [List.zip_cons_cons]; exact List.mem_cons_self ..), map_k_zip k xs ps (by simpa using h) fun z m => hz z (by rw [List.zip_cons_cons]; exact List.mem_cons_of_mem _ m)]
theorem zip_fst {α β : Type} : ∀ (xs : List α) (ps : List β), xs.length = ps.length → ∀ x ∈ xs, ∃ p, (x, p) ∈ xs.zip ps
  | [], _, _, _, h => by cases h
  | _ :: _, [], h, _, _ => by cases h
  | x :: xs, p :: ps, h, y, hy => by
    rcases List.mem_cons.mp hy with rfl | hy
    · exact ⟨p, by rw [List.zip_cons_cons]; exact List.mem_cons_self ..⟩
    · obtain ⟨q, hq⟩ := zip_fst xs ps (by simpa using h) y hy
      exact ⟨q, by rw [List.zip_cons_cons]; exact List.mem_cons_of_mem _ hq⟩
section
variable {X : Cx}
open Classical in
theorem cr_sortedPT : CallR X (.builtin "sorted") (rSortedPT X.K) := by
  intro pins s σ H vs us Q I r h
  obtain ⟨a, xs, ps, rfl, hs, hlen, hx, q⟩ := h
  obtain ⟨its, rv, hl, hz⟩ := I.list hs
  obtain ⟨u, rfl, ru⟩ := vals1 r
  obtain rfl : u = Value.ref a := ru
  let k : V → Int × Int := fun v => if h : ∃ p : Int × Int, ∃ t, v = V.ref t ∧ SqT X.K H t [.int p.1, .int p.2] then h.choose else (0, 0)
  have kz : ∀ z ∈ xs.zip ps, k z.1 = z.2 := fun z hz => by
    obtain ⟨t, e, ht⟩ := hx z hz
    have ex : ∃ p : Int × Int, ∃ t, z.1 = V.ref t ∧ SqT X.K H t [.int p.1, .int p.2] := ⟨z.2, t, e, ht⟩
    show (if h : ∃ p : Int × Int, ∃ t, z.1 = V.ref t ∧ SqT X.K H t [.int p.1, .int p.2] then h.choose else (0, 0)) = z.2
    rw [dif_pos ex]
    obtain ⟨t2, e2, h2⟩ := ex.choose_spec
    rw [e] at e2
    cases e2
    have := I.tuple_inj h2 ht
    injection this with i1 i2
    injection i2 with i2 i3
    injection i1 with i1
    injection i2 with i2
    exact Prod.ext i1 i2
  have kp : xs.map k = ps := map_k_zip k xs ps hlen kz
  obtain ⟨e1, e2⟩ := refs_back rv fun x m => by
    obtain ⟨p, hp⟩ := zip_fst xs ps hlen x m
    obtain ⟨t, e, _⟩ := hx _ hp
    exact ⟨t, e⟩
  refine SrtO.sorted_pairsO (k := fun u => k (backV u)) hl.isList (by rw [← rv.length]; exact hz) (fun v hv => ?_) fun h' d out h1 h2 kk hd hn => ?_
  · obtain ⟨t, rfl⟩ := e2 v hv
    have hm : V.ref t ∈ xs := by rw [e1]; exact List.mem_map.mpr ⟨_, hv, rfl⟩
    obtain ⟨p, hp⟩ := zip_fst xs ps hlen _ hm
    obtain ⟨t', e, ht⟩ := hx _ hp
    cases e
    have kv := kz _ hp
    obtain ⟨its2, r2, ht2, _⟩ := I.tuple ht
    obtain ⟨u1, u2, rfl, ri, rj⟩ := vals2 r2
    obtain ⟨t1, rfl⟩ := ri
    obtain ⟨t2, rfl⟩ := rj
    have kv' : k (backV (Value.ref t)) = p := kv
    obtain ⟨o, ho, hc, n, hd⟩ := ht2
    refine ⟨t, o, t1, t2, n, rfl, ho, hc, ?_⟩
    show o.data = .seq #[.int (k (backV (Value.ref t))).1 t1, .int (k (backV (Value.ref t))).2 t2] n
    rw [kv']
    exact hd
  · have h3 : ∀ u ∈ out, ∃ a, u = Value.ref a := fun u hu => e2 u (h2.perm.mem_iff.mp hu)
    obtain ⟨n, hn⟩ := hn
    have hb : (out.map backV).Perm xs := by
      rw [e1]
      exact h2.perm.map backV
    refine ⟨.ref d, upd H d (.lst (out.map backV)), I.laid (t' := s.toks) kk hd ⟨?_, out, n, vals_back h3, hn⟩, rfl, q (out.map backV) ((out.map backV).map k) d (by simp) (fun z hz => ?_) ?_ ?_ (I.hok.fresh hd)⟩
    · rw [hb.length_eq]
      exact hz
    · obtain ⟨g1, g2⟩ := zip_map_k k _ z hz
      obtain ⟨p, hp⟩ := zip_fst xs ps hlen z.1 (hb.mem_iff.mp g1)
      have := kz _ hp
      have e : z = (z.1, p) := Prod.ext rfl (g2.trans this)
      rw [e]
      exact hp
    · rw [List.map_map, List.pairwise_map]
      refine h1.imp fun {u v} huv => ?_
      have := SrtO.lexB_no.mp huv
      show LexLe (k (backV u)) (k (backV v))
      unfold LexLe
      omega
    · rw [← kp]
      exact hb.map k
end
theorem prD_some {d : D} {p : Int × Int} (h : prD d = some p) : d = .tup [.int p.1, .int p.2] := by
  unfold prD at h
  split at h
  · cases h
    rfl
  · cases h
theorem Wts.zipP {Y : Yp} {G : Hp} {ca : Option Addr} : ∀ {vs : List V} {ds : List D} {ps : List (Int × Int)}, Wts Y G ca vs ds → pairsOf ds = some ps → vs.length = ps.length ∧ ∀ z ∈ vs.zip ps, Wt Y G ca z.1 (.tup [.int z.2.1, .int z.2.2])
  | [], [], ps, .nil, h => by
    have h : some [] = some ps := h
    cases h
    exact ⟨rfl, fun _ h => by cases h⟩
  | v :: vs, d :: ds, ps, .cons w ws, h => by
    have h : (prD d).bind (fun p => (pairsOf ds).map (p :: ·)) = some ps := h
    cases e1 : prD d with
    | none => rw [e1] at h; cases h
    | some p =>
      rw [e1] at h
      have h : (pairsOf ds).map (p :: ·) = some ps := h
      cases e2 : pairsOf ds with
      | none => rw [e2] at h; cases h
      | some qs =>
        rw [e2] at h
        have h : some (p :: qs) = some ps := h
        cases h
        obtain ⟨h1, h2⟩ := Wts.zipP ws e2
        refine ⟨by rw [List.length_cons, List.length_cons, h1], fun z hz => ?_⟩
        rw [List.zip_cons_cons] at hz
        rcases List.mem_cons.mp hz with rfl | hz
        · rw [prD_some e1] at w
          exact w
        · exact h2 z hz
theorem Wts.ofZip {Y : Yp} {G : Hp} {ca : Option Addr} : ∀ (vs : List V) (ps : List (Int × Int)), vs.length = ps.length → (∀ z ∈ vs.zip ps, Wt Y G ca z.1 (.tup [.int z.2.1, .int z.2.2])) → Wts Y G ca vs (ps.map fun p => D.tup [.int p.1, .int p.2])
  | [], [], _, _ => .nil
  | [], _ :: _, h, _ => by cases h
  | _ :: _, [], h, _ => by cases h
  | v :: vs, p :: ps, h, hz => .cons (hz (v, p) (by rw [List.zip_cons_cons]; exact List.mem_cons_self ..)) (Wts.ofZip vs ps (by simpa using h) fun z m => hz z (by rw [List.zip_cons_cons]; exact List.mem_cons_of_mem _ m))
theorem pair_of_wt {Y : Yp} {G H : Hp} {ca : Option Addr} {c : C} {v : V} {i j : Int} (rs : RS0 Y G ca H c) (w : Wt Y G ca v (.tup [.int i, .int j])) : ∃ t, v = V.ref t ∧ SqT Y.K H t [.int i, .int j] := by
  cases w with
  | tup hs ws l =>
    cases ws with
    | cons w1 ws =>
      cases w1
      cases ws with
      | cons w2 ws =>
        cases w2
        cases ws
        exact ⟨_, rfl, sqT_mono rs.le hs⟩
section
variable {X : Cx} {Z : Zp}
theorem cdo_sortedP : CallDO X Z (.builtin "sorted") bSortedP := ⟨_, cr_sortedPT, fun G ca H c xs ds d Q rs w0 e => by
  unfold bSortedP at e
  split at e <;> first | cases e | skip
  obtain ⟨x, rfl, w⟩ := arg1 w0
  obtain ⟨a, vs, rfl, h1, z1, hl⟩ := w.lst rs
  rw [Option.map_eq_some_iff] at e
  obtain ⟨ps, e1, rfl⟩ := e
  obtain ⟨g1, g2⟩ := z1.zipP e1
  refine ⟨_, rfl, fun q => ⟨a, vs, ps, rfl, sql h1, g1, fun z hz => ?_, fun ys qs p hy hz hs hp hn => ?_⟩⟩
  · exact pair_of_wt rs (g2 z hz)
  · rw [← sortedP_unique hs (isortP_sorted ps) (hp.trans (isortP_perm ps).symm)] at q
    refine q.new rs (Wts.ofZip ys qs hy fun z m => g2 z (hz z m)) ?_ hn
    rw [List.length_map, hp.length_eq, ← g1, z1.length]
    exact hl⟩
theorem cdo_or {f : Value} {g g' : List D → Option D} (h : CallDO X Z f g) (h' : CallDO X Z f g') : CallDO X Z f (fun x => (g x).or (g' x)) := by
  obtain ⟨r, h1, h2⟩ := h
  obtain ⟨r', h1', h2'⟩ := h'
  refine ⟨_, h1.or h1', fun G ca H c x dx d Q rs w e => ?_⟩
  dsimp only at e
  cases e1 : g dx with
  | some d' =>
    rw [e1] at e
    cases e
    obtain ⟨es, k1, k2⟩ := h2 _ _ _ _ _ _ _ Q rs w e1
    exact ⟨es, k1, fun k => .inl (k2 k)⟩
  | none =>
    rw [e1] at e
    obtain ⟨es, k1, k2⟩ := h2' _ _ _ _ _ _ _ Q rs w e
    exact ⟨es, k1, fun k => .inr (k2 k)⟩
theorem cdo_sortedA : CallDO X Z (.builtin "sorted") bSortedA := cdo_or cdo_sorted cdo_sortedP
theorem bSortedP_lst (xs : List D) (d : D) (h : bSortedP xs = some d) : ∃ es, d = .lst es := by
  unfold bSortedP at h
  split at h <;> first | cases h | skip
  rw [Option.map_eq_some_iff] at h
  obtain ⟨ns, _, rfl⟩ := h
  exact ⟨_, rfl⟩
theorem bSortedA_lst (xs : List D) (d : D) (h : bSortedA xs = some d) : ∃ es, d = .lst es := by
  unfold bSortedA at h
  generalize e : bSorted xs = o at h
  cases o with
  | some d2 =>
    have h : some d2 = some d := h
    exact bSorted_lst xs d (e.trans h)
  | none => exact bSortedP_lst xs d h
end
end DL

set_option Elab.async false
set_option linter.all false
set_option maxRecDepth 100000
set_option maxHeartbeats 4000000
set_option autoImplicit false
/-! ## tuple(range(n)); sorted of a tuple of whole numbers -/
namespace DL
open PySem PySem.Spec PyProof.Rows L2
section
variable {X : Cx} {Z : Zp} {N : En} {W : WX}
theorem pd_tupleRng1 {a : Expr} {f : DE} {p p2 pos pos2 : Pos} (hc : X.calm = true) (hmt : X.mg "tuple" = none) (hmr : X.mg "range" = none) (ha : PD X Z N W a f) (hgl : Gl X "tuple" := by rfl) (hgr : Gl X "range" := by rfl)
    (na : starEach [Expr.Call (.Name "range" p2) [a] [] pos2] X.env = (false, eval (Expr.Call (.Name "range" p2) [a] [] pos2) X.env) :: starEach [] X.env := by rfl) (na2 : starEach [a] X.env = (false, eval a X.env) :: starEach [] X.env := by rfl) :
    PD X Z N W (.Call (.Name "tuple" p) [.Call (.Name "range" p2) [a] [] pos2] [] pos) (dTupleRng1 f) :=
  pe_imp (pe_tupRg hc hgl hmt (prg_1 hgr hmr ha na2) na) fun σ H Q ⟨G, ca, env, c, rs, h⟩ => by
    refine ⟨G, ca, env, c, rs, ?_⟩
    simp only [dTupleRng1] at h
    cases e1 : f env c with
    | st => rw [e1] at h; exact h
    | er x c1 => rw [e1] at h; exact h
    | ok x c1 =>
      rw [e1] at h
      intro G1 ca1 H1 vx s1 r1 w1
      simp only [DL.R.bind] at h
      obtain ⟨j, ej, ok, hl, e4⟩ := kRng1_ok (x := x) (c := c1) (fun e => by rw [e] at h; exact h) (fun y c' e => by rw [e] at h; exact absurd e (kRng1_er y c'))
      rw [e4] at h
      refine ⟨j, atom_int w1 ej, ok, fun q hq => ?_⟩
      have wr := rgV_wts (Y := yOf X Z) (G := G1) (ca := ca1) 0 j
      rw [Int.sub_zero] at wr
      exact h (upd G1 q (.tup (rgV 0 j))) ca1 _ (.ref q) (s1.trans (.newG r1.r0 hq)) (r1.step (.newG r1.r0 hq) (r1.r0.newG hq)) (.tup (.inl (.inl upd_same)) (wr.mono (same_upd (r1.r0.free hq)) fun _ h => h) (by rw [rng_len]; exact hl))
end
section
variable {prog : Program} {w : World} {A : Around} {E : Value → Shared → Prop} {s : Shared}
theorem sorted_tup_raw {b : Addr} {us : List Value} {less : Value → Value → Bool} {R : Value → Shared → Prop} (sw : SrtO.Swo less) (ht : IsTup s.heap b us.toArray) (small : us.length ≤ sizeLine)
    (can : ∀ (s2 : Shared) (d : Addr), 2 ≤ us.length → SrtO.SortableO prog w A.in1.in1 s2 d us less)
    (fin : ∀ (hp h2 : Heap) (zs : List Value), SrtO.Srtd less zs → SrtO.Stb less zs us → (∀ x o, s.heap.get? x = some o → hp.get? x = some o) → (∀ x o, hp.get? x = some o → h2.get? x = some o) → (∃ m, h2.get? hp.objs.size = some (seqObj "list" zs.toArray m)) → R (.ref hp.objs.size) { s with heap := h2 }) :
    wpAny (model prog w) A (call (.builtin "sorted") [.ref b]) R E s := by
  obtain ⟨ob, g1, g2, m, g3⟩ := ht
  apply PySem.Calls.call_function_entry kind_sorted plain_sorted entry_sorted (args_sorted1 _)
  rw [Builtin.«sorted».eq_def]
  apply wpAny_bind (m := checkCount "sorted" 1 1 _)
  apply wpAny_pure
  apply wpAny_bind
  refine wpAny_collect_seq b (.inr rfl) g1 g2 g3 (fun hp old => ?_) (by rw [List.size_toArray]; exact small)
  apply wpAny_bind
  refine wpAny_newList ?_ small
  have new : (hp.push (seqObj "list" us.toArray 0)).get? hp.objs.size = some (seqObj "list" us.toArray 0) := Heap.get?_push_size _ rfl
  refine wpAny_bind (wpAny_holding (wpAny_call_entry slot_list_sort ⟨_, new, rfl⟩ entry_list_sort (SrtO.list_sort_ord sw new small (can _ _) fun zs c1 c2 => ⟨_, rfl, ?_⟩) (args_list_sort _)))
  refine wpAny_pure ⟨_, rfl, fin hp _ zs c1 c2 old (fun x o e => ?_) (sortedHeap_at new)⟩
  have up : x < hp.objs.size := Heap.lt_size e
  rw [sortedHeap_old (Nat.ne_of_lt up) (Nat.lt_trans up (by rw [Heap.size_push]; exact Nat.lt_succ_self _))]
  exact Heap.get?_push_of_some _ e
end
section
variable {X : Cx} {Z : Zp}
theorem cr_sortedIT : CallR X (.builtin "sorted") (fun vs H Q => ∃ (b : Addr) (ns : List Int), vs = [V.ref b] ∧ SqT X.K H b (ns.map V.int) ∧ ∀ (ms : List Int) (p : Addr), ms.Perm ns → ms.Pairwise (· ≤ ·) → H p = none → Q (.ref p) (upd H p (.lst (ms.map V.int)))) := by
  intro pins s σ H vs us Q I r h
  obtain ⟨b, ns, rfl, hs, q⟩ := h
  obtain ⟨its, rv, ht, small⟩ := I.tuple hs
  rw [Vals.ref1 r]
  have hin := rv.ints
  have small2 : its.length ≤ sizeLine := by rw [← rv.length]; exact small
  refine sorted_tup_raw SrtO.swo_int ht small2 (fun s2 d two => SrtO.ints_sortable hin two) fun hp h2 zs c1 c2 k1 k2 new => ?_
  obtain ⟨g1, g2, g3⟩ := SrtO.ints_out hin c1 c2
  obtain ⟨m, new⟩ := new
  have len : ((zs.map SrtO.iv).map V.int).length ≤ sizeLine := by
    rw [List.length_map, g2.length_eq, ← List.length_map (f := V.int)]
    exact small
  have J : Inv X pins σ H { s with heap := hp, toks := s.toks } := I.kept k1
  exact ⟨.ref _, upd H hp.objs.size (.lst ((zs.map SrtO.iv).map V.int)), J.laid (t' := s.toks) k2 (Nat.le_refl _) ⟨len, zs, m, vals_of_ints g1, new⟩, rfl, q _ _ g2 g3 (J.hok.fresh (Nat.le_refl _))⟩
theorem cdo_sortedT : CallDO X Z (.builtin "sorted") bSortedT := ⟨_, cr_sortedIT, fun G ca H c xs ds d Q rs w0 e => by
  unfold bSortedT at e
  split at e <;> first | cases e | skip
  obtain ⟨x, rfl, w⟩ := arg1 w0
  obtain ⟨a, vs, rfl, h1, z1, hl⟩ := w.tup rs
  rw [Option.map_eq_some_iff] at e
  obtain ⟨ns, e1, rfl⟩ := e
  refine ⟨_, rfl, fun q => ⟨a, ns, rfl, by rw [← z1.ints e1]; exact h1, fun ns' p hp hs hn => ?_⟩⟩
  rw [sorted_unique hs (isort_sorted ns) (hp.trans (isort_perm ns).symm)]
  have wi : ∀ l : List Int, Wts (yOf X Z) G ca (l.map V.int) (l.map D.int) := fun l => by
    induction l with
    | nil => exact .nil
    | cons i r ih => exact .cons (.int i) ih
  refine q.new rs (wi _) ?_ hn
  have hz : ns.length = vs.length := by rw [z1.ints e1, List.length_map]
  rw [List.length_map, (isort_perm ns).length_eq, hz, z1.length]
  exact hl⟩
theorem cdo_sortedB : CallDO X Z (.builtin "sorted") bSortedB := cdo_or cdo_sortedA cdo_sortedT
theorem bSortedT_lst (xs : List D) (d : D) (h : bSortedT xs = some d) : ∃ es, d = .lst es := by
  unfold bSortedT at h
  split at h <;> first | cases h | skip
  rw [Option.map_eq_some_iff] at h
  obtain ⟨ns, _, rfl⟩ := h
  exact ⟨_, rfl⟩
theorem bSortedB_lst (xs : List D) (d : D) (h : bSortedB xs = some d) : ∃ es, d = .lst es := by
  unfold bSortedB at h
  generalize e : bSortedA xs = o at h
  cases o with
  | some d2 =>
    have h : some d2 = some d := h
    exact bSortedA_lst xs d (e.trans h)
  | none => exact bSortedT_lst xs d h
end
end DL

set_option Elab.async false
set_option linter.all false
set_option maxRecDepth 100000
set_option maxHeartbeats 4000000
set_option autoImplicit false
/-! ## sorted(set(x)) of a list of whole numbers -/
namespace DL
open PySem PySem.Spec PyProof.Rows L2
section
variable {P : Program} {w : World} {A : Around} {E : Value → Shared → Prop} {s : Shared}
/-- the empty set as `set(..)` lays it -/
def setOb (w : World) : Obj := { cls := .type "set", dict := none, data := .set #[] 0 (.fresh 0 0 (!w.params.followText "set-order")) }
theorem set_of_list {l : Addr} {items : Array Value} (ns : List Int) {Q : Value → Shared → Prop} (hh : A.handled = none) (hl : s.heap.IsList l items) (hit : IntsAre items.toList ns) (hb : ns.length + 1 < scanBound)
    (h : ∀ (h' : Heap) (tk c : Nat), SetR w h' s.heap.objs.size (fun j => decide (j ∈ ns)) c → c ≤ ns.length → (∀ b o, s.heap.get? b = some o → h'.get? b = some o) → Q (.ref s.heap.objs.size) { s with heap := h', toks := tk }) :
    wpAny (model P w) A (call (.type "set") [.ref l]) Q E s := by
  have size : items.size = ns.length := by
    have q := IntsAre.length hit
    rwa [Array.length_toList] at q
  obtain ⟨c0, tl, hmro⟩ := F.called_set.mro
  have k1 := F.called_set.made
  have k2 := F.called_set.sub
  refine wpAny_call (codeAny_of_tree ?_)
  show wpAny _ _ (callAny (.type "set") _) _ _ _
  refine wpAny_pure ⟨Code.quiet_builtin _ (by decide +kernel), codeAny_builtin F.entry_type_call ?_⟩
  rw [Around.under_plain (weight_type_call_type "set" [.ref l] []) rfl]
  have k3 := F.called_set.notType
  have k4 := F.called_set.canCreate
  have k5 := F.typeCall_set_1 (.ref l)
  repeat (any_goals (first | assumption | wp_step))
  refine codeAny_mono (code_set_led1 (.ref l) (E := E) (Q₁ := fun v t => v = .ref s.heap.objs.size ∧ t = { s with heap := s.heap.push (setOb w) }) ⟨rfl, rfl⟩) fun r t hr => ?_
  cases r with
  | error e => exact hr
  | ok fl =>
    cases fl with
    | ret v =>
      obtain ⟨rfl, rfl⟩ := hr
      have at0 : (s.heap.push (setOb w)).get? s.heap.objs.size = some (setOb w) := Heap.get?_push_size _ rfl
      have hT : Shared.TypeIs { s with heap := s.heap.push (setOb w) } (.ref s.heap.objs.size) "set" := ⟨_, at0, rfl⟩
      have k6 := F.called_set.init.lookup
      have k7 := F.called_set.init.bind (.ref s.heap.objs.size)
      repeat (any_goals (first | assumption | wp_step))
      refine codeAny_mono (codeAny_call_builtin (R := wants (fun r t => r = .none ∧ ∃ h' tk c, t = { s with heap := h', toks := tk } ∧ SetR w h' s.heap.objs.size (fun j => decide (j ∈ ns)) c ∧ c ≤ ns.length ∧
          (∀ b o, s.heap.get? b = some o → h'.get? b = some o)) E) F.called_set.init.plain F.entry_set_init (check_set_init_1 hT ?_)) fun r2 t2 hr2 => ?_
      · obtain ⟨ol, hol, hcl, nl, hdl⟩ := hl
        obtain ⟨ocls, odict, odata, oslots⟩ := ol
        simp only at hcl hdl
        subst hcl; subst hdl
        have hol' : (s.heap.push (setOb w)).get? l = some { cls := .type "list", dict := odict, data := .seq items nl, slots := oslots } := Heap.get?_push_of_some _ hol
        have k8 := F.sub_list_set
        have k9 := F.sub_list_frozenset
        have hne : (Value.type "list" == Value.type "dict") = false := by decide
        have hl1 : (s.heap.push (setOb w)).IsList l items := ⟨_, hol', rfl, nl, rfl⟩
        unfold Builtin.«set.__init__» noKeywords Builtin.Frozenset.updateFrom
        generalize hPI : pyIter = PI
        wp_walk
        subst hPI
        refine wpAny_pyIter_list hl1 ?_
        refine wpAny_bind (wpAny_runValue ?_)
        have hlS : l < s.heap.objs.size := Heap.lt_size hol
        have hh3 : A.in1.in1.in1.handled = none := by simp [hh]
        have hsz : (s.heap.push (setOb w)).objs.size = s.heap.objs.size + 1 := Heap.size_push ..
        have hneI : l ≠ (s.heap.push (setOb w)).objs.size := by rw [hsz]; exact Nat.ne_of_lt (Nat.lt_succ_of_lt hlS)
        have hSf : s.heap.objs.size ∉ [(s.heap.push (setOb w)).objs.size, l] := by
          rw [hsz]; simp only [List.mem_cons, List.mem_singleton, List.not_mem_nil, or_false, not_or]
          exact ⟨Nat.ne_of_lt (Nat.lt_succ_self _), Nat.ne_of_gt hlS⟩
        have hval : ∀ (i : Nat) (v : Value), items[i]? = some v → ∃ k t, ns[i]? = some k ∧ v = .int k t := fun i v hv => by
          have hi : i < ns.length := by rw [← size]; exact (Array.getElem?_eq_some_iff.mp hv).1
          obtain ⟨t, e⟩ := PyProof.Rows.IntsAre.int_at hit i v (by rw [Array.getElem?_toList]; exact hv)
          refine ⟨ns[i], t, List.getElem?_eq_getElem hi, ?_⟩
          rw [e, List.getD_eq_getElem?_getD, List.getElem?_eq_getElem hi] <;> rfl
        refine set_update_ints ((Walks.list hh3 _ l hneI items).toS) s.heap.objs.size
          hSf ns size hb hval (items.size - 0) 0 _ (by omega) (Nat.zero_le _)
          ⟨⟨_, Heap.get?_push_size _ rfl, rfl, rfl⟩, (hl1.push _)⟩ ⟨0, Nat.le_refl 0, setR_new_at (Heap.get?_push_of_some _ at0)⟩ fun s' c' hm hc' hS' => ?_
        obtain ⟨h', g2, d', tk', os'⟩ := s'
        have eg : g2 = s.gens := hm.gens
        have ed : d' = s.drawn := hm.drawn
        have eo : os' = s.os := hm.os
        subst eg; subst ed; subst eo
        show wpAny _ _ _ _ _ _
        refine wpAny_pure ?_
        show wpAny _ _ (ret Value.none) _ _ _
        rw [size] at hc'
        refine wpAny_pure ⟨rfl, h', tk', c', rfl, hS', hc', fun b o e => ?_⟩
        have hb0 : b < s.heap.objs.size := Heap.lt_size e
        refine hm.heap b o ?_ (Heap.get?_push_of_some _ (Heap.get?_push_of_some _ e))
        rw [hsz]
        simp only [List.mem_cons, List.mem_singleton, List.not_mem_nil, or_false, not_or]
        exact ⟨Nat.ne_of_lt hb0, Nat.ne_of_lt (Nat.lt_succ_of_lt hb0)⟩
      · cases r2 with
        | error e => exact hr2
        | ok fl2 =>
          cases fl2 with
          | ret r =>
            obtain ⟨rfl, h', tk, c', rfl, hS', hc', hk'⟩ := hr2
            repeat (any_goals (first | assumption | wp_step))
            exact h _ _ _ hS' hc' hk'
          | _ => exact hr2.elim
    | _ => exact hr.elim
end
theorem _root_.List.Pairwise.nodup' {l : List Int} (h : l.Pairwise (· < ·)) : l.Nodup := h.imp fun h => by omega
theorem lt_sorted_unique : ∀ {xs ys : List Int}, xs.Pairwise (· < ·) → ys.Pairwise (· < ·) → (∀ k, k ∈ xs ↔ k ∈ ys) → xs = ys := fun {xs ys} h1 h2 m => by
  have n1 : xs.Nodup := h1.imp fun h => by omega
  have n2 : ys.Nodup := h2.imp fun h => by omega
  exact sorted_unique (h1.imp fun h => by omega) (h2.imp fun h => by omega) ((List.perm_ext_iff_of_nodup n1 n2).mpr m)
theorem isort_lt {ns : List Int} : (isort (dedupI ns)).Pairwise (· < ·) ∧ ∀ k, k ∈ isort (dedupI ns) ↔ k ∈ ns := by
  obtain ⟨d, m⟩ := dedup_spec ns
  have p := isort_perm (dedupI ns)
  have nd : (isort (dedupI ns)).Nodup := p.nodup_iff.mpr d
  refine ⟨lt_of_le_nodup _ (isort_sorted _) nd, fun k => by rw [p.mem_iff, m]⟩
section
variable {X : Cx} {Z : Zp} {N : En} {W : WX}
def tSortSet (K : PySem.W.Frag) (ta : TE) : TE := fun σ H Q => ta σ H fun x H1 => ∃ (l : Addr) (ns : List Int), x = V.ref l ∧ SqL K H1 l (ns.map V.int) ∧ ns.length < 64 ∧ ∀ p, H1 p = none → Q (.ref p) (upd H1 p (.lst ((isort (dedupI ns)).map V.int)))
theorem pe_sortSet {a : Expr} {ta : TE} {p p2 q pos : Pos} (hc : X.calm = true) (hg : Gl X "sorted") (hm : X.mg "sorted" = none) (hg2 : Gl X "set") (hm2 : X.mg "set" = none) (ha : PE X a ta)
    (na : starEach [a] X.env = (false, eval a X.env) :: starEach [] X.env := by rfl) : PE X (.Call (.Name "sorted" p) [.Call (.Name "set" p2) [a] [] q] [] pos) (tSortSet X.K ta) := by
  refine ⟨fun pins s σ H Q I h => ?_⟩
  refine Call_ (ld_blt I hg hm boot_sorted (callWith_builtin1 (args_cons ?_ rfl) rfl rfl))
  refine Call_ (ld_blt I hg2 hm2 boot_set (callWith_type1 (args_cons (thn (ha.run pins s σ H _ I h) fun v s1 ⟨x, H1, I1, r1, q1⟩ => args_nil ?_) na) na rfl))
  obtain ⟨l, ns, rfl, hq, hz, q1⟩ := q1
  cases r1
  obtain ⟨its, r, pl, _⟩ := I1.list hq
  refine set_of_list ns (I1.ok.hd hc) pl.isList (by simpa using r.ints) (by unfold scanBound; omega) fun h' tk c hS hc1 hk => ?_
  have I2 : Inv X pins σ H1 { s1 with heap := h', toks := tk } := I1.kept fun b o e => hk b o e
  refine args_nil (sorted_set hS (I1.ok.hd hc) (by omega) fun s3 p3 out c3 ms k3 g3 o3 hp3 hg3 hi3 hs3 hm3 hl3 => ?_)
  have e3 : ms = isort (dedupI ns) := lt_sorted_unique hs3 isort_lt.1 fun k => by rw [hm3, isort_lt.2, decide_eq_true_eq]
  have hlen : (((isort (dedupI ns))).map V.int).length ≤ sizeLine := by
    have q := dedup_len isort_lt.1.nodup' (ks := isort (dedupI ns)) (ns := ns) isort_lt.2
    have q2 := met_len ns
    have q3 := firstMet_length_le (fun i => ns.getD i 0) ns.length
    rw [List.length_map, sizeLine_eq]; omega
  subst e3
  have hn : H1 p3 = none := I2.hok.fresh hp3
  have J : Inv X pins σ (upd H1 p3 (.lst ((isort (dedupI ns)).map V.int))) { (({ s1 with heap := h', toks := tk } : Shared)) with heap := s3.heap, gens := s3.gens, drawn := s3.drawn, toks := s3.toks } :=
    I2.call (ch := []) (Un.laid k3 hp3 hn) (I2.hok.laid k3 hp3 ⟨hlen, out.toList, c3, vals_of_ints hi3, hg3⟩) (by rw [g3]; exact I2.bare) (fun _ z => nomatch z)
  have e : s3 = { s1 with heap := s3.heap, gens := s3.gens, drawn := s3.drawn, toks := s3.toks } := by
    cases s3
    cases s1
    cases o3
    rfl
  rw [e]
  exact ⟨.ref p3, _, J, rfl, q1 p3 hn⟩
theorem pdo_sortSet {a : Expr} {f : DE} {p p2 q pos : Pos} (hc : X.calm = true) (hm : X.mg "sorted" = none) (hm2 : X.mg "set" = none) (ha : PD X Z N W a f) (hg : Gl X "sorted" := by rfl) (hg2 : Gl X "set" := by rfl)
    (na : starEach [a] X.env = (false, eval a X.env) :: starEach [] X.env := by rfl) : PDO X Z N W (.Call (.Name "sorted" p) [.Call (.Name "set" p2) [a] [] q] [] pos) (dO1 D.sortSet f) :=
  pe_imp (pe_sortSet hc hg hm hg2 hm2 ha na) fun σ H Q ⟨G, ca, env, c, rs, h⟩ => by
    refine ⟨G, ca, env, c, rs, ?_⟩
    simp only [dO1] at h
    cases e1 : f env c with
    | st => rw [e1] at h; exact h
    | er x c1 => rw [e1] at h; exact h
    | ok x c1 =>
      rw [e1] at h
      simp only [DL.R.bind] at h
      intro G1 ca1 H1 vx s1 r1 w1
      cases e2 : x.d with
      | lst xs =>
        rw [e2] at h
        have ws := w1.read r1
        rw [e2] at ws
        obtain ⟨a, us, rfl, q1, q2, q3⟩ := ws.lst r1.r0
        cases e3 : DL.intsOf xs with
        | none => simp only [D.sortSet, e3] at h; exact h.elim
        | some ns =>
          simp only [D.sortSet, e3, Option.bind_some] at h
          by_cases hl : ns.length < 64
          · rw [if_pos hl] at h
            obtain ⟨ds, e4, h⟩ := h
            cases e4
            have wi : ∀ l : List Int, Wts (yOf X Z) G1 ca1 (l.map V.int) (l.map D.int) := fun l => by
              induction l with
              | nil => exact .nil
              | cons i r ih => exact .cons (.int i) ih
            refine ⟨a, ns, rfl, by rw [← q2.ints e3]; exact sql q1, hl, fun p hp => h G1 ca1 _ p _ (s1.trans (.new hp)) (r1.step (.new hp) (r1.r0.new hp)) (s1.dm p (.of hp)) upd_same (r1.r0.free hp) (r1.r0.ncup hp) (wi _) ?_⟩
            have q := dedup_len (isort_lt (ns := ns)).1.nodup' isort_lt.2
            have q5 := met_len ns
            have q6 := firstMet_length_le (fun i => ns.getD i 0) ns.length
            rw [List.length_map]
            have : 64 ≤ sizeL := by decide
            omega
          · rw [if_neg hl] at h; exact h.elim
      | _ => rw [e2] at h; exact h.elim
end
theorem sortSet_lst (x d : D) (h : D.sortSet x = some d) : ∃ es, d = .lst es := by
  cases x with
  | lst xs =>
    simp only [D.sortSet] at h
    cases e : DL.intsOf xs with
    | none => rw [e] at h; cases h
    | some ns =>
      rw [e, Option.bind_some] at h
      split at h
      · cases h; exact ⟨_, rfl⟩
      · cases h
  | _ => cases h
theorem dO1_lst {g : D → Option D} {a : DE} (hg : ∀ x d, g x = some d → ∃ ds, d = .lst ds) (env : DL.Env) (c c' : C) (rv : RV) (h : dO1 g a env c = .ok rv c') : ∃ ds, rv = .pl (.lst ds) := by
  simp only [dO1] at h
  cases e1 : a env c with
  | st => rw [e1] at h; cases h
  | er x c1 => rw [e1] at h; cases h
  | ok x c1 =>
    rw [e1] at h
    exact opt1_lst (fun d q => hg _ _ q) h
end DL

set_option maxRecDepth 100000
set_option autoImplicit false
/-! own work: the data semantics evaluated by simp -/
namespace DL
@[simp] theorem ev_bind_ok {α β : Type} (a : α) (c : C) (f : α → C → R β) : (R.ok a c).bind f = f a c := rfl
@[simp] theorem ev_bind_er {α β : Type} (x : Ex) (c : C) (f : α → C → R β) : (R.er x c : R α).bind f = .er x c := rfl
@[simp] theorem ev_calm_ok {α : Type} (a : α) (c : C) : (R.ok a c).calm = .ok a c := rfl
@[simp] theorem ev_of_ok {α : Type} (a : α) (c : C) (env : Env) (f : α → C → F) : F.of (R.ok a c) env f = f a c := rfl
@[simp] theorem ev_of_er {α : Type} (x : Ex) (c : C) (env : Env) (f : α → C → F) : F.of (R.er x c : R α) env f = .er x env c := rfl
@[simp] theorem ev_rvd (d : D) : (RV.pl d).d = d := rfl
@[simp] theorem ev_rvo (i : Nat) (xs : List D) : (RV.ow i xs).d = .lst xs := rfl
@[simp] theorem ev_pln (d : D) : (RV.pl d).plain = true := rfl
@[simp] theorem ev_plo (i : Nat) (xs : List D) : (RV.ow i xs).plain = false := rfl
@[simp] theorem ev_c (d : D) (env : Env) (c : C) : dC d env c = .ok (.pl d) c := rfl
@[simp] theorem ev_opt1s (d : D) (c : C) : opt1 (some d) c = .ok (.pl d) c := rfl
@[simp] theorem ev_args0 (env : Env) (c : C) : dArgs [] env c = .ok [] c := rfl
@[simp] theorem ev_args1 (e : DE) (es : List DE) (env : Env) (c : C) : dArgs (e :: es) env c = (e env c).bind fun x c => (dArgs es env c).bind fun xs c => .ok (x :: xs) c := rfl
end DL
namespace DL
theorem ev_var {i : Nat} {d : D} {env : Env} {c : C} (h : env[i]? = some (.val d)) : dVar i env c = .ok (.pl d) c := by
  unfold dVar
  rw [h]
end DL
namespace DL
theorem run_rt {n : Nat} {body : DS} {ds : List D} {env : Env} {c c' : C} {d : D} (h : ds.map .val ++ List.replicate (n - ds.length) .no = env) (e : body env c = .rt d c') : runF n body ds c = .ok d c' := by
  unfold runF
  rw [h, e]
theorem run_nx {n : Nat} {body : DS} {ds : List D} {env env' : Env} {c c' : C} (h : ds.map .val ++ List.replicate (n - ds.length) .no = env) (e : body env c = .nx env' c') : runF n body ds c = .ok .non c' := by
  unfold runF
  rw [h, e]
theorem run_er {n : Nat} {body : DS} {ds : List D} {env env' : Env} {c c' : C} {x : Ex} (h : ds.map .val ++ List.replicate (n - ds.length) .no = env) (e : body env c = .er x env' c') : runF n body ds c = .er x c' := by
  unfold runF
  rw [h, e]
end DL

set_option maxRecDepth 10000
set_option autoImplicit false
set_option linter.all false
/-! own work: steps of the data semantics, the bodies kept shut -/
namespace DL
section
variable {tg : TG} {s t : DS} {x d : D} {xs : List D} {env env1 env2 : Env} {c c1 c2 : C} {e : Ex}
theorem for_nil : sForL tg s [] env c = .nx env c := rfl
theorem for_nx (h1 : tg x env = some env1) (h2 : s env1 c = .nx env2 c2) : sForL tg s (x :: xs) env c = sForL tg s xs env2 c2 := by
  rw [sForL, h1]
  dsimp only
  rw [h2]
theorem for_ct (h1 : tg x env = some env1) (h2 : s env1 c = .ct env2 c2) : sForL tg s (x :: xs) env c = sForL tg s xs env2 c2 := by
  rw [sForL, h1]
  dsimp only
  rw [h2]
theorem for_bk (h1 : tg x env = some env1) (h2 : s env1 c = .bk env2 c2) : sForL tg s (x :: xs) env c = .nx env2 c2 := by
  rw [sForL, h1]
  dsimp only
  rw [h2]
theorem for_rt (h1 : tg x env = some env1) (h2 : s env1 c = .rt d c2) : sForL tg s (x :: xs) env c = .rt d c2 := by
  rw [sForL, h1]
  dsimp only
  rw [h2]
theorem sfor_of {it : DI} (h : it env c = .ok xs c1) : sFor it tg s env c = sForL tg s xs env c1 := by
  rw [sFor, h]
  rfl
theorem seq_nx (h : s env c = .nx env1 c1) : sSeq s t env c = t env1 c1 := by rw [sSeq, h]
theorem seq_rt (h : s env c = .rt d c1) : sSeq s t env c = .rt d c1 := by rw [sSeq, h]
theorem seq_er (h : s env c = .er e env1 c1) : sSeq s t env c = .er e env1 c1 := by rw [sSeq, h]
theorem if_t {q : DT} (h : q env c = .ok true c1) : sIf q s t env c = s env c1 := by
  rw [sIf, h]
  rfl
theorem if_f {q : DT} (h : q env c = .ok false c1) : sIf q s t env c = t env c1 := by
  rw [sIf, h]
  rfl
theorem ret_of {e : DE} {v : RV} (h : e env c = .ok v c1) : sRet e env c = .rt v.d c1 := by
  rw [sRet, h]
  rfl
theorem set_of {e : DE} {i : Nat} (h : e env c = .ok (.pl d) c1) : sSet i e env c = .nx (env.set i (.val d)) c1 := by
  rw [sSet, h]
  rfl
theorem expr_of {e : DE} {v : RV} (h : e env c = .ok v c1) : sExpr e env c = .nx env c1 := by
  rw [sExpr, h]
  rfl
theorem app_of {e : DE} {i : Nat} (h0 : env[i]? = some (.own xs)) (h : e env c = .ok (.pl d) c1) (hl : xs.length < sizeL) : sApp i e env c = .nx (env.set i (.own (xs ++ [d]))) c1 := by
  rw [sApp, h0]
  dsimp only
  rw [h]
  show kApp i env xs (.pl d) c1 = _
  unfold kApp
  dsimp only
  rw [if_pos hl]
/-! tests -/
theorem te_of {e : DE} {v : RV} {k : Bool} (h : e env c = .ok v c1) (hk : v.d.truth = some k) : tE e env c = .ok k c1 := by
  rw [tE, h, ev_bind_ok, hk]
theorem te_bl {e : DE} {k : Bool} (h : e env c = .ok (.pl (.bl k)) c1) : tE e env c = .ok k c1 := te_of h rfl
theorem tb_of {e : DE} {k : Bool} (h : e env c = .ok (.pl (.bl k)) c1) : tBl e env c = .ok k c1 := by
  rw [tBl, h]
  rfl
theorem tnot_of {q : DT} {k : Bool} (h : q env c = .ok k c1) : tNot q env c = .ok (!k) c1 := by
  rw [tNot, h]
  rfl
theorem tand_of {p q : DT} {j k : Bool} (h : p env c = .ok j c1) (h2 : j = true → q env c1 = .ok k c2) (hc : j = false → c1 = c2) : tAnd p q env c = .ok (j && k) c2 := by
  rw [tAnd, h, ev_bind_ok]
  cases j with
  | true => rw [if_pos rfl, h2 rfl]; rfl
  | false => rw [if_neg (by decide), hc rfl]; rfl
theorem tor_of {p q : DT} {j k : Bool} (h : p env c = .ok j c1) (h2 : j = false → q env c1 = .ok k c2) (hc : j = true → c1 = c2) : tOr p q env c = .ok (j || k) c2 := by
  rw [tOr, h, ev_bind_ok]
  cases j with
  | false => rw [if_neg (by decide), h2 rfl]; rfl
  | true => rw [if_pos rfl, hc rfl]; rfl
/-! expressions -/
theorem o2_of {op : D → D → Option D} {a b : DE} {u v : RV} (h1 : a env c = .ok u c1) (h2 : b env c1 = .ok v c2) (h3 : op u.d v.d = some d) : dO2 op a b env c = .ok (.pl d) c2 := by
  rw [dO2, h1, ev_bind_ok, h2, ev_bind_ok, h3]
  rfl
theorem o1_of {op : D → Option D} {a : DE} {u : RV} (h1 : a env c = .ok u c1) (h3 : op u.d = some d) : dO1 op a env c = .ok (.pl d) c1 := by
  rw [dO1, h1, ev_bind_ok, h3]
  rfl
theorem and_t {a b : DE} {r : R RV} (h : a env c = .ok (.pl (.bl true)) c1) (h2 : b env c1 = r) : dAnd a b env c = r := by
  rw [dAnd, h]
  exact h2
theorem and_f {a b : DE} (h : a env c = .ok (.pl (.bl false)) c1) : dAnd a b env c = .ok (.pl (.bl false)) c1 := by
  rw [dAnd, h]
  rfl
theorem or_f {a b : DE} {r : R RV} (h : a env c = .ok (.pl (.bl false)) c1) (h2 : b env c1 = r) : dOr a b env c = r := by
  rw [dOr, h]
  exact h2
theorem or_t {a b : DE} (h : a env c = .ok (.pl (.bl true)) c1) : dOr a b env c = .ok (.pl (.bl true)) c1 := by
  rw [dOr, h]
  rfl
theorem ife_t {q : DT} {a b : DE} (h : q env c = .ok true c1) : dIf q a b env c = a env c1 := by
  rw [dIf, h]
  rfl
theorem ife_f {q : DT} {a b : DE} (h : q env c = .ok false c1) : dIf q a b env c = b env c1 := by
  rw [dIf, h]
  rfl
theorem args_nil : dArgs [] env c = .ok [] c := rfl
theorem args_cons {a : DE} {es : List DE} {v : RV} {vs : List RV} (h1 : a env c = .ok v c1) (h2 : dArgs es env c1 = .ok vs c2) : dArgs (a :: es) env c = .ok (v :: vs) c2 := by
  rw [ev_args1, h1, ev_bind_ok, h2]
  rfl
theorem args_1 {a : DE} {v : RV} (h1 : a env c = .ok v c1) : dArgs [a] env c = .ok [v] c1 := args_cons h1 args_nil
theorem args_2 {a b : DE} {u v : RV} (h1 : a env c = .ok u c1) (h2 : b env c1 = .ok v c2) : dArgs [a, b] env c = .ok [u, v] c2 := args_cons h1 (args_1 h2)
theorem args_3 {a b f : DE} {u v w : RV} {c3 : C} (h1 : a env c = .ok u c1) (h2 : b env c1 = .ok v c2) (h3 : f env c2 = .ok w c3) : dArgs [a, b, f] env c = .ok [u, v, w] c3 := args_cons h1 (args_2 h2 h3)
theorem call_of {sem : Sem} {es : List DE} {ds : List D} (h1 : dArgs es env c = .ok (ds.map .pl) c1) (h2 : sem ds c1 = .ok d c2) : dCall sem es env c = .ok (.pl d) c2 := by
  rw [dCall, h1, ev_bind_ok, List.map_map, show (RV.d ∘ RV.pl) = id from rfl, List.map_id, h2, ev_bind_ok]
  have : (ds.map RV.pl).all RV.plain = true := by
    rw [List.all_map]
    exact List.all_eq_true.mpr fun _ _ => rfl
  rw [this]
  rfl
theorem tup_of {es : List DE} {ds : List D} (h1 : dArgs es env c = .ok (ds.map .pl) c1) : dTup es env c = .ok (.pl (.tup ds)) c1 := by
  have : (ds.map RV.pl).all RV.plain = true := by
    rw [List.all_map]
    exact List.all_eq_true.mpr fun _ _ => rfl
  rw [dTup, h1, ev_bind_ok, if_pos this, List.map_map, show (RV.d ∘ RV.pl) = id from rfl, List.map_id]
theorem lst_of {es : List DE} {ds : List D} (h1 : dArgs es env c = .ok (ds.map .pl) c1) : dLst es env c = .ok (.pl (.lst ds)) c1 := by
  have : (ds.map RV.pl).all RV.plain = true := by
    rw [List.all_map]
    exact List.all_eq_true.mpr fun _ _ => rfl
  rw [dLst, h1, ev_bind_ok, if_pos this, List.map_map, show (RV.d ∘ RV.pl) = id from rfl, List.map_id]
theorem b_of {f : List D → Option D} {es : List DE} {ds : List D} (h1 : dArgs es env c = .ok (ds.map .pl) c1) (h2 : f ds = some d) : dB f es env c = .ok (.pl d) c1 := by
  rw [dB, h1, ev_bind_ok, List.map_map, show (RV.d ∘ RV.pl) = id from rfl, List.map_id, h2]
  rfl
theorem comp_of {it : DI} {q : DT} {a : DE} {vs : List Nat} {ys : List D} (h1 : it env c = .ok xs c1) (h2 : dLoop tg q a (wipeE env vs) xs c1 = .ok ys c2) : dComp it tg q a vs env c = .ok (.pl (.lst ys)) c2 := by
  rw [dComp, h1, ev_bind_ok, h2]
  rfl
theorem loop_yes {q : DT} {a : DE} {ys : List D} {c3 : C} (h1 : tg x env = some env1) (h2 : q env1 c = .ok true c1) (h3 : a env1 c1 = .ok (.pl d) c2) (h4 : dLoop tg q a env xs c2 = .ok ys c3) : dLoop tg q a env (x :: xs) c = .ok (d :: ys) c3 := by
  rw [dLoop, h1]
  dsimp only
  rw [h2, ev_bind_ok, if_pos rfl, h3, ev_bind_ok]
  dsimp only
  rw [h4]
  rfl
theorem loop_no {q : DT} {a : DE} {r : R (List D)} (h1 : tg x env = some env1) (h2 : q env1 c = .ok false c1) (h4 : dLoop tg q a env xs c1 = r) : dLoop tg q a env (x :: xs) c = r := by
  rw [dLoop, h1]
  dsimp only
  rw [h2, ev_bind_ok, if_neg (by decide), h4]
theorem loop_nil {q : DT} {a : DE} : dLoop tg q a env [] c = .ok [] c := rfl
end
end DL

set_option maxRecDepth 100000
set_option autoImplicit false
/-! own work: the program as data semantics (printed by gen.py) -/
namespace K77
open DL
def tbl_ : List (List Bool) := [[true, false, true], [false, true, true]]
def sub_ (k j : Nat) : Bool := (tbl_.getD k []).getD j false
def k_HOURS : D := .int 100
def k_MANY : D := .int 60
def k_TIME : D := .int 1000
def den_is_whole : DS :=
  sRet (dAnd (dB bIsi [dVar 0, dC (.ty 2)]) (dAnd (dO1 D.inv (dB bIsi [dVar 0, dC (.ty 1)])) (dChain D.le D.le (dVar 1) (dVar 0) (dVar 2))))
def sem_is_whole : Sem := runF 3 den_is_whole
def den_is_tuple_of : DS :=
  sRet (dAnd (dB bIsi [dVar 0, dC (.ty 4)]) (dChain D.le D.le (dVar 1) (dB bLen [dVar 0]) (dVar 2)))
def sem_is_tuple_of : Sem := runF 3 den_is_tuple_of
def den_stretches_of : DS :=
  sSeq (sOwn 1 (dLst [])) (
  sSeq (sFor (iEnumA true (dVar 0)) (tgT [tgN 2, tgN 3]) (sIf (tAnd (tBl (dO2 D.notN (dVar 3) (dC .non))) (tAnd (tBl (dO2 D.ne (dVar 1) (dLst []))) (tAnd (tBl (dO2 D.eq (dO2 D.ix (dO2 D.ix (dVar 1) (dO1 D.neg (dC (.int 1)))) (dC (.int 1))) (dO2 D.subA (dVar 2) (dC (.int 1))))) (tBl (dO2 D.eq (dO2 D.ix (dO2 D.ix (dVar 1) (dO1 D.neg (dC (.int 1)))) (dC (.int 2))) (dVar 3)))))) (sPut 1 (dO1 D.neg (dC (.int 1))) (dTup [dO2 D.ix (dO2 D.ix (dVar 1) (dO1 D.neg (dC (.int 1)))) (dC (.int 0)), dVar 2, dVar 3])) (sIf (tBl (dO2 D.notN (dVar 3) (dC .non))) (sApp 1 (dTup [dVar 2, dVar 2, dVar 3])) (sNil)))) (
  sRet (dB bTuple [dVar 1])))
def sem_stretches_of : Sem := runF 4 den_stretches_of
def den__law_roll : DS :=
  sSeq (sIf (tBl (dO2 D.gt (dCup 0 0) (dC (.int 0)))) (sSeq (sSet 2 (dO2 D.mod (dB bInt [dCup 0 0]) (dVar 1))) (
  sSeq (sCup 0 0 (dO2 D.fdiv (dCup 0 0) (dVar 1))) (
  sRet (dVar 2)))) (sNil)) (
  sSeq (sCup 0 1 (dO2 D.mod (dB bInt [dO2 D.addA (dO2 D.mulA (dCup 0 1) (dC (.int 30559))) (dC (.int 8431))]) (dC (.int 2147483543)))) (
  sSeq (sSet 3 (dO2 D.mod (dB bInt [dO2 D.mulA (dCup 0 1) (dO2 D.addA (dCup 0 1) (dC (.int 263)))]) (dC (.int 2147483587)))) (
  sRet (dO2 D.mod (dB bInt [dO2 D.fdiv (dVar 3) (dC (.int 853))]) (dVar 1)))))
def sem__law_roll : Sem := runF 4 den__law_roll
def den__law_sort : DS :=
  sSeq (sIf (tOr (tBl (dO2 D.isN (dVar 0) (dC .non))) (tE (dB bIsi [dVar 0, dC (.ty 1)]))) (sRet (dIf (tBl (dO2 D.isN (dVar 0) (dC .non))) (dC (.int 0)) (dC (.int 1)))) (sNil)) (
  sSeq (sIf (tOr (tE (dB bIsi [dVar 0, dC (.ty 2)])) (tE (dB bIsi [dVar 0, dC (.ty 3)]))) (sRet (dIf (tE (dB bIsi [dVar 0, dC (.ty 2)])) (dC (.int 2)) (dC (.int 3)))) (sNil)) (
  sRet (dIf (tE (dB bIsi [dVar 0, dC (.ty 4)])) (dC (.int 4)) (dIf (tE (dB bIsi [dVar 0, dC (.ty 5)])) (dC (.int 5)) (dC (.int 6))))))
def sem__law_sort : Sem := runF 1 den__law_sort
def suite__law_error (x_ : Ex) : DS :=
  sSeq (sSet 2 (dLst [dTup [dC (.str (PySem.Str.ofString "corrections")), dIsX sub_ x_ 1 1], dTup [dC (.str (PySem.Str.ofString "number")), dIsX sub_ x_ 1 0]])) (
  sRet (dO2 D.addA (dO1 (D.join (.str (PySem.Str.ofString " "))) (dComp (iLst (dVar 2)) (tgT [tgN 3, tgN 4]) (tE (dVar 4)) (dVar 3) [3, 4])) (dC (.str (PySem.Str.ofString " error")))))
def rest__law_error : DS :=
  sRet (dC (.str (PySem.Str.ofString "")))
def sem__law_error : (C → R D) → C → R D := semTry 5 1 (fun k => sub_ k 2) suite__law_error rest__law_error
def den__law_hours : DS :=
  sSeq (sOwn 2 (dO2 D.rep (dLst [dC .non]) (dC (.int 100)))) (
  sSeq (sFor (iSeq true (dVar 0)) (tgT [tgN 3, tgN 4, tgN 5, tgN 6]) (sFor (iRng2 (dVar 4) (dO2 D.addA (dVar 5) (dC (.int 1)))) (tgN 7) (sPut 2 (dVar 7) (dIf (tBl (dO2 D.le (dVar 3) (dVar 1))) (dVar 6) (dO2 D.ix (dVar 2) (dVar 7)))))) (
  sRet (dVar 2)))
def sem__law_hours : Sem := runF 8 den__law_hours
def den__law_stretches : DS :=
  sSeq (sOwn 1 (dLst [])) (
  sSeq (sFor (iEnumA true (dVar 0)) (tgT [tgN 2, tgN 3]) (sIf (tAnd (tBl (dO2 D.notN (dVar 3) (dC .non))) (tOr (tBl (dO2 D.eq (dVar 2) (dC (.int 0)))) (tBl (dO2 D.ne (dO2 D.ix (dVar 0) (dO2 D.subA (dVar 2) (dC (.int 1)))) (dVar 3))))) (sSeq (sSet 4 (dB bLen [dComp (iRng2 (dVar 2) (dC (.int 100))) (tgN 5) (tBl (dO2 D.eq (dSl D.slA (dVar 0) (some (dVar 2)) (some (dO2 D.addA (dVar 5) (dC (.int 1))))) (dO2 D.mulA (dLst [dVar 3]) (dO2 D.subA (dO2 D.addA (dVar 5) (dC (.int 1))) (dVar 2))))) (dC (.int 1)) [5]])) (
  sApp 1 (dTup [dVar 2, dO2 D.subA (dO2 D.addA (dVar 2) (dVar 4)) (dC (.int 1)), dVar 3]))) (sNil))) (
  sRet (dB bTuple [dVar 1])))
def sem__law_stretches : Sem := runF 6 den__law_stretches
def den_need_whole : DS :=
  sIf (tNot (tE (dCall (sem_is_whole) [dVar 0, dVar 1, dVar 2]))) (sRaise 0) (sNil)
def sem_need_whole : Sem := runF 3 den_need_whole
def den_is_correction : DS :=
  sSeq (sIf (tOr (tNot (tE (dCall (sem_is_tuple_of) [dVar 0, dC (.int 4), dC (.int 4)]))) (tOr (tNot (tE (dCall (sem_is_whole) [dO2 D.ix (dVar 0) (dC (.int 0)), dC (.int 0), dC k_TIME]))) (tNot (tE (dCall (sem_is_whole) [dO2 D.ix (dVar 0) (dC (.int 1)), dC (.int 0), dO2 D.subA (dC k_HOURS) (dC (.int 1))]))))) (sRet (dC (.bl false))) (sNil)) (
  sRet (dAnd (dCall (sem_is_whole) [dO2 D.ix (dVar 0) (dC (.int 2)), dO2 D.ix (dVar 0) (dC (.int 1)), dO2 D.subA (dC k_HOURS) (dC (.int 1))]) (dCall (sem_is_whole) [dO2 D.ix (dVar 0) (dC (.int 3)), dC (.int 0), dC (.int 9)])))
def sem_is_correction : Sem := runF 1 den_is_correction
def den_table_in : DS :=
  sSeq (sPar [(1, false), (2, true)] [dO2 D.mulA (dLst [dC .non]) (dC k_HOURS), dLst []]) (
  sSeq (sFor (iEnumA true (dVar 0)) (tgT [tgN 3, tgT [tgN 4, tgN 5, tgN 6, tgN 7]]) (sSeq (sSet 1 (dO2 D.addA (dO2 D.addA (dSl D.slA (dVar 1) none (some (dVar 5))) (dO2 D.mulA (dLst [dVar 7]) (dO2 D.subA (dO2 D.addA (dVar 6) (dC (.int 1))) (dVar 5)))) (dSl D.slA (dVar 1) (some (dO2 D.addA (dVar 6) (dC (.int 1)))) none))) (
  sIf (tOr (tBl (dO2 D.eq (dO2 D.addA (dVar 3) (dC (.int 1))) (dB bLen [dVar 0]))) (tBl (dO2 D.gt (dO2 D.ix (dO2 D.ix (dVar 0) (dO2 D.addA (dVar 3) (dC (.int 1)))) (dC (.int 0))) (dVar 4)))) (sSeq (sSet 8 (dCall (sem_stretches_of) [dVar 1])) (
  sIf (tBl (dO2 D.ne (dVar 8) (dIf (tBl (dO2 D.ne (dVar 2) (dLst []))) (dO2 D.ix (dO2 D.ix (dVar 2) (dO1 D.neg (dC (.int 1)))) (dC (.int 1))) (dTup [])))) (sApp 2 (dTup [dVar 4, dVar 8])) (sNil))) (sNil)))) (
  sRet (dB bTuple [dVar 2])))
def sem_table_in : Sem := runF 9 den_table_in
def den__law_some : DS :=
  sRet (dO2 D.ix (dVar 1) (dCall (sem__law_roll) [dVar 0, dB bLen [dVar 1]]))
def sem__law_some : Sem := runF 2 den__law_some
def den__law_like (self_ : Sem) : DS :=
  sSeq (sSet 2 (dCall (sem__law_sort) [dVar 1])) (
  sSeq (sIf (tOr (tBl (dO2 D.ne (dCall (sem__law_sort) [dVar 0]) (dVar 2))) (tBl (dO2 D.eq (dVar 2) (dC (.int 6))))) (sRet (dC (.bl false))) (sNil)) (
  sSeq (sIf (tBl (dO2 D.mem (dVar 2) (dTup [dC (.int 4), dC (.int 5)]))) (sRet (dAnd (dO2 D.eq (dB bLen [dVar 0]) (dB bLen [dVar 1])) (dO2 D.eq (dComp (iZip2A false (dVar 0) (dVar 1)) (tgT [tgN 3, tgN 4]) (tNot (tE (dCall (self_) [dVar 3, dVar 4]))) (dC (.int 1)) [3, 4]) (dLst [])))) (sNil)) (
  sRet (dO2 D.eq (dVar 0) (dVar 1)))))
def sem__law_like : Nat → Sem
  | 0 => fun _ _ => .st
  | k + 1 => runF 5 (den__law_like (sem__law_like k))
def den__law_table : DS :=
  sSeq (sPar [(1, true), (2, false)] [dLst [], dO2 D.mulA (dLst [dC .non]) (dC (.int 100))]) (
  sSeq (sFor (iSeq true (dO1 D.sortSet (dComp (iSeq false (dVar 0)) (tgN 5) (tYes) (dO2 D.ix (dVar 5) (dC (.int 0))) [5]))) (tgN 3) (sSeq (sSet 4 (dCall (sem__law_hours) [dVar 0, dVar 3])) (
  sSeq (sIf (tBl (dO2 D.ne (dVar 4) (dVar 2))) (sApp 1 (dTup [dVar 3, dCall (sem__law_stretches) [dVar 4]])) (sNil)) (
  sSet 2 (dVar 4))))) (
  sRet (dB bTuple [dVar 1])))
def sem__law_table : Sem := runF 6 den__law_table
def den_are_corrections : DS :=
  sSeq (sIf (tOr (tNot (tE (dCall (sem_is_tuple_of) [dVar 0, dC (.int 0), dC k_MANY]))) (tNot (tE (dB bAll [dComp (iSeq false (dVar 0)) (tgN 1) (tYes) (dCall (sem_is_correction) [dVar 1]) [1]])))) (sRet (dC (.bl false))) (sNil)) (
  sRet (dB bAll [dComp (iZip2A false (dVar 0) (dSl D.slA (dVar 0) (some (dC (.int 1))) none)) (tgT [tgN 1, tgN 2]) (tYes) (dO2 D.le (dO2 D.ix (dVar 1) (dC (.int 0))) (dO2 D.ix (dVar 2) (dC (.int 0)))) [1, 2]]))
def sem_are_corrections : Sem := runF 3 den_are_corrections
def den__law_corrections : DS :=
  sSeq (sPar [(2, false), (3, false)] [dTup [], dCall (sem__law_some) [dVar 0, dLst [dC (.int 0), dC (.int 0), dC (.int 5)]]]) (
  sSeq (sFor (iRng1 (dCall (sem__law_roll) [dVar 0, dO2 D.addA (dVar 1) (dC (.int 1))])) (tgN 4) (sSeq (sSet 5 (dCall (sem__law_some) [dVar 0, dLst [dC (.int 0), dC (.int 3), dC (.int 5), dC (.int 90), dCall (sem__law_roll) [dVar 0, dC (.int 100)]]])) (
  sSeq (sSet 6 (dB bMin2 [dC (.int 99), dO2 D.addA (dVar 5) (dCall (sem__law_some) [dVar 0, dLst [dC (.int 0), dC (.int 1), dC (.int 2), dC (.int 9), dC (.int 99)]])])) (
  sSeq (sSet 2 (dO2 D.addA (dVar 2) (dTup [dTup [dVar 3, dVar 5, dVar 6, dCall (sem__law_some) [dVar 0, dLst [dC (.int 0), dC (.int 0), dC (.int 1), dC (.int 9)]]]]))) (
  sSet 3 (dB bMin2 [dC (.int 1000), dO2 D.addA (dVar 3) (dCall (sem__law_some) [dVar 0, dLst [dC (.int 0), dC (.int 0), dC (.int 1), dC (.int 7), dC (.int 300)]])])))))) (
  sRet (dVar 2)))
def sem__law_corrections : Sem := runF 7 den__law_corrections
def den_need_corrections : DS :=
  sIf (tNot (tE (dCall (sem_are_corrections) [dVar 0]))) (sRaise 1) (sNil)
def sem_need_corrections : Sem := runF 1 den_need_corrections
def den_known_at : DS :=
  sSeq (sExpr (dCall (sem_need_corrections) [dVar 0])) (
  sSeq (sExpr (dCall (sem_need_whole) [dVar 1, dC (.int 0), dC k_TIME])) (
  sSeq (sExpr (dCall (sem_need_whole) [dVar 2, dC (.int 0), dO2 D.subA (dC k_HOURS) (dC (.int 1))])) (
  sSeq (sSet 3 (dC .non)) (
  sSeq (sFor (iSeq true (dVar 0)) (tgT [tgN 4, tgN 5, tgN 6, tgN 7]) (sIf (tAnd (tBl (dO2 D.le (dVar 4) (dVar 1))) (tBl (dChain D.le D.le (dVar 5) (dVar 2) (dVar 6)))) (sSet 3 (dVar 7)) (sNil))) (
  sRet (dVar 3))))))
def sem_known_at : Sem := runF 8 den_known_at
def den_known_table : DS :=
  sSeq (sExpr (dCall (sem_need_corrections) [dVar 0])) (
  sRet (dCall (sem_table_in) [dVar 0]))
def sem_known_table : Sem := runF 1 den_known_table
def den_needless : DS :=
  sSeq (sExpr (dCall (sem_need_corrections) [dVar 0])) (
  sSeq (sPar [(1, false), (2, true)] [dCall (sem_table_in) [dVar 0], dLst []]) (
  sSeq (sFor (iRng1 (dB bLen [dVar 0])) (tgN 3) (sIf (tBl (dO2 D.eq (dCall (sem_table_in) [dO2 D.addA (dSl D.slA (dVar 0) none (some (dVar 3))) (dSl D.slA (dVar 0) (some (dO2 D.addA (dVar 3) (dC (.int 1)))) none)]) (dVar 1))) (sApp 2 (dVar 3)) (sNil))) (
  sRet (dB bTuple [dVar 2]))))
def sem_needless : Sem := runF 4 den_needless
def den__law_right : DS :=
  sSeq (sSet 3 (dCall (sem__law_table) [dVar 1])) (
  sSeq (sIf (tNot (tE (dCall (sem__law_like 40) [dLst [dCall (sem_are_corrections) [dVar 1], dCall (sem_known_table) [dVar 1]], dLst [dC (.bl true), dVar 3]]))) (sRet (dC (.bl false))) (sNil)) (
  sSeq (sFor (iRng1 (dC (.int 4))) (tgN 4) (sSeq (sSet 5 (dCall (sem__law_some) [dVar 0, dO2 D.addA (dO2 D.addA (dLst [dC (.int 0), dC (.int 1000), dCall (sem__law_roll) [dVar 0, dC (.int 1001)]]) (dComp (iSeq false (dVar 1)) (tgN 8) (tYes) (dO2 D.ix (dVar 8) (dC (.int 0))) [8])) (dComp (iSeq false (dVar 1)) (tgN 8) (tYes) (dB bMax2 [dC (.int 0), dO2 D.subA (dO2 D.ix (dVar 8) (dC (.int 0))) (dC (.int 1))]) [8])])) (
  sSeq (sSet 6 (dCall (sem__law_some) [dVar 0, dO2 D.addA (dO2 D.addA (dLst [dC (.int 0), dC (.int 99), dCall (sem__law_roll) [dVar 0, dC (.int 100)]]) (dComp (iSeq false (dVar 1)) (tgN 8) (tYes) (dO2 D.ix (dVar 8) (dC (.int 1))) [8])) (dComp (iSeq false (dVar 1)) (tgN 8) (tYes) (dO2 D.ix (dVar 8) (dC (.int 2))) [8])])) (
  sIf (tNot (tE (dCall (sem__law_like 40) [dCall (sem_known_at) [dVar 1, dVar 5, dVar 6], dO2 D.ix (dCall (sem__law_hours) [dVar 1, dVar 5]) (dVar 6)]))) (sRet (dC (.bl false))) (sNil))))) (
  sSeq (sIf (tNot (tE (dVar 2))) (sRet (dC (.bl true))) (sNil)) (
  sSeq (sSet 7 (dB bTuple [dComp (iRng1 (dB bLen [dVar 1])) (tgN 9) (tBl (dO2 D.eq (dCall (sem__law_table) [dO2 D.addA (dSl D.slA (dVar 1) none (some (dVar 9))) (dSl D.slA (dVar 1) (some (dO2 D.addA (dVar 9) (dC (.int 1)))) none)]) (dVar 3))) (dVar 9) [9]])) (
  sSeq (sIf (tNot (tE (dCall (sem__law_like 40) [dCall (sem_needless) [dVar 1], dVar 7]))) (sRet (dC (.bl false))) (sNil)) (
  sRet (dOr (dO2 D.eq (dVar 7) (dTup [])) (dO2 D.eq (dCall (sem_known_table) [dO2 D.addA (dSl D.slA (dVar 1) none (some (dO2 D.ix (dVar 7) (dC (.int 0))))) (dSl D.slA (dVar 1) (some (dO2 D.addA (dO2 D.ix (dVar 7) (dC (.int 0))) (dC (.int 1)))) none)]) (dVar 3)))))))))
def sem__law_right : Sem := runF 10 den__law_right
def den__law_great_right : DS :=
  sSeq (sSet 1 (dCall (sem__law_roll) [dVar 0, dC (.int 30)])) (
  sSeq (sSet 2 (dB bTuple [dComp (iRng1 (dC (.int 60))) (tgN 5) (tYes) (dTup [dO2 D.mulA (dC (.int 10)) (dVar 5), dVar 5, dC (.int 99), dO2 D.mod (dB bInt [dVar 5]) (dC (.int 2))]) [5]])) (
  sSeq (sSet 3 (dB bTuple [dComp (iRng1 (dC (.int 60))) (tgN 5) (tYes) (dTup [dO2 D.fdiv (dB bInt [dVar 5]) (dC (.int 2)), dC (.int 0), dC (.int 99), dO2 D.mod (dB bInt [dO2 D.fdiv (dVar 5) (dC (.int 2))]) (dC (.int 10))]) [5]])) (
  sSeq (sSet 4 (dCall (sem_known_table) [dVar 2])) (
  sSeq (sIf (tOr (tBl (dO2 D.ne (dB bLen [dVar 4]) (dC (.int 60)))) (tOr (tBl (dO2 D.ne (dO2 D.ix (dVar 4) (dO1 D.neg (dC (.int 1)))) (dTup [dC (.int 590), dO2 D.addA (dB bTuple [dComp (iRng1 (dC (.int 59))) (tgN 6) (tYes) (dTup [dVar 6, dVar 6, dO2 D.mod (dB bInt [dVar 6]) (dC (.int 2))]) [6]]) (dTup [dTup [dC (.int 59), dC (.int 99), dC (.int 1)]])]))) (tBl (dO2 D.ne (dCall (sem_needless) [dVar 2]) (dTup []))))) (sRet (dC (.bl false))) (sNil)) (
  sSeq (sIf (tOr (tBl (dO2 D.ne (dCall (sem_known_at) [dVar 2, dO2 D.addA (dO2 D.mulA (dC (.int 10)) (dVar 1)) (dC (.int 9)), dO2 D.addA (dVar 1) (dC (.int 1))]) (dO2 D.mod (dB bInt [dVar 1]) (dC (.int 2))))) (tBl (dO2 D.ne (dCall (sem_known_at) [dVar 2, dO2 D.addA (dO2 D.mulA (dC (.int 10)) (dVar 1)) (dC (.int 10)), dO2 D.addA (dVar 1) (dC (.int 1))]) (dO2 D.mod (dB bInt [dO2 D.addA (dVar 1) (dC (.int 1))]) (dC (.int 2)))))) (sRet (dC (.bl false))) (sNil)) (
  sSeq (sIf (tOr (tBl (dO2 D.ne (dCall (sem_known_table) [dVar 3]) (dB bTuple [dComp (iRng1 (dC (.int 30))) (tgN 5) (tYes) (dTup [dVar 5, dTup [dTup [dC (.int 0), dC (.int 99), dO2 D.mod (dB bInt [dVar 5]) (dC (.int 10))]]]) [5]]))) (tBl (dO2 D.ne (dCall (sem_needless) [dVar 3]) (dTupleRng1 (dC (.int 60)))))) (sRet (dC (.bl false))) (sNil)) (
  sRet (dO2 D.eq (dCall (sem_known_table) [dO2 D.mulA (dTup [dTup [dC (.int 1000), dC (.int 99), dC (.int 99), dC (.int 9)]]) (dC (.int 60))]) (dTup [dTup [dC (.int 1000), dTup [dTup [dC (.int 99), dC (.int 99), dC (.int 9)]]]])))))))))
def sem__law_great_right : Sem := runF 7 den__law_great_right
def den__law_errors_right : DS :=
  sSeq (sSet 3 (dTup [dC (.int 2), dC (.int 0), dC (.int 9), dC (.int 5)])) (
  sSeq (sSet 0 (dLst [dC .non, dLst [dVar 3], dO2 D.mulA (dTup [dVar 3]) (dC (.int 61)), dTup [dSl D.slA (dVar 3) none (some (dC (.int 3)))], dTup [dO2 D.addA (dVar 3) (dTup [dC (.int 0)])], dTup [dB bList [dVar 3]], dTup [dTup [dC (.int 3), dC (.int 0), dC (.int 9), dC (.int 5)], dVar 3], dTup [dTup [dC (.int 1001), dC (.int 0), dC (.int 9), dC (.int 5)]], dTup [dTup [dO1 D.neg (dC (.int 1)), dC (.int 0), dC (.int 9), dC (.int 5)]], dTup [dTup [dC (.int 2), dC (.int 5), dC (.int 4), dC (.int 5)]], dTup [dTup [dC (.int 2), dC (.int 0), dC (.int 100), dC (.int 5)]]])) (
  sSeq (sSet 0 (dO2 D.addA (dVar 0) (dLst [dTup [dTup [dC (.int 2), dO1 D.neg (dC (.int 1)), dC (.int 9), dC (.int 5)]], dTup [dTup [dC (.int 2), dC (.int 0), dC (.int 9), dC (.int 10)]], dTup [dTup [dC (.int 2), dC (.int 0), dC (.int 9), dO1 D.neg (dC (.int 1))]], dTup [dTup [dC (.int 2), dC (.int 0), dC (.int 9), dC (.bl true)]], dTup [dTup [dC (.bl true), dC (.int 0), dC (.int 9), dC (.int 5)]], dTup [dTup [dC (.int 2), dC (.int 0), dC .non, dC (.int 5)]], dVar 3]))) (
  sSeq (sIf (tOr (tBl (dO2 D.ne (dComp (iSeq false (dVar 0)) (tgN 1) (tBl (dO2 D.notB (dCall (sem_are_corrections) [dVar 1]) (dC (.bl false)))) (dVar 1) [1]) (dLst []))) (tBl (dO2 D.ne (dComp (iSeq false (dTup [dTup [], dO2 D.mulA (dTup [dVar 3]) (dC (.int 60)), dTup [dTup [dC (.int 1000), dC (.int 99), dC (.int 99), dC (.int 9)]]])) (tgN 4) (tYes) (dCall (sem_are_corrections) [dVar 4]) [4]) (dO2 D.mulA (dLst [dC (.bl true)]) (dC (.int 3)))))) (sRet (dC (.bl false))) (sNil)) (
  sSeq (sOwn 2 (dLst [])) (
  sSeq (sFor (iSeq true (dSl D.slA (dVar 0) none (some (dC (.int 8))))) (tgN 1) (sSeq (sOwn 2 (dO2 D.cat (dVar 2) (dComp (iSeq false (dTup [dC (.fn 9), dC (.fn 10)])) (tgN 5) (tYes) (dLam sem__law_error (dCallV (fun k => if k = 9 then some (sem_known_table) else if k = 10 then some (sem_needless) else none) 5 [dVar 1])) [5]))) (
  sApp 2 (dLam sem__law_error (dCall (sem_known_at) [dVar 1, dC .non, dC .non]))))) (
  sSeq (sOwn 2 (dO2 D.cat (dVar 2) (dComp (iSeq false (dTup [dC .non, dO1 D.neg (dC (.int 1)), dC (.int 1001), dC (.bl true)])) (tgN 1) (tYes) (dLam sem__law_error (dCall (sem_known_at) [dTup [dVar 3], dVar 1, dC .non])) [1]))) (
  sSeq (sOwn 2 (dO2 D.cat (dVar 2) (dComp (iSeq false (dTup [dC .non, dO1 D.neg (dC (.int 1)), dC (.int 100), dC (.bl false), dC (.str (PySem.Str.ofString "0"))])) (tgN 1) (tYes) (dLam sem__law_error (dCall (sem_known_at) [dTup [dVar 3], dC (.int 0), dVar 1])) [1]))) (
  sRet (dO2 D.eq (dVar 2) (dO2 D.addA (dO2 D.mulA (dLst [dC (.str (PySem.Str.ofString "corrections error"))]) (dC (.int 24))) (dO2 D.mulA (dLst [dC (.str (PySem.Str.ofString "number error"))]) (dC (.int 9)))))))))))))
def sem__law_errors_right : Sem := runF 6 den__law_errors_right
def den_law : DS :=
  sSeq (sFor (iRng1 (dC (.int 3))) (tgN 2) (sIf (tNot (tE (dCall (sem__law_right) [dVar 1, dCall (sem__law_corrections) [dVar 1, dC (.int 6)], dC (.bl true)]))) (sRet (dC (.bl false))) (sNil))) (
  sSeq (sIf (tNot (tE (dCall (sem__law_right) [dVar 1, dCall (sem__law_corrections) [dVar 1, dC (.int 60)], dC (.bl false)]))) (sRet (dC (.bl false))) (sNil)) (
  sSeq (sSet 3 (dTup [dTup [dC (.int 2), dC (.int 0), dC (.int 9), dC (.int 5)], dTup [dC (.int 4), dC (.int 3), dC (.int 5), dC (.int 1)], dTup [dC (.int 4), dC (.int 4), dC (.int 4), dC (.int 5)], dTup [dC (.int 8), dC (.int 0), dC (.int 2), dC (.int 5)]])) (
  sSeq (sSet 4 (dLst [dCall (sem_known_at) [dVar 3, dC (.int 1), dC (.int 0)], dCall (sem_known_at) [dVar 3, dC (.int 4), dC (.int 4)], dCall (sem_known_at) [dVar 3, dC (.int 9), dC (.int 3)], dCall (sem_needless) [dVar 3], dCall (sem_known_table) [dVar 3], dCall (sem_known_table) [dTup []], dCall (sem_needless) [dTup []]])) (
  sSeq (sSet 5 (dLst [dC .non, dC (.int 5), dC (.int 1), dTup [dC (.int 3)], dTup [dTup [dC (.int 2), dTup [dTup [dC (.int 0), dC (.int 9), dC (.int 5)]]], dTup [dC (.int 4), dTup [dTup [dC (.int 0), dC (.int 2), dC (.int 5)], dTup [dC (.int 3), dC (.int 3), dC (.int 1)], dTup [dC (.int 4), dC (.int 4), dC (.int 5)], dTup [dC (.int 5), dC (.int 5), dC (.int 1)], dTup [dC (.int 6), dC (.int 9), dC (.int 5)]]]], dTup [], dTup []])) (
  sSeq (sIf (tNot (tE (dCall (sem__law_like 40) [dVar 4, dVar 5]))) (sRet (dC (.bl false))) (sNil)) (
  sSeq (sIf (tOr (tBl (dO2 D.ne (dCall (sem_known_at) [dVar 3, dC (.int 2), dC (.int 0)]) (dC (.int 5)))) (tBl (dO2 D.ne (dCall (sem_known_table) [dTup [dTup [dC (.int 1), dC (.int 0), dC (.int 1), dC (.int 0)]]]) (dTup [dTup [dC (.int 1), dTup [dTup [dC (.int 0), dC (.int 1), dC (.int 0)]]]])))) (sRet (dC (.bl false))) (sNil)) (
  sRet (dAnd (dCall (sem__law_errors_right) []) (dOr (dO2 D.gt (dCall (sem__law_roll) [dVar 1, dC (.int 5)]) (dC (.int 0))) (dCall (sem__law_great_right) [dVar 1]))))))))))
def run_law (c : C) : F := den_law ((List.replicate 6 .no).set 1 (.val .cup)) c
end K77

set_option maxRecDepth 10000
set_option autoImplicit false
set_option exponentiation.threshold 5000
set_option linter.all false
/-! own work: the helpers that all laws share, as data semantics, and what they answer -/
namespace Com
open DL
def den_roll : DS :=
  sSeq (sIf (tBl (dO2 D.gt (dCup 0 0) (dC (.int 0)))) (sSeq (sSet 2 (dO2 D.mod (dB bInt [dCup 0 0]) (dVar 1))) (
  sSeq (sCup 0 0 (dO2 D.fdiv (dCup 0 0) (dVar 1))) (
  sRet (dVar 2)))) (sNil)) (
  sSeq (sCup 0 1 (dO2 D.mod (dB bInt [dO2 D.addA (dO2 D.mulA (dCup 0 1) (dC (.int 30559))) (dC (.int 8431))]) (dC (.int 2147483543)))) (
  sSeq (sSet 3 (dO2 D.mod (dB bInt [dO2 D.mulA (dCup 0 1) (dO2 D.addA (dCup 0 1) (dC (.int 263)))]) (dC (.int 2147483587)))) (
  sRet (dO2 D.mod (dB bInt [dO2 D.fdiv (dVar 3) (dC (.int 853))]) (dVar 1)))))
def m_roll : Sem := runF 4 den_roll
def den_some : DS :=
  sRet (dO2 D.ix (dVar 1) (dCall (m_roll) [dVar 0, dB bLen [dVar 1]]))
def m_some : Sem := runF 2 den_some
def den_sort : DS :=
  sSeq (sIf (tOr (tBl (dO2 D.isN (dVar 0) (dC .non))) (tE (dB bIsi [dVar 0, dC (.ty 1)]))) (sRet (dIf (tBl (dO2 D.isN (dVar 0) (dC .non))) (dC (.int 0)) (dC (.int 1)))) (sNil)) (
  sSeq (sIf (tOr (tE (dB bIsi [dVar 0, dC (.ty 2)])) (tE (dB bIsi [dVar 0, dC (.ty 3)]))) (sRet (dIf (tE (dB bIsi [dVar 0, dC (.ty 2)])) (dC (.int 2)) (dC (.int 3)))) (sNil)) (
  sRet (dIf (tE (dB bIsi [dVar 0, dC (.ty 4)])) (dC (.int 4)) (dIf (tE (dB bIsi [dVar 0, dC (.ty 5)])) (dC (.int 5)) (dC (.int 6))))))
def m_sort : Sem := runF 1 den_sort
def den_like (self_ : Sem) : DS :=
  sSeq (sSet 2 (dCall (m_sort) [dVar 1])) (
  sSeq (sIf (tOr (tBl (dO2 D.ne (dCall (m_sort) [dVar 0]) (dVar 2))) (tBl (dO2 D.eq (dVar 2) (dC (.int 6))))) (sRet (dC (.bl false))) (sNil)) (
  sSeq (sIf (tBl (dO2 D.mem (dVar 2) (dTup [dC (.int 4), dC (.int 5)]))) (sRet (dAnd (dO2 D.eq (dB bLen [dVar 0]) (dB bLen [dVar 1])) (dO2 D.eq (dComp (iZip2A false (dVar 0) (dVar 1)) (tgT [tgN 3, tgN 4]) (tNot (tE (dCall (self_) [dVar 3, dVar 4]))) (dC (.int 1)) [3, 4]) (dLst [])))) (sNil)) (
  sRet (dO2 D.eq (dVar 0) (dVar 1)))))
def m_like : Nat → Sem
  | 0 => fun _ _ => .st
  | k + 1 => runF 5 (den_like (m_like k))

theorem if_skip {s : DS} {q : DT} {env : Env} {c c1 : C} (h : q env c = .ok false c1) : sIf q s sNil env c = .nx env c1 := if_f h
/-! ### numbers -/
theorem small_wide {m : Int} (h0 : 0 ≤ m) (h : m ≤ 2 ^ 64) : m.natAbs < wideLine := by
  unfold wideLine
  have h1 : m.natAbs ≤ 2 ^ 64 := by omega
  exact Nat.lt_of_le_of_lt h1 (Nat.pow_lt_pow_right (by decide) (by decide))
theorem mulOk_l {i j : Int} (h0 : 0 ≤ i) (h : i < 2 ^ 64) : mulOk i j = true := by
  unfold mulOk
  rw [decide_eq_true (show -(2 ^ 64) < i by omega), decide_eq_true h]
  rfl
theorem mulOk_r {i j : Int} (h0 : 0 ≤ j) (h : j < 2 ^ 64) : mulOk i j = true := by
  unfold mulOk
  rw [decide_eq_true (show -(2 ^ 64) < j by omega), decide_eq_true h]
  simp
theorem mulA_some {i j : Int} (h : mulOk i j = true) : D.mulA (.int i) (.int j) = some (.int (i * j)) := by
  unfold D.mulA D.mul
  dsimp only
  rw [if_pos h]
  rfl
theorem addA_int {i j : Int} : D.addA (.int i) (.int j) = some (.int (i + j)) := rfl
theorem subA_int {i j : Int} : D.subA (.int i) (.int j) = some (.int (i - j)) := rfl
theorem fdiv_some {i j : Int} (h0 : 0 < j) (h : j.natAbs < wideLine) : D.fdiv (.int i) (.int j) = some (.int (i / j)) := if_pos ⟨h0, h⟩
theorem okR_nat {n : Nat} (h : n ≤ 1000) : okR (n : Int) = true := by
  unfold okR
  have h1 : -rngLine ≤ (n : Int) := by unfold rngLine; omega
  have h2 : (n : Int) < rngLine := by unfold rngLine; omega
  rw [decide_eq_true h1, decide_eq_true h2]
  rfl
theorem le_sizeL {n : Nat} (h : n ≤ 10000) : n ≤ sizeL := by unfold sizeL; omega
theorem rng1_nat (e : DE) (env : Env) (c c' : C) (n : Nat) (hn : n ≤ 1000) (h : e env c = .ok (.pl (.int n)) c') : iRng1 e env c = .ok (rng 0 n) c' := by
  have h3 : kRng1 (.pl (.int n)) c' = .ok (rng 0 n) c' := by
    unfold kRng1
    simp only [ev_rvd, Int.toNat_natCast]
    rw [if_pos (by rw [okR_nat hn, decide_eq_true (le_sizeL (by omega))]; decide)]
  unfold iRng1
  rw [h, ev_bind_ok, h3]
theorem rng2_nat (e f : DE) (env : Env) (c c' c'' : C) (a b : Nat) (ha : a ≤ 1000) (hb : b ≤ 1000) (h : e env c = .ok (.pl (.int a)) c') (h' : f env c' = .ok (.pl (.int b)) c'') : iRng2 e f env c = .ok (rng a (b - a)) c'' := by
  have h3 : kRng2 (.pl (.int a)) (.pl (.int b)) c'' = .ok (rng a (b - a)) c'' := by
    unfold kRng2
    simp only [ev_rvd]
    rw [show ((b : Int) - a).toNat = b - a by omega, if_pos (by rw [okR_nat ha, okR_nat hb, decide_eq_true (le_sizeL (show b - a ≤ 10000 by omega))]; decide)]
  unfold iRng2
  rw [h, ev_bind_ok, h', ev_bind_ok, h3]
theorem rng_next (lo j : Nat) : rng (lo : Int) (j + 1) = .int lo :: rng ((lo + 1 : Nat) : Int) j := by
  rw [rng]
  push_cast
  rfl
theorem add1 {env : Env} {i : Nat} {x : Nat} {c : C} (h : env[i]? = some (.val (.int x))) : dO2 D.addA (dVar i) (dC (.int 1)) env c = .ok (.pl (.int (x + 1 : Nat))) c := by
  simp only [dO2, ev_var h, ev_bind_ok, ev_c, ev_rvd, addA_int, ev_opt1s]
  push_cast
  rfl
theorem one_plus {e : DE} {env : Env} {x : Nat} {c c1 : C} (h : e env c = .ok (.pl (.int x)) c1) : dO2 D.addA (dC (.int 1)) e env c = .ok (.pl (.int (1 + x : Nat))) c1 := by
  refine o2_of (u := .pl _) (v := .pl _) rfl h ?_
  rw [ev_rvd, ev_rvd, addA_int]
  push_cast
  rfl
theorem plus_one {e : DE} {env : Env} {x : Nat} {c c1 : C} (h : e env c = .ok (.pl (.int x)) c1) : dO2 D.addA e (dC (.int 1)) env c = .ok (.pl (.int (x + 1 : Nat))) c1 := by
  refine o2_of (u := .pl _) (v := .pl _) h rfl ?_
  rw [ev_rvd, ev_rvd, addA_int]
  push_cast
  rfl
/-! ### the cup -/
theorem roll_int (c : C) (m : Int) (hm : 0 < m) (hw : m ≤ 2 ^ 64) : ∃ v c', m_roll [.cup, .int m] c = .ok (.int v) c' ∧ 0 ≤ v ∧ v < m := by
  have hw' := small_wide (Int.le_of_lt hm) hw
  by_cases h : 0 < c.a
  · refine ⟨c.a % m, ⟨c.a / m, c.b⟩, ?_, Int.emod_nonneg _ (by omega), Int.emod_lt_of_pos _ hm⟩
    simp [m_roll, runF, den_roll, sSeq, sIf, tBl, dO2, dCup, sSet, kSet, dB, dVar, bInt, D.gt, D.mod, D.fdiv, sCup, sRet, cupGet, cupPut, h, hm, hw']
  · have k1 : mulOk c.b 30559 = true := mulOk_r (by decide) (by decide)
    have k2 : mulOk ((c.b * 30559 + 8431) % 2147483543) ((c.b * 30559 + 8431) % 2147483543 + 263) = true := mulOk_l (Int.emod_nonneg _ (by decide)) (Int.lt_trans (Int.emod_lt_of_pos _ (by decide)) (by decide))
    have k3 : (853 : Nat) < wideLine := small_wide (m := 853) (by decide) (by decide)
    refine ⟨(((c.b * 30559 + 8431) % 2147483543 * ((c.b * 30559 + 8431) % 2147483543 + 263)) % 2147483587 / 853) % m, ⟨c.a, (c.b * 30559 + 8431) % 2147483543⟩, ?_, Int.emod_nonneg _ (by omega), Int.emod_lt_of_pos _ hm⟩
    simp [m_roll, runF, den_roll, sSeq, sIf, sNil, tBl, dO2, dCup, sSet, kSet, dB, dVar, bInt, D.gt, D.mod, D.fdiv, D.addA, D.add, D.mulA, D.mul, sCup, sRet, cupGet, cupPut, h, hm, hw', k1, k2, k3]
theorem roll_spec (c : C) (m : Nat) (hm : 0 < m) (hw : m ≤ 2 ^ 64) : ∃ (v : Nat) (c' : C), m_roll [.cup, .int m] c = .ok (.int v) c' ∧ v < m := by
  obtain ⟨v, c', r, h0, h1⟩ := roll_int c m (by omega) (by omega)
  obtain ⟨v, rfl⟩ := Int.eq_ofNat_of_zero_le h0
  exact ⟨v, c', r, by omega⟩
theorem ix_lst {xs : List D} {d : D} {i : Nat} (h : xs[i]? = some d) : D.ix (.lst xs) (.int i) = some d := by
  have hl : i < xs.length := (List.getElem?_eq_some_iff.mp h).1
  show (ixD xs.length (i : Int)).bind _ = _
  have e : ixD xs.length (i : Int) = some i := by
    unfold ixD
    rw [if_pos (by omega), if_pos (by omega), Int.toNat_natCast]
  rw [e]
  exact h
theorem ix_tup {xs : List D} {d : D} {i : Nat} (h : xs[i]? = some d) : D.ix (.tup xs) (.int i) = some d := by
  have hl : i < xs.length := (List.getElem?_eq_some_iff.mp h).1
  show (ixD xs.length (i : Int)).bind _ = _
  have e : ixD xs.length (i : Int) = some i := by
    unfold ixD
    rw [if_pos (by omega), if_pos (by omega), Int.toNat_natCast]
  rw [e]
  exact h
theorem some_spec (c : C) (xs : List D) (h0 : 0 < xs.length) (h1 : xs.length ≤ 1000) : ∃ (d : D) (c' : C), d ∈ xs ∧ m_some [.cup, .lst xs] c = .ok d c' := by
  obtain ⟨v, c', r, hv⟩ := roll_spec c xs.length h0 (by omega)
  refine ⟨xs[v], c', List.getElem_mem hv, ?_⟩
  refine run_rt (env := [.val .cup, .val (.lst xs)]) rfl ?_
  have hx : D.ix (.lst xs) (.int v) = some xs[v] := ix_lst (List.getElem?_eq_getElem hv)
  generalize xs[v] = d at hx
  have hb : bLen [.lst xs] = some (.int xs.length) := rfl
  unfold den_some
  simp only [sRet, dO2, dCall, dB, dVar, dArgs, List.getElem?_cons_zero, List.getElem?_cons_succ, ev_bind_ok, ev_rvd, ev_rvo, ev_c, ev_opt1s, List.map_cons, List.map_nil, List.all_cons, List.all_nil, ev_pln, ev_plo, Bool.and_true, Bool.true_or, if_true, ev_of_ok, kSet, List.set_cons_succ, List.set_cons_zero, hb, r, hx]
/-! ### sorts and likeness -/
def sortN : D → Int
  | .non => 0
  | .bl _ => 1
  | .int _ => 2
  | .str _ => 3
  | .tup _ => 4
  | .lst _ => 5
  | _ => 6
theorem sort_spec (d : D) (h : d.kind ≤ 5) (c : C) : m_sort [d] c = .ok (.int (sortN d)) c := by
  cases d <;> first
    | (exfalso; revert h; simp [D.kind]; done)
    | simp [m_sort, runF, den_sort, sSeq, sIf, tOr, tBl, tE, dO2, dVar, D.isN, D.isNon, dB, bIsi, D.kind, D.truth, sNil, sRet, dIf, sortN]
theorem shal_kind {n : Nat} {d : D} (h : d.shal n = true) : d.kind ≤ 5 := by
  cases d <;> first
    | (simp [D.kind]; done)
    | (cases n <;> simp [D.shal] at h)
mutual
theorem eqv_refl : ∀ (n : Nat) (d : D), d.shal n = true → D.eqv d d = true
  | _, .non, _ => rfl
  | _, .bl b, _ => by simp [D.eqv]
  | _, .int i, _ => by simp [D.eqv]
  | _, .str x, _ => by simp [D.eqv]
  | n + 1, .tup xs, h => eqvs_refl n xs (by simpa [D.shal] using h)
  | n + 1, .lst xs, h => eqvs_refl n xs (by simpa [D.shal] using h)
  | 0, .tup xs, h => by simp [D.shal] at h
  | 0, .lst xs, h => by simp [D.shal] at h
  | n, .cup, h => by cases n <;> simp [D.shal] at h
  | n, .fn _, h => by cases n <;> simp [D.shal] at h
  | n, .ty _, h => by cases n <;> simp [D.shal] at h
  | n, .exc, h => by cases n <;> simp [D.shal] at h
theorem eqvs_refl : ∀ (n : Nat) (xs : List D), (∀ x ∈ xs, D.shal n x = true) → D.eqvs xs xs = true
  | _, [], _ => rfl
  | n, x :: xs, h => by
    rw [D.eqvs, eqv_refl n x (h x List.mem_cons_self), eqvs_refl n xs fun y hy => h y (List.mem_cons_of_mem _ hy)]
    rfl
end
theorem shal_up : ∀ (n m : Nat) (d : D), d.shal n = true → n ≤ m → d.shal m = true
  | _, m, .non, _, _ => by cases m <;> rfl
  | _, m, .bl b, _, _ => by cases m <;> rfl
  | _, m, .int i, _, _ => by cases m <;> rfl
  | n, m, .str x, h, _ => by cases m <;> cases n <;> exact h
  | n + 1, m + 1, .tup xs, h, hm => by
    have h : xs.all (D.shal n) = true := h
    show xs.all (D.shal m) = true
    rw [List.all_eq_true] at h ⊢
    exact fun x hx => shal_up n m x (h x hx) (by omega)
  | n + 1, m + 1, .lst xs, h, hm => by
    have h : xs.all (D.shal n) = true := h
    show xs.all (D.shal m) = true
    rw [List.all_eq_true] at h ⊢
    exact fun x hx => shal_up n m x (h x hx) (by omega)
  | 0, _, .tup xs, h, _ => by simp [D.shal] at h
  | 0, _, .lst xs, h, _ => by simp [D.shal] at h
  | _ + 1, 0, .tup xs, _, hm => by omega
  | _ + 1, 0, .lst xs, _, hm => by omega
  | n, _, .cup, h, _ => by cases n <;> simp [D.shal] at h
  | n, _, .fn _, h, _ => by cases n <;> simp [D.shal] at h
  | n, _, .ty _, h, _ => by cases n <;> simp [D.shal] at h
  | n, _, .exc, h, _ => by cases n <;> simp [D.shal] at h
theorem eq_same {d : D} (h : d.shal 60 = true) : D.eq d d = some (.bl true) := by
  unfold D.eq
  rw [h, eqv_refl 60 d h]
  rfl
theorem eq_int (a b : Int) : D.eq (.int a) (.int b) = some (.bl (a == b)) := by simp [D.eq, D.shal, D.eqv]
theorem ne_int (a b : Int) : D.ne (.int a) (.int b) = some (.bl (!(a == b))) := by simp [D.ne, D.shal, D.eqv]
theorem eq_nil {xs : List D} (h : ∀ x ∈ xs, D.shal 59 x = true) : D.eq (.lst xs) (.lst []) = some (.bl xs.isEmpty) := by
  unfold D.eq
  rw [show D.shal 60 (.lst xs) = xs.all (D.shal 59) from rfl, List.all_eq_true.mpr h]
  cases xs <;> rfl
theorem ne_nil {xs : List D} (h : ∀ x ∈ xs, D.shal 59 x = true) : D.ne (.lst xs) (.lst []) = some (.bl !xs.isEmpty) := by
  unfold D.ne
  rw [show D.shal 60 (.lst xs) = xs.all (D.shal 59) from rfl, List.all_eq_true.mpr h]
  cases xs <;> rfl
theorem eq_nilT {xs : List D} (h : ∀ x ∈ xs, D.shal 59 x = true) : D.eq (.tup xs) (.tup []) = some (.bl xs.isEmpty) := by
  unfold D.eq
  rw [show D.shal 60 (.tup xs) = xs.all (D.shal 59) from rfl, List.all_eq_true.mpr h]
  cases xs <;> rfl
theorem mem_sort (a : Int) : D.mem (.int a) (.tup [.int 4, .int 5]) = some (.bl ((4 == a) || (5 == a))) := by simp [D.mem, D.memB, D.items, D.flat, D.eqv]
def likeIn (self_ : Sem) : DE := dComp (iZip2A false (dVar 0) (dVar 1)) (tgT [tgN 3, tgN 4]) (tNot (tE (dCall (self_) [dVar 3, dVar 4]))) (dC (.int 1)) [3, 4]
theorem like_loop (self_ : Sem) (env : Env) (c : C) (hl : env.length = 5) : ∀ xs : List D, (∀ x ∈ xs, self_ [x, x] c = .ok (.bl true) c) → dLoop (tgT [tgN 3, tgN 4]) (tNot (tE (dCall (self_) [dVar 3, dVar 4]))) (dC (.int 1)) env (zipD xs xs) c = .ok [] c
  | [], _ => rfl
  | x :: xs, h => by
    have ih := like_loop self_ env c hl xs fun y hy => h y (List.mem_cons_of_mem _ hy)
    have e3 : ((env.set 3 (.val x)).set 4 (.val x))[3]? = some (.val x) := by
      rw [List.getElem?_set_ne (by decide), List.getElem?_set_self (by omega)]
    have e4 : ((env.set 3 (.val x)).set 4 (.val x))[4]? = some (.val x) := List.getElem?_set_self (by rw [List.length_set]; omega)
    exact loop_no (env1 := (env.set 3 (.val x)).set 4 (.val x)) rfl (tnot_of (te_bl (call_of (ds := [x, x]) (args_2 (ev_var e3) (ev_var e4)) (h x List.mem_cons_self)))) ih
theorem like_flat {d : D} (self_ : Sem) (c : C) (hk : d.kind ≤ 5) (h : d.shal 60 = true) (h4 : sortN d ≠ 4) (h5 : sortN d ≠ 5) : runF 5 (den_like self_) [d, d] c = .ok (.bl true) c := by
  have hs := sort_spec d hk c
  have h6 : sortN d ≠ 6 := by cases d <;> simp [sortN, D.kind] at hk ⊢
  have m : D.mem (.int (sortN d)) (.tup [.int 4, .int 5]) = some (.bl false) := by
    rw [mem_sort]
    simp [Ne.symm h4, Ne.symm h5]
  have e := eq_same h
  have n1 : D.ne (.int (sortN d)) (.int (sortN d)) = some (.bl false) := by rw [ne_int]; simp
  have n2 : D.eq (.int (sortN d)) (.int 6) = some (.bl false) := by rw [eq_int]; simp [h6]
  refine run_rt (env := [.val d, .val d, .no, .no, .no]) rfl ?_
  unfold den_like
  rw [seq_nx (set_of (call_of (ds := [d]) (args_1 rfl) hs))]
  dsimp only [List.set]
  have hq : (tOr (tBl (dO2 D.ne (dCall (m_sort) [dVar 0]) (dVar 2))) (tBl (dO2 D.eq (dVar 2) (dC (.int 6))))) [.val d, .val d, .val (.int (sortN d)), .no, .no] c = .ok false c :=
    tor_of (j := false) (k := false) (tb_of (o2_of (v := .pl (.int (sortN d))) (call_of (ds := [d]) (args_1 rfl) hs) rfl n1)) (fun _ => tb_of (o2_of (u := .pl (.int (sortN d))) (v := .pl (.int 6)) rfl rfl n2)) (fun z => by cases z)
  rw [seq_nx (if_skip hq)]
  rw [seq_nx (if_skip (tb_of (o2_of (u := .pl _) (v := .pl _) rfl rfl m)))]
  exact ret_of (o2_of (u := .pl _) (v := .pl _) rfl rfl e)
theorem like_seq {d : D} {xs : List D} (self_ : Sem) (c : C) (hd : d = .tup xs ∨ d = .lst xs) (h : ∀ x ∈ xs, self_ [x, x] c = .ok (.bl true) c) : runF 5 (den_like self_) [d, d] c = .ok (.bl true) c := by
  have hk : d.kind ≤ 5 := by rcases hd with rfl | rfl <;> simp [D.kind]
  have hs := sort_spec d hk c
  have h45 : sortN d = 4 ∨ sortN d = 5 := by rcases hd with rfl | rfl <;> simp [sortN]
  have m : D.mem (.int (sortN d)) (.tup [.int 4, .int 5]) = some (.bl true) := by
    rw [mem_sort]
    rcases h45 with e | e <;> rw [e] <;> rfl
  have n1 : D.ne (.int (sortN d)) (.int (sortN d)) = some (.bl false) := by rw [ne_int]; simp
  have n2 : D.eq (.int (sortN d)) (.int 6) = some (.bl false) := by
    rw [eq_int]
    rcases h45 with e | e <;> rw [e] <;> rfl
  have hb : bLen [d] = some (.int xs.length) := by rcases hd with rfl | rfl <;> rfl
  have hi : d.items = some xs := by rcases hd with rfl | rfl <;> rfl
  have hz : ∀ env : Env, env[0]? = some (.val d) → env[1]? = some (.val d) → iZip2A false (dVar 0) (dVar 1) env c = .ok (zipD xs xs) c := fun env h0 h1 => by
    unfold iZip2A
    rw [ev_var h0, ev_bind_ok, ev_var h1, ev_bind_ok]
    unfold kZip2A
    rw [ev_rvd, hi]
    rfl
  refine run_rt (env := [.val d, .val d, .no, .no, .no]) rfl ?_
  unfold den_like
  rw [seq_nx (set_of (call_of (ds := [d]) (args_1 rfl) hs))]
  dsimp only [List.set]
  have hq : (tOr (tBl (dO2 D.ne (dCall (m_sort) [dVar 0]) (dVar 2))) (tBl (dO2 D.eq (dVar 2) (dC (.int 6))))) [.val d, .val d, .val (.int (sortN d)), .no, .no] c = .ok false c :=
    tor_of (j := false) (k := false) (tb_of (o2_of (v := .pl (.int (sortN d))) (call_of (ds := [d]) (args_1 rfl) hs) rfl n1)) (fun _ => tb_of (o2_of (u := .pl (.int (sortN d))) (v := .pl (.int 6)) rfl rfl n2)) (fun z => by cases z)
  rw [seq_nx (if_skip hq)]
  have cl := like_loop self_ [.val d, .val d, .val (.int (sortN d)), .no, .no] c rfl xs h
  have cp : likeIn self_ [.val d, .val d, .val (.int (sortN d)), .no, .no] c = .ok (.pl (.lst [])) c := comp_of (hz _ rfl rfl) cl
  have bb : dO2 D.eq (dB bLen [dVar 0]) (dB bLen [dVar 1]) [.val d, .val d, .val (.int (sortN d)), .no, .no] c = .ok (.pl (.bl true)) c :=
    o2_of (b_of (ds := [d]) (args_1 rfl) hb) (b_of (ds := [d]) (args_1 rfl) hb) (eq_same (d := .int xs.length) rfl)
  refine seq_rt ((if_t (tb_of (o2_of (u := .pl _) (v := .pl _) rfl rfl m))).trans ?_)
  exact ret_of (v := .pl (.bl true)) (and_t bb (o2_of cp (b := dLst []) (v := .pl (.lst [])) rfl rfl))
/-- data are like themselves -/
theorem like_same : ∀ (n k : Nat) (d : D) (c : C), d.shal n = true → n ≤ 60 → n < k → m_like k [d, d] c = .ok (.bl true) c
  | _, 0, _, _, _, _, h => by omega
  | 0, k + 1, d, c, h, _, _ => by
    refine like_flat _ c (shal_kind h) (shal_up 0 60 d h (by omega)) ?_ ?_
    · cases d <;> simp [sortN, D.shal] at h ⊢
    · cases d <;> simp [sortN, D.shal] at h ⊢
  | n + 1, k + 1, d, c, h, hn, hk => by
    by_cases hs : ∃ xs, d = .tup xs ∨ d = .lst xs
    · obtain ⟨xs, hs⟩ := hs
      refine like_seq _ c hs fun x hx => like_same n k x c ?_ (by omega) (by omega)
      rcases hs with rfl | rfl
      · have h : xs.all (D.shal n) = true := h
        exact List.all_eq_true.mp h x hx
      · have h : xs.all (D.shal n) = true := h
        exact List.all_eq_true.mp h x hx
    · refine like_flat _ c (shal_kind h) (shal_up _ 60 d h hn) ?_ ?_
      · intro z
        cases d <;> simp [sortN] at z
        exact hs ⟨_, .inl rfl⟩
      · intro z
        cases d <;> simp [sortN] at z
        exact hs ⟨_, .inr rfl⟩
/-! ### numbers in a row, loops -/
def upTo (lo : Nat) : Nat → List Nat
  | 0 => []
  | j + 1 => lo :: upTo (lo + 1) j
theorem upTo_len : ∀ j lo, (upTo lo j).length = j
  | 0, _ => rfl
  | j + 1, lo => by rw [upTo, List.length_cons, upTo_len j]
theorem upTo_mem : ∀ {j lo x : Nat}, x ∈ upTo lo j → lo ≤ x ∧ x < lo + j
  | 0, _, _, h => by cases h
  | j + 1, lo, x, h => by
    rcases List.mem_cons.mp h with rfl | h
    · omega
    · have := upTo_mem h
      omega
theorem upTo_get : ∀ j lo i, i < j → (upTo lo j)[i]? = some (lo + i)
  | 0, _, _, h => by omega
  | j + 1, lo, 0, _ => rfl
  | j + 1, lo, i + 1, h => by
    rw [upTo, List.getElem?_cons_succ, upTo_get j (lo + 1) i (by omega)]
    congr 1
    omega
theorem rng_up : ∀ (j lo : Nat), rng (lo : Int) j = (upTo lo j).map fun (x : Nat) => D.int x
  | 0, _ => rfl
  | j + 1, lo => by rw [rng_next, rng_up j (lo + 1)]; rfl
/-- a comprehension over things f x, x in I: those with p, as g -/
theorem loop_gen {α : Type} (f g : α → D) (p : α → Bool) (tg : TG) (t : DT) (e : DE) (env : Env) (cup : C) : ∀ I : List α, (∀ i ∈ I, ∃ env2, tg (f i) env = some env2 ∧ t env2 cup = .ok (p i) cup ∧ (p i = true → e env2 cup = .ok (.pl (g i)) cup)) → dLoop tg t e env (I.map f) cup = .ok ((I.filter p).map g) cup
  | [], _ => rfl
  | i :: I, h => by
    obtain ⟨env2, h1, h2, h3⟩ := h i List.mem_cons_self
    have ih := loop_gen f g p tg t e env cup I fun j hj => h j (List.mem_cons_of_mem _ hj)
    rw [List.map_cons]
    cases hp : p i with
    | true =>
      rw [hp] at h2
      rw [List.filter_cons_of_pos hp]
      exact loop_yes h1 h2 (h3 hp) ih
    | false =>
      rw [hp] at h2
      rw [List.filter_cons_of_neg (by rw [hp]; decide)]
      exact loop_no h1 h2 ih
theorem loop_all {α : Type} (f g : α → D) (tg : TG) (e : DE) (env : Env) (cup : C) : ∀ I : List α, (∀ i ∈ I, ∃ env2, tg (f i) env = some env2 ∧ e env2 cup = .ok (.pl (g i)) cup) → dLoop tg tYes e env (I.map f) cup = .ok (I.map g) cup
  | [], _ => rfl
  | i :: I, h => by
    obtain ⟨env2, h1, h2⟩ := h i List.mem_cons_self
    exact loop_yes h1 rfl h2 (loop_all f g tg e env cup I fun j hj => h j (List.mem_cons_of_mem _ hj))
/-- a comprehension whose elements stir the cup: each has P -/
theorem loop_cup (P : D → Prop) (tg : TG) (e : DE) (env : Env) : ∀ (xs : List D) (c : C), (∀ x ∈ xs, ∀ c, ∃ env2 d c', tg x env = some env2 ∧ e env2 c = .ok (.pl d) c' ∧ P d) → ∃ ds c', dLoop tg tYes e env xs c = .ok ds c' ∧ ds.length = xs.length ∧ ∀ d ∈ ds, P d
  | [], c, _ => ⟨[], c, rfl, rfl, fun _ h => by cases h⟩
  | x :: xs, c, h => by
    obtain ⟨env2, d, c1, h1, h2, h3⟩ := h x List.mem_cons_self c
    obtain ⟨ds, c2, e2, hl, hp⟩ := loop_cup P tg e env xs c1 fun y hy => h y (List.mem_cons_of_mem _ hy)
    refine ⟨d :: ds, c2, loop_yes h1 rfl h2 e2, by rw [List.length_cons, List.length_cons, hl], fun z hz => ?_⟩
    rcases List.mem_cons.mp hz with rfl | hz
    · exact h3
    · exact hp z hz
theorem iseq_of {st : Bool} {e : DE} {env : Env} {c c' : C} {d : D} {xs : List D} (h : e env c = .ok (.pl d) c') (hi : d.items = some xs) : iSeq st e env c = .ok xs c' := by
  have g : (RV.pl d).good st = true := by cases st <;> rfl
  rw [iSeq, h, ev_bind_ok, if_pos g, ev_rvd, hi]
/-! ### slices -/
theorem slice_of {e : DE} {a b : Option DE} {i j : Option Int} {env : Env} {c c1 c2 c3 : C} {x y : D} (h : e env c = .ok (.pl x) c1) (h1 : dPart a env c1 = .ok i c2) (h2 : dPart b env c2 = .ok j c3) (h3 : D.slA x i j = some y) : dSl D.slA e a b env c = .ok (.pl y) c3 := by
  rw [dSl, h, ev_bind_ok, h1, ev_bind_ok, h2, ev_bind_ok, ev_rvd, h3]
  rfl
theorem part_of {e : DE} {i : Int} {env : Env} {c c1 : C} (h : e env c = .ok (.pl (.int i)) c1) : dPart (some e) env c = .ok (some i) c1 := by
  show (e env c).bind _ = _
  rw [h]
  rfl
theorem cutAt_nat (n d i : Nat) : cutAt n d (some (i : Int)) = min i n := by
  unfold cutAt
  dsimp only
  rw [if_neg (by omega), Int.toNat_natCast]
theorem cut_drop {xs : List D} (i : Nat) : cutD xs (some (i : Int)) none = xs.drop i := by
  unfold cutD
  rw [cutAt_nat]
  show (xs.drop (min i xs.length)).take (xs.length - min i xs.length) = _
  rw [List.take_of_length_le (by rw [List.length_drop]; exact Nat.le_refl _)]
  rcases Nat.le_total i xs.length with h | h
  · rw [Nat.min_eq_left h]
  · rw [Nat.min_eq_right h, List.drop_eq_nil_of_le (Nat.le_refl _), List.drop_eq_nil_of_le h]
theorem cut_take {xs : List D} (i : Nat) : cutD xs none (some (i : Int)) = xs.take i := by
  unfold cutD
  rw [cutAt_nat]
  show (xs.drop 0).take (min i xs.length - 0) = _
  rw [List.drop_zero, Nat.sub_zero]
  rcases Nat.le_total i xs.length with h | h
  · rw [Nat.min_eq_left h]
  · rw [Nat.min_eq_right h, List.take_of_length_le (Nat.le_refl _), List.take_of_length_le h]
theorem cut_mid {xs : List D} (i j : Nat) : cutD xs (some (i : Int)) (some (j : Int)) = (xs.drop i).take (j - i) := by
  unfold cutD
  rw [cutAt_nat, cutAt_nat]
  rcases Nat.le_total i xs.length with h | h
  · rw [Nat.min_eq_left h]
    rcases Nat.le_total j xs.length with h2 | h2
    · rw [Nat.min_eq_left h2]
    · rw [Nat.min_eq_right h2, List.take_of_length_le (by rw [List.length_drop]; exact Nat.le_refl _), List.take_of_length_le (by rw [List.length_drop]; omega)]
  · rw [Nat.min_eq_right h, List.drop_eq_nil_of_le (Nat.le_refl _), List.drop_eq_nil_of_le h, List.take_nil, List.take_nil]
theorem slA_lst {xs : List D} {lo hi : Option Int} : D.slA (.lst xs) lo hi = some (.lst (cutD xs lo hi)) := rfl
theorem slA_tup {xs : List D} {lo hi : Option Int} : D.slA (.tup xs) lo hi = some (.tup (cutD xs lo hi)) := rfl
theorem cat_lists {xs ys : List D} (h : xs.length + ys.length ≤ 10000) : D.addA (.lst xs) (.lst ys) = some (.lst (xs ++ ys)) := by
  unfold D.addA D.add D.cat
  dsimp only
  rw [if_pos (le_sizeL h)]
  rfl
theorem cat_tups {xs ys : List D} (h : xs.length + ys.length ≤ 10000) : D.addA (.tup xs) (.tup ys) = some (.tup (xs ++ ys)) := by
  unfold D.addA D.add
  dsimp only
  rw [if_pos (le_sizeL h)]
  rfl
/-! ### steps -/
theorem tgt_of {tg : TG} {e : DE} {env env1 : Env} {c c1 : C} {d : D} (h : e env c = .ok (.pl d) c1) (h2 : tg d env = some env1) : sTgt tg e env c = .nx env1 c1 := by
  rw [sTgt, h]
  show (match tg d env with
    | some env => F.nx env c1
    | none => .st) = _
  rw [h2]
theorem own_of {e : DE} {i : Nat} {xs : List D} {env : Env} {c c1 : C} (h : e env c = .ok (.pl (.lst xs)) c1) : sOwn i e env c = .nx (env.set i (.own xs)) c1 := by
  rw [sOwn, h]
  rfl
theorem par2_of {i j : Nat} {e f : DE} {env : Env} {c c1 c2 : C} {x y : D} (h1 : e env c = .ok (.pl x) c1) (h2 : f env c1 = .ok (.pl y) c2) : sPar [(i, false), (j, false)] [e, f] env c = .nx ((env.set i (.val x)).set j (.val y)) c2 := by
  rw [sPar, args_2 h1 h2]
  rfl
theorem put_of {i : Nat} {k e : DE} {env : Env} {c c1 c2 : C} {xs : List D} {d : D} {j : Nat} (h0 : env[i]? = some (.own xs)) (h1 : e env c = .ok (.pl d) c1) (h2 : k env c1 = .ok (.pl (.int j)) c2) (hj : j < xs.length) : sPut i k e env c = .nx (env.set i (.own (xs.set j d))) c2 := by
  have e : ixD xs.length (j : Int) = some j := by
    unfold ixD
    rw [if_pos (by omega), if_pos (by omega), Int.toNat_natCast]
  rw [sPut, h0]
  dsimp only
  rw [h1]
  show F.of (k env c1) env _ = _
  rw [h2]
  show kPut i env xs (.pl d) (.pl (.int j)) c2 = _
  unfold kPut
  rw [ev_rvd]
  dsimp only
  rw [e]
theorem frz_of {is : List Nat} {s : DS} {env : Env} {c : C} {r : F} (h : s (frzE env is) c = r) : sFrz is s env c = r := h
theorem like_ok {x y : DE} {d : D} {env : Env} {c : C} {like : Sem} (hx : x env c = .ok (.pl d) c) (hy : y env c = .ok (.pl d) c) (h : like [d, d] c = .ok (.bl true) c) : sIf (tNot (tE (dCall like [x, y]))) (sRet (dC (.bl false))) (sNil) env c = .nx env c :=
  if_f (tnot_of (te_bl (call_of (ds := [d, d]) (args_2 hx hy) h)))
theorem ints_map : ∀ xs : List Int, DL.intsOf (xs.map D.int) = some xs
  | [] => rfl
  | x :: xs => by
    show (DL.intsOf (xs.map D.int)).map _ = _
    rw [ints_map xs]
    rfl
theorem bools_map : ∀ xs : List Bool, DL.bools (xs.map D.bl) = some xs
  | [] => rfl
  | x :: xs => by
    show (DL.bools (xs.map D.bl)).map _ = _
    rw [bools_map xs]
    rfl
end Com

set_option maxRecDepth 10000
set_option autoImplicit false
set_option exponentiation.threshold 5000
set_option linter.all false
namespace Com
open DL
def den_m_is_whole : DS :=
  sRet (dAnd (dB bIsi [dVar 0, dC (.ty 2)]) (dAnd (dO1 D.inv (dB bIsi [dVar 0, dC (.ty 1)])) (dChain D.le D.le (dVar 1) (dVar 0) (dVar 2))))
def m_is_whole : Sem := runF 3 den_m_is_whole
def den_m_is_tuple : DS :=
  sRet (dAnd (dB bIsi [dVar 0, dC (.ty 4)]) (dChain D.le D.le (dVar 1) (dB bLen [dVar 0]) (dVar 2)))
def m_is_tuple : Sem := runF 3 den_m_is_tuple
def den_m_are_wholes : DS :=
  sRet (dAnd (dCall (m_is_tuple) [dVar 0, dVar 1, dVar 1]) (dB bAll [dComp (iSeq false (dVar 0)) (tgN 4) (tYes) (dCall (m_is_whole) [dVar 4, dVar 2, dVar 3]) [4]]))
def m_are_wholes : Sem := runF 5 den_m_are_wholes
def den_m_lwhole : DS :=
  sRet (dAnd (dO2 D.eq (dCall (m_sort) [dVar 0]) (dC (.int 2))) (dChain D.le D.le (dVar 1) (dVar 0) (dVar 2)))
def m_lwhole : Sem := runF 3 den_m_lwhole
/-! ### judges of any data -/
theorem guardF {q : DT} {rest : DS} {env : Env} {c : C} {k r : Bool} (hq : q env c = .ok k c) (h2 : k = false → rest env c = .rt (.bl r) c) : sSeq (sIf q (sRet (dC (.bl false))) sNil) rest env c = .rt (.bl (!k && r)) c := by
  cases k with
  | true => exact seq_rt (if_t hq)
  | false => rw [seq_nx (if_skip hq)]; exact h2 rfl
theorem tor2 {p q : DT} {env : Env} {c : C} {j k : Bool} (h : p env c = .ok j c) (h2 : j = false → q env c = .ok k c) : tOr p q env c = .ok (j || k) c := tor_of h h2 fun _ => rfl
theorem dand2 {a b : DE} {env : Env} {c : C} {j k : Bool} (h : a env c = .ok (.pl (.bl j)) c) (h2 : j = true → b env c = .ok (.pl (.bl k)) c) : dAnd a b env c = .ok (.pl (.bl (j && k))) c := by
  cases j with
  | true => exact and_t h (h2 rfl)
  | false => exact and_f h
theorem le_of {a b : DE} {env : Env} {c : C} {i j : Int} (h : a env c = .ok (.pl (.int i)) c) (h2 : b env c = .ok (.pl (.int j)) c) : dO2 D.le a b env c = .ok (.pl (.bl (decide (i ≤ j)))) c := o2_of h h2 rfl
theorem lt_of {a b : DE} {env : Env} {c : C} {i j : Int} (h : a env c = .ok (.pl (.int i)) c) (h2 : b env c = .ok (.pl (.int j)) c) : dO2 D.lt a b env c = .ok (.pl (.bl (decide (i < j)))) c := o2_of h h2 rfl
theorem ge_of {a b : DE} {env : Env} {c : C} {i j : Int} (h : a env c = .ok (.pl (.int i)) c) (h2 : b env c = .ok (.pl (.int j)) c) : dO2 D.ge a b env c = .ok (.pl (.bl (decide (j ≤ i)))) c := o2_of h h2 rfl
theorem chain_le {a b e : DE} {env : Env} {c : C} {i j k : Int} (h : a env c = .ok (.pl (.int i)) c) (h2 : b env c = .ok (.pl (.int j)) c) (h3 : e env c = .ok (.pl (.int k)) c) : dChain D.le D.le a b e env c = .ok (.pl (.bl (decide (i ≤ j) && decide (j ≤ k)))) c := by
  rw [dChain, h, ev_bind_ok, h2, ev_bind_ok]
  simp only [ev_rvd, D.le]
  by_cases hh : i ≤ j
  · simp only [hh, decide_true, h3, ev_bind_ok, ev_rvd, ev_opt1s, Bool.true_and]
  · simp only [hh, decide_false, Bool.false_and]
def isI (lo hi : Int) (d : D) : Bool := match d with
  | .int i => decide (lo ≤ i) && decide (i ≤ hi)
  | _ => false
theorem is_whole_spec (d : D) (hk : d.kind ≤ 5) (lo hi : Int) (c : C) : m_is_whole [d, .int lo, .int hi] c = .ok (.bl (isI lo hi d)) c := by
  refine run_rt (env := [.val d, .val (.int lo), .val (.int hi)]) rfl ?_
  unfold den_m_is_whole
  by_cases hi2 : ∃ i, d = .int i
  · obtain ⟨i, rfl⟩ := hi2
    exact ret_of (v := .pl (.bl (isI lo hi (.int i)))) (and_t (b_of (ds := [.int i, .ty 2]) rfl rfl) (and_t (o1_of (b_of (ds := [.int i, .ty 1]) rfl rfl) rfl) (chain_le rfl rfl rfl)))
  · have e : isI lo hi d = false := by
      cases d <;> first
        | rfl
        | exact absurd ⟨_, rfl⟩ hi2
    rw [e]
    by_cases hb : ∃ b, d = .bl b
    · obtain ⟨b, rfl⟩ := hb
      exact ret_of (v := .pl (.bl false)) (and_t (b_of (ds := [.bl b, .ty 2]) rfl rfl) (and_f (o1_of (b_of (ds := [.bl b, .ty 1]) rfl rfl) rfl)))
    · have q : bIsi [d, .ty 2] = some (.bl false) := by
        cases d <;> first
          | exact absurd ⟨_, rfl⟩ hi2
          | exact absurd ⟨_, rfl⟩ hb
          | (exfalso; revert hk; simp [D.kind]; done)
          | rfl
      exact ret_of (v := .pl (.bl false)) (and_f (b_of (ds := [d, .ty 2]) rfl q))
theorem law_is_whole_spec (d : D) (hk : d.kind ≤ 5) (lo hi : Int) (c : C) : m_lwhole [d, .int lo, .int hi] c = .ok (.bl (isI lo hi d)) c := by
  have hs : m_sort [d] c = .ok (.int (sortN d)) c := sort_spec d hk c
  refine run_rt (env := [.val d, .val (.int lo), .val (.int hi)]) rfl ?_
  unfold den_m_lwhole
  by_cases hi2 : ∃ i, d = .int i
  · obtain ⟨i, rfl⟩ := hi2
    exact ret_of (v := .pl (.bl (isI lo hi (.int i)))) (and_t (o2_of (v := .pl (.int 2)) (call_of (ds := [.int i]) rfl hs) rfl (eq_same (d := .int 2) rfl)) (chain_le rfl rfl rfl))
  · have e : isI lo hi d = false := by
      cases d <;> first
        | rfl
        | exact absurd ⟨_, rfl⟩ hi2
    rw [e]
    have q : D.eq (.int (sortN d)) (.int 2) = some (.bl false) := by
      rw [eq_int]
      cases d <;> first
        | exact absurd ⟨_, rfl⟩ hi2
        | rfl
    exact ret_of (v := .pl (.bl false)) (and_f (o2_of (v := .pl (.int 2)) (call_of (ds := [d]) rfl hs) rfl q))
def tupB (lo hi : Int) (d : D) : Bool := match d with
  | .tup xs => decide (lo ≤ (xs.length : Int)) && decide ((xs.length : Int) ≤ hi)
  | _ => false
theorem tupB_tup {lo hi : Int} {d : D} (h : tupB lo hi d = true) : ∃ xs, d = .tup xs ∧ lo ≤ (xs.length : Int) ∧ (xs.length : Int) ≤ hi := by
  cases d <;> simp [tupB] at h
  exact ⟨_, rfl, h.1, h.2⟩
theorem is_tuple_spec (d : D) (hk : d.kind ≤ 5) (lo hi : Int) (c : C) : m_is_tuple [d, .int lo, .int hi] c = .ok (.bl (tupB lo hi d)) c := by
  refine run_rt (env := [.val d, .val (.int lo), .val (.int hi)]) rfl ?_
  unfold den_m_is_tuple
  by_cases ht : ∃ xs, d = .tup xs
  · obtain ⟨xs, rfl⟩ := ht
    exact ret_of (v := .pl (.bl (tupB lo hi (.tup xs)))) (and_t (b_of (ds := [.tup xs, .ty 4]) rfl rfl) (chain_le rfl (b_of (ds := [.tup xs]) rfl rfl) rfl))
  · have e : tupB lo hi d = false := by
      cases d <;> first
        | rfl
        | exact absurd ⟨_, rfl⟩ ht
    have q : bIsi [d, .ty 4] = some (.bl false) := by
      cases d <;> first
        | exact absurd ⟨_, rfl⟩ ht
        | (exfalso; revert hk; simp [D.kind]; done)
        | rfl
    rw [e]
    exact ret_of (v := .pl (.bl false)) (and_f (b_of (ds := [d, .ty 4]) rfl q))
def allI (lo hi : Int) (d : D) : Bool := match d with
  | .tup xs => xs.all (isI lo hi)
  | _ => false
theorem kinds_of {n : Nat} {xs : List D} (h : xs.all (D.shal n) = true) : ∀ x ∈ xs, x.kind ≤ 5 := fun x hx => shal_kind (List.all_eq_true.mp h x hx)
theorem are_wholes_spec (xs : List D) (hk : ∀ x ∈ xs, x.kind ≤ 5) (many lo hi : Int) (c : C) : m_are_wholes [.tup xs, .int many, .int lo, .int hi] c = .ok (.bl (tupB many many (.tup xs) && allI lo hi (.tup xs))) c := by
  refine run_rt (env := [.val (.tup xs), .val (.int many), .val (.int lo), .val (.int hi), .no]) rfl ?_
  unfold den_m_are_wholes
  have lp := loop_all (α := D) id (fun x => .bl (isI lo hi x)) (tgN 4) (dCall (m_is_whole) [dVar 4, dVar 2, dVar 3]) (wipeE [.val (.tup xs), .val (.int many), .val (.int lo), .val (.int hi), .no] [4]) c xs
    (fun x hx => ⟨_, rfl, call_of (ds := [x, .int lo, .int hi]) (args_3 rfl rfl rfl) (is_whole_spec x (hk x hx) lo hi c)⟩)
  rw [List.map_id] at lp
  have hall : bAll [.lst (xs.map fun x => D.bl (isI lo hi x))] = some (.bl (xs.all (isI lo hi))) := by
    have : (xs.map fun x => D.bl (isI lo hi x)) = (xs.map (isI lo hi)).map D.bl := by rw [List.map_map]; rfl
    rw [this]
    show (DL.bools _).map _ = _
    rw [bools_map]
    simp [List.all_map]
  exact ret_of (v := .pl (.bl _)) (dand2 (call_of (ds := [.tup xs, .int many, .int many]) rfl (is_tuple_spec (.tup xs) (by simp [D.kind]) many many c)) fun _ => b_of (ds := [.lst _]) (args_1 (comp_of (iseq_of (d := .tup xs) rfl rfl) lp)) hall)
theorem are_wholes_not (d : D) (hk : d.kind ≤ 5) (ht : ¬ ∃ xs, d = .tup xs) (many lo hi : Int) (c : C) : m_are_wholes [d, .int many, .int lo, .int hi] c = .ok (.bl false) c := by
  refine run_rt (env := [.val d, .val (.int many), .val (.int lo), .val (.int hi), .no]) rfl ?_
  unfold den_m_are_wholes
  have e : tupB many many d = false := by
    cases d <;> first
      | rfl
      | exact absurd ⟨_, rfl⟩ ht
  have q := is_tuple_spec d hk many many c
  rw [e] at q
  exact ret_of (v := .pl (.bl false)) (and_f (call_of (ds := [d, .int many, .int many]) rfl q))
theorem filt_empty {xs : List D} {p : D → Bool} : (xs.filter fun x => !p x).isEmpty = xs.all p := by
  induction xs with
  | nil => rfl
  | cons x xs ih =>
    cases h : p x with
    | true => rw [List.filter_cons_of_neg (by rw [h]; decide), ih, List.all_cons, h]; rfl
    | false => rw [List.filter_cons_of_pos (by rw [h]; rfl), List.all_cons, h]; rfl
theorem isI_int {lo hi : Int} {d : D} (h : isI lo hi d = true) : ∃ i, d = .int i ∧ lo ≤ i ∧ i ≤ hi := by
  cases d <;> simp [isI] at h
  exact ⟨_, rfl, h.1, h.2⟩
theorem tup_shal {n : Nat} {xs : List D} (h : ∀ x ∈ xs, D.shal n x = true) : D.shal (n + 1) (.tup xs) = true := List.all_eq_true.mpr h
theorem seq_skip {q : DT} {s rest : DS} {env : Env} {c : C} (h : q env c = .ok false c) : sSeq (sIf q s sNil) rest env c = rest env c := seq_nx (if_skip h)
theorem seq_take {q : DT} {s rest : DS} {env : Env} {c c1 : C} {d : D} (h : q env c = .ok true c) (h2 : s env c = .rt d c1) : sSeq (sIf q s sNil) rest env c = .rt d c1 := seq_rt ((if_t h).trans h2)
theorem at_set {env : Env} {i : Nat} {x : Slot} (h : i < env.length) : (env.set i x)[i]? = some x := List.getElem?_set_self h
theorem for_inv {P : Env → Prop} {tg : TG} {s : DS} : ∀ (xs : List D) (env : Env) (c : C), (∀ x ∈ xs, ∀ env c, P env → ∃ env1 env2 c2, tg x env = some env1 ∧ s env1 c = .nx env2 c2 ∧ P env2) → P env → ∃ env' c', sForL tg s xs env c = .nx env' c' ∧ P env'
  | [], env, c, _, h => ⟨env, c, rfl, h⟩
  | x :: xs, env, c, hs, h => by
    obtain ⟨env1, env2, c2, e1, e2, p⟩ := hs x (List.mem_cons_self ..) env c h
    obtain ⟨env', c', e3, p'⟩ := for_inv xs env2 c2 (fun y hy => hs y (List.mem_cons_of_mem _ hy)) p
    exact ⟨env', c', by rw [for_nx e1 e2]; exact e3, p'⟩
theorem ints_shal {n : Nat} {lo hi : Int} {xs : List D} (h : xs.all (isI lo hi) = true) : xs.all (D.shal n) = true := by
  rw [List.all_eq_true] at h ⊢
  intro x hx
  obtain ⟨i, rfl, _⟩ := isI_int (h x hx)
  cases n <;> rfl
/-- small data: tuples of at most n storeys and 100 things each -/
def Sml : Nat → D → Prop
  | 0, d => D.shal 0 d = true
  | n + 1, d => D.shal 0 d = true ∨ ∃ xs, d = .tup xs ∧ xs.length ≤ 100 ∧ ∀ x ∈ xs, Sml n x
theorem Sml.shal : ∀ {n : Nat} {d : D}, Sml n d → d.shal n = true
  | 0, d, h => h
  | n + 1, d, h => by
    rcases h with h | ⟨xs, rfl, _, h⟩
    · exact shal_up 0 (n + 1) d h (by omega)
    · exact List.all_eq_true.mpr fun x hx => Sml.shal (h x hx)
theorem Sml.flat : ∀ (n : Nat) {d : D}, D.shal 0 d = true → Sml n d
  | 0, d, h => h
  | n + 1, d, h => .inl h
theorem Sml.ints {n : Nat} {lo hi : Int} {xs : List D} (h : xs.all (isI lo hi) = true) : ∀ x ∈ xs, Sml n x := fun x hx => by
  obtain ⟨i, rfl, _⟩ := isI_int (List.all_eq_true.mp h x hx)
  exact Sml.flat n rfl
end Com

set_option maxRecDepth 10000
set_option autoImplicit false
set_option exponentiation.threshold 5000
set_option linter.all false
namespace K77
open DL Com
theorem roll_k (c : C) (m : Nat) (hm : 0 < m) (hw : m ≤ 2 ^ 40) : ∃ (v : Nat) (c' : C), sem__law_roll [.cup, .int m] c = .ok (.int v) c' ∧ v < m := Com.roll_spec c m hm (by omega)
theorem some_k (c : C) (xs : List D) (h0 : 0 < xs.length) (h1 : xs.length ≤ 1000) : ∃ (d : D) (c' : C), d ∈ xs ∧ sem__law_some [.cup, .lst xs] c = .ok d c' := Com.some_spec c xs h0 h1
theorem like_k (d : D) (c : C) (h : d.shal 30 = true) : sem__law_like 40 [d, d] c = .ok (.bl true) c := Com.like_same 30 40 d c h (by decide) (by decide)
/-! ### stretches -/
abbrev H := List (Option Nat)
abbrev St := Nat × Nat × Nat
def run (v : Nat) : H → Nat
  | [] => 0
  | x :: t => if x = some v then run v t + 1 else 0
def str : Nat → Option Nat → H → List St
  | _, _, [] => []
  | i, _, none :: t => str (i + 1) none t
  | i, p, some v :: t => if p = some v then str (i + 1) (some v) t else (i, i + run v t, v) :: str (i + 1) (some v) t
def strH (h : H) : List St := str 0 none h
theorem run_get {v : Nat} : ∀ (t : H) (j : Nat), j < run v t → t[j]? = some (some v)
  | [], j, h => absurd h (Nat.not_lt_zero _)
  | x :: t, j, h => by
    unfold run at h
    split at h
    · rename_i e
      cases j with
      | zero => rw [e]; rfl
      | succ j => exact run_get t j (by omega)
    · exact absurd h (Nat.not_lt_zero _)
theorem str_sound : ∀ (t : H) (i : Nat) (p : Option Nat) (a b v : Nat), (a, b, v) ∈ str i p t → i ≤ a ∧ ∀ j, a ≤ j → j ≤ b → t[j - i]? = some (some v)
  | [], i, p, a, b, v, h => by cases h
  | none :: t, i, p, a, b, v, h => by
    obtain ⟨h1, h2⟩ := str_sound t (i + 1) none a b v h
    refine ⟨by omega, fun j ja jb => ?_⟩
    have := h2 j ja jb
    rw [show j - i = (j - (i + 1)) + 1 by omega]
    exact this
  | some u :: t, i, p, a, b, v, h => by
    unfold str at h
    have ih : (a, b, v) ∈ str (i + 1) (some u) t → i ≤ a ∧ ∀ j, a ≤ j → j ≤ b → (some u :: t)[j - i]? = some (some v) := fun h => by
      obtain ⟨h1, h2⟩ := str_sound t (i + 1) (some u) a b v h
      refine ⟨by omega, fun j ja jb => ?_⟩
      have := h2 j ja jb
      rw [show j - i = (j - (i + 1)) + 1 by omega]
      exact this
    split at h
    · exact ih h
    · rcases List.mem_cons.mp h with e | h
      · cases e
        refine ⟨Nat.le_refl _, fun j ja jb => ?_⟩
        by_cases c : j = i
        · rw [c, Nat.sub_self]; rfl
        · rw [show j - i = (j - i - 1) + 1 by omega]
          exact run_get t (j - i - 1) (by omega)
      · exact ih h
theorem str_all : ∀ (t : H) (i : Nat) (p : Option Nat) (j v : Nat), t[j]? = some (some v) → (∃ a b, (a, b, v) ∈ str i p t ∧ a ≤ i + j ∧ i + j ≤ b) ∨ (p = some v ∧ j < run v t)
  | [], i, p, j, v, h => by cases h
  | none :: t, i, p, j, v, h => by
    cases j with
    | zero => cases h
    | succ j =>
      rcases str_all t (i + 1) none j v h with ⟨a, b, m, h1, h2⟩ | ⟨e, _⟩
      · exact .inl ⟨a, b, m, by omega, by omega⟩
      · cases e
  | some u :: t, i, p, j, v, h => by
    by_cases pu : p = some u
    · cases j with
      | zero =>
        have e : u = v := by cases h; rfl
        refine .inr ⟨by rw [pu, e], ?_⟩
        unfold run
        rw [if_pos (by rw [e])]
        omega
      | succ j =>
        rcases str_all t (i + 1) (some u) j v h with ⟨a, b, m, h1, h2⟩ | ⟨e, l⟩
        · refine .inl ⟨a, b, ?_, by omega, by omega⟩
          unfold str
          rw [if_pos pu]
          exact m
        · refine .inr ⟨by rw [pu, e], ?_⟩
          unfold run
          rw [if_pos e]
          omega
    · have es : str i p (some u :: t) = (i, i + run u t, u) :: str (i + 1) (some u) t := by
        rw [str, if_neg pu]
      rw [es]
      cases j with
      | zero =>
        have e : u = v := by cases h; rfl
        exact .inl ⟨i, i + run u t, by rw [e]; exact List.mem_cons_self .., by omega, by omega⟩
      | succ j =>
        rcases str_all t (i + 1) (some u) j v h with ⟨a, b, m, h1, h2⟩ | ⟨e, l⟩
        · exact .inl ⟨a, b, List.mem_cons_of_mem _ m, by omega, by omega⟩
        · cases e
          exact .inl ⟨i, i + run u t, List.mem_cons_self .., by omega, by omega⟩
theorem str_inj {x y : H} (hl : x.length = y.length) (h : strH x = strH y) : x = y := by
  have half : ∀ {x y : H}, strH x = strH y → ∀ (j v : Nat), x[j]? = some (some v) → y[j]? = some (some v) := fun {x y} h j v e => by
    rcases str_all x 0 none j v e with ⟨a, b, m, h1, h2⟩ | ⟨e, _⟩
    · have m : (a, b, v) ∈ strH x := m
      rw [h] at m
      have := (str_sound y 0 none a b v m).2 j (by omega) (by omega)
      exact this
    · cases e
  refine List.ext_getElem hl fun i h1 h2 => ?_
  have e1 : x[i]? = some x[i] := List.getElem?_eq_getElem h1
  have e2 : y[i]? = some y[i] := List.getElem?_eq_getElem h2
  cases ex : x[i] with
  | some v =>
    rw [ex] at e1
    have := half h i v e1
    rw [e2] at this
    exact (Option.some.inj this).symm
  | none =>
    cases ey : y[i] with
    | none => rfl
    | some v =>
      rw [ey] at e2
      have := half h.symm i v e2
      rw [e1, ex] at this
      cases this
/-! ### the stretches as the program finds them -/
def pst (F : List St) (i : Nat) (x : Option Nat) : List St := match x with
  | none => F
  | some v => match F.getLast? with
    | none => F ++ [(i, i, v)]
    | some (a, b, u) => if b + 1 = i ∧ u = v then F.dropLast ++ [(a, i, v)] else F ++ [(i, i, v)]
def pgo : Nat → List St → H → List St
  | _, F, [] => F
  | i, F, x :: t => pgo (i + 1) (pst F i x) t
theorem pgo_str : ∀ (t : H) (i : Nat), (∀ F : List St, (∀ z, F.getLast? = some z → z.2.1 + 1 < i) ∨ i = 0 ∧ F = [] → pgo i F t = F ++ str i none t) ∧
    ∀ (F : List St) (a u : Nat), 0 < i → pgo i (F ++ [(a, i - 1, u)]) t = F ++ [(a, i - 1 + run u t, u)] ++ str i (some u) t
  | [], i => ⟨fun F _ => by simp [pgo, str], fun F a u _ => by simp [pgo, str, run]⟩
  | none :: t, i => by
    obtain ⟨ih1, ih2⟩ := pgo_str t (i + 1)
    refine ⟨fun F h => ?_, fun F a u hi => ?_⟩
    · show pgo (i + 1) F t = F ++ str (i + 1) none t
      refine ih1 F (.inl fun z hz => ?_)
      rcases h with h | ⟨_, h⟩
      · have := h z hz; omega
      · rw [h] at hz; cases hz
    · show pgo (i + 1) (F ++ [(a, i - 1, u)]) t = F ++ [(a, i - 1 + 0, u)] ++ str (i + 1) none t
      refine ih1 _ (.inl fun z hz => ?_)
      have hz : some (a, i - 1, u) = some z := by rw [← hz]; simp
      cases hz
      show i - 1 + 1 < i + 1
      omega
  | some v :: t, i => by
    obtain ⟨ih1, ih2⟩ := pgo_str t (i + 1)
    have new : ∀ F : List St, pgo (i + 1) (F ++ [(i, i, v)]) t = F ++ (i, i + run v t, v) :: str (i + 1) (some v) t := fun F => by
      have := ih2 F i v (by omega)
      rw [Nat.add_sub_cancel] at this
      rw [this, List.append_assoc]
      rfl
    refine ⟨fun F h => ?_, fun F a u hi => ?_⟩
    · have e : pst F i (some v) = F ++ [(i, i, v)] := by
        unfold pst
        cases e : F.getLast? with
        | none => rfl
        | some z =>
          obtain ⟨a, b, u⟩ := z
          refine if_neg fun hc => ?_
          rcases h with h | ⟨_, h⟩
          · have := h _ e
            have : b + 1 < i := this
            omega
          · rw [h] at e; cases e
      show pgo (i + 1) (pst F i (some v)) t = _
      rw [e, new, str, if_neg (by simp)]
    · have l : (F ++ [(a, i - 1, u)]).getLast? = some (a, i - 1, u) := by simp
      show pgo (i + 1) (pst (F ++ [(a, i - 1, u)]) i (some v)) t = _
      by_cases c : u = v
      · have e : pst (F ++ [(a, i - 1, u)]) i (some v) = F ++ [(a, i, v)] := by
          unfold pst
          rw [l]
          simp only
          rw [if_pos ⟨by omega, c⟩]
          simp
        rw [e]
        have := ih2 F a v (by omega)
        rw [Nat.add_sub_cancel] at this
        rw [this, str, if_pos (by rw [c]), run, if_pos (by rw [c]), c]
        simp only [List.append_assoc, List.singleton_append]
        rw [show i + run v t = i - 1 + (run v t + 1) by omega]
      · have e : pst (F ++ [(a, i - 1, u)]) i (some v) = (F ++ [(a, i - 1, u)]) ++ [(i, i, v)] := by
          unfold pst
          rw [l]
          simp only
          rw [if_neg fun h => c h.2]
        rw [e, new, str, if_neg (by intro h; exact c (Option.some.inj h)), run, if_neg (by intro h; exact c (Option.some.inj h).symm), Nat.add_zero (i - 1)]
theorem pgo_strH (h : H) : pgo 0 [] h = strH h := by
  have := (pgo_str h 0).1 [] (.inr ⟨rfl, rfl⟩)
  rwa [List.nil_append] at this
/-! ### corrections -/
structure Co where
  k : Nat
  f : Nat
  l : Nat
  v : Nat
  deriving DecidableEq
structure Co.ok (c : Co) : Prop where
  kk : c.k ≤ 1000
  fl : c.f ≤ c.l
  ll : c.l ≤ 99
  vv : c.v ≤ 9
def put (h : H) (c : Co) : H := h.take c.f ++ List.replicate (c.l + 1 - c.f) (some c.v) ++ h.drop (c.l + 1)
theorem put_len {h : H} {c : Co} (hl : h.length = 100) (ok : c.ok) : (put h c).length = 100 := by
  have := ok.fl
  have := ok.ll
  unfold put
  simp only [List.length_append, List.length_take, List.length_replicate, List.length_drop, hl]
  omega
theorem put_get {h : H} {c : Co} (hl : h.length = 100) (ok : c.ok) (i : Nat) : (put h c)[i]? = if c.f ≤ i ∧ i ≤ c.l then some (some c.v) else h[i]? := by
  have f1 := ok.fl
  have l1 := ok.ll
  unfold put
  have e1 : (h.take c.f).length = c.f := by rw [List.length_take, hl]; omega
  have e2 : (h.take c.f ++ List.replicate (c.l + 1 - c.f) (some c.v)).length = c.l + 1 := by rw [List.length_append, e1, List.length_replicate]; omega
  by_cases a : i < c.l + 1
  · rw [List.getElem?_append_left (by rw [e2]; exact a)]
    by_cases b : i < c.f
    · rw [List.getElem?_append_left (by rw [e1]; exact b), List.getElem?_take, if_pos b, if_neg (by omega)]
    · rw [List.getElem?_append_right (by rw [e1]; omega), e1, List.getElem?_replicate, if_pos (by omega), if_pos (by omega)]
  · rw [List.getElem?_append_right (by rw [e2]; omega), e2, List.getElem?_drop, if_neg (by omega)]
    congr 1
    omega
def blank : H := List.replicate 100 none
def at_ (t : Nat) (h : H) (c : Co) : H := if c.k ≤ t then put h c else h
def hoursAt (cs : List Co) (t : Nat) : H := cs.foldl (at_ t) blank
def Oks (cs : List Co) : Prop := ∀ c ∈ cs, c.ok
def Srt (cs : List Co) : Prop := cs.Pairwise fun x y => x.k ≤ y.k
theorem fold_len (t : Nat) : ∀ (cs : List Co) (h : H), h.length = 100 → Oks cs → (cs.foldl (at_ t) h).length = 100
  | [], h, hl, _ => hl
  | c :: cs, h, hl, ok => by
    refine fold_len t cs _ ?_ fun x hx => ok x (List.mem_cons_of_mem _ hx)
    unfold at_
    split
    · exact put_len hl (ok c (List.mem_cons_self ..))
    · exact hl
theorem blank_len : blank.length = 100 := by unfold blank; rw [List.length_replicate]
theorem hours_len {cs : List Co} (ok : Oks cs) (t : Nat) : (hoursAt cs t).length = 100 := fold_len t cs _ blank_len ok
/-- the last of its time -/
def bnd (k : Nat) : List Co → Bool
  | [] => true
  | d :: _ => decide (k < d.k)
def tms : List Co → List Nat
  | [] => []
  | c :: cs => if bnd c.k cs = true then c.k :: tms cs else tms cs
abbrev Row := Nat × List St
/-- as the program makes the table -/
def tabP : H → List St → List Co → List Row
  | _, _, [] => []
  | h, r, c :: cs => if bnd c.k cs = true then (if strH (put h c) = r then tabP (put h c) r cs else (c.k, strH (put h c)) :: tabP (put h c) (strH (put h c)) cs) else tabP (put h c) r cs
/-- as the law makes it -/
def tabL (cs : List Co) : H → List Nat → List Row
  | _, [] => []
  | b, t :: ts => if hoursAt cs t = b then tabL cs (hoursAt cs t) ts else (t, strH (hoursAt cs t)) :: tabL cs (hoursAt cs t) ts
theorem hours_split {pre suf : List Co} {t : Nat} (h1 : ∀ c ∈ pre, c.k ≤ t) (h2 : ∀ c ∈ suf, t < c.k) : hoursAt (pre ++ suf) t = pre.foldl put blank := by
  unfold hoursAt
  rw [List.foldl_append]
  have a : ∀ (l : List Co) (h : H), (∀ c ∈ l, c.k ≤ t) → l.foldl (at_ t) h = l.foldl put h := fun l => by
    induction l with
    | nil => exact fun h _ => rfl
    | cons c l ih =>
      intro h hl
      show l.foldl (at_ t) (at_ t h c) = l.foldl put (put h c)
      rw [show at_ t h c = put h c from if_pos (hl c (List.mem_cons_self ..))]
      exact ih _ fun x hx => hl x (List.mem_cons_of_mem _ hx)
  have b : ∀ (l : List Co) (h : H), (∀ c ∈ l, t < c.k) → l.foldl (at_ t) h = h := fun l => by
    induction l with
    | nil => exact fun h _ => rfl
    | cons c l ih =>
      intro h hl
      show l.foldl (at_ t) (at_ t h c) = h
      rw [show at_ t h c = h from if_neg (by have := hl c (List.mem_cons_self ..); omega)]
      exact ih _ fun x hx => hl x (List.mem_cons_of_mem _ hx)
  rw [a pre _ h1, b suf _ h2]
theorem bnd_gt {k : Nat} {cs : List Co} (hb : bnd k cs = true) (s : Srt cs) : ∀ c ∈ cs, k < c.k := fun c hc => by
  cases cs with
  | nil => cases hc
  | cons d cs =>
    have h1 : k < d.k := of_decide_eq_true hb
    rcases List.mem_cons.mp hc with rfl | hc
    · exact h1
    · exact Nat.lt_of_lt_of_le h1 ((List.pairwise_cons.mp s).1 c hc)
theorem tab_eq : ∀ (suf pre : List Co) (b : H), b.length = 100 → Oks (pre ++ suf) → Srt (pre ++ suf) → tabP (pre.foldl put blank) (strH b) suf = tabL (pre ++ suf) b (tms suf)
  | [], pre, b, hb, ok, s => rfl
  | c :: suf, pre, b, hb, ok, s => by
    have e : pre ++ c :: suf = (pre ++ [c]) ++ suf := by simp
    have f : put (pre.foldl put blank) c = (pre ++ [c]).foldl put blank := by simp
    rw [tabP, tms, f]
    rw [e] at ok s ⊢
    by_cases hc : bnd c.k suf = true
    · rw [if_pos hc, if_pos hc, tabL]
      have s1 := List.pairwise_append.mp s
      have s2 : Srt suf := s1.2.1
      have he : hoursAt (pre ++ [c] ++ suf) c.k = (pre ++ [c]).foldl put blank := hours_split (fun x hx => by
        rcases List.mem_append.mp hx with hx | hx
        · have := (List.pairwise_append.mp s1.1).2.2 x hx c (List.mem_cons_self ..)
          exact this
        · rw [List.mem_singleton.mp hx]; exact Nat.le_refl _) (bnd_gt hc s2)
      rw [he]
      have hl : ((pre ++ [c]).foldl put blank).length = 100 := by rw [← he]; exact hours_len ok _
      by_cases hs : (pre ++ [c]).foldl put blank = b
      · rw [if_pos (by rw [hs]), if_pos hs]
        rw [hs]
        have := tab_eq suf (pre ++ [c]) b hb ok s
        rw [hs] at this
        exact this
      · rw [if_neg fun z => hs (str_inj (hl.trans hb.symm) z), if_neg hs]
        rw [tab_eq suf (pre ++ [c]) _ hl ok s]
    · rw [if_neg hc, if_neg hc]
      exact tab_eq suf (pre ++ [c]) b hb ok s
theorem blank_str : strH blank = [] := by decide
def tab (cs : List Co) : List Row := tabP blank [] cs
theorem tab_law {cs : List Co} (ok : Oks cs) (s : Srt cs) : tabL cs blank (tms cs) = tab cs := by
  have := tab_eq cs [] blank blank_len ok s
  rw [blank_str] at this
  exact this.symm
/-! ### the times -/
theorem tms_mem : ∀ {cs : List Co}, Srt cs → ∀ t, t ∈ tms cs ↔ ∃ c ∈ cs, c.k = t
  | [], _, t => by simp [tms]
  | c :: cs, s, t => by
    obtain ⟨s1, s2⟩ := List.pairwise_cons.mp s
    have ih := tms_mem s2 t
    rw [tms]
    by_cases hb : bnd c.k cs = true
    · rw [if_pos hb, List.mem_cons, ih]
      constructor
      · rintro (rfl | ⟨d, hd, e⟩)
        · exact ⟨c, List.mem_cons_self .., rfl⟩
        · exact ⟨d, List.mem_cons_of_mem _ hd, e⟩
      · rintro ⟨d, hd, e⟩
        rcases List.mem_cons.mp hd with rfl | hd
        · exact .inl e.symm
        · exact .inr ⟨d, hd, e⟩
    · rw [if_neg hb, ih]
      constructor
      · rintro ⟨d, hd, e⟩; exact ⟨d, List.mem_cons_of_mem _ hd, e⟩
      · rintro ⟨d, hd, e⟩
        rcases List.mem_cons.mp hd with rfl | hd
        · cases cs with
          | nil => exact absurd rfl hb
          | cons g cs =>
            have h1 := s1 g (List.mem_cons_self ..)
            have h2 : ¬ d.k < g.k := fun h => hb (decide_eq_true h)
            exact ⟨g, List.mem_cons_self .., by omega⟩
        · exact ⟨d, hd, e⟩
theorem tms_asc : ∀ {cs : List Co}, Srt cs → (tms cs).Pairwise (· < ·)
  | [], _ => .nil
  | c :: cs, s => by
    obtain ⟨s1, s2⟩ := List.pairwise_cons.mp s
    rw [tms]
    by_cases hb : bnd c.k cs = true
    · rw [if_pos hb]
      refine List.pairwise_cons.mpr ⟨fun t ht => ?_, tms_asc s2⟩
      obtain ⟨d, hd, e⟩ := (tms_mem s2 t).mp ht
      rw [← e]
      exact bnd_gt hb s2 d hd
    · rw [if_neg hb]
      exact tms_asc s2
theorem times_eq {cs : List Co} (s : Srt cs) : isort (dedupI (cs.map fun c => (c.k : Int))) = (tms cs).map fun (t : Nat) => (t : Int) := by
  refine lt_sorted_unique isort_lt.1 ?_ fun k => ?_
  · rw [List.pairwise_map]
    exact (tms_asc s).imp fun h => by omega
  · rw [isort_lt.2]
    simp only [List.mem_map]
    constructor
    · rintro ⟨c, hc, rfl⟩
      exact ⟨c.k, (tms_mem s _).mpr ⟨c, hc, rfl⟩, rfl⟩
    · rintro ⟨t, ht, rfl⟩
      obtain ⟨c, hc, e⟩ := (tms_mem s _).mp ht
      exact ⟨c, hc, by rw [e]⟩
theorem tms_le : ∀ cs : List Co, (tms cs).length ≤ cs.length
  | [] => Nat.le_refl _
  | c :: cs => by
    have := tms_le cs
    rw [tms]
    split <;> simp only [List.length_cons] <;> omega
theorem tabP_le : ∀ (cs : List Co) (h : H) (r : List St), (tabP h r cs).length ≤ cs.length
  | [], _, _ => Nat.le_refl _
  | c :: cs, h, r => by
    rw [tabP]
    split
    · split
      · have := tabP_le cs (put h c) r; simp only [List.length_cons]; omega
      · have := tabP_le cs (put h c) (strH (put h c)); simp only [List.length_cons]; omega
    · have := tabP_le cs (put h c) r; simp only [List.length_cons]; omega
/-! ### the same correction twice -/
theorem put_put {h : H} {c : Co} (hl : h.length = 100) (ok : c.ok) : put (put h c) c = put h c := by
  refine List.ext_getElem? fun i => ?_
  rw [put_get (put_len hl ok) ok, put_get hl ok]
  split <;> rfl
theorem tabP_dup {c : Co} {B : List Co} (ok : c.ok) : ∀ (A : List Co) (h : H) (r : List St), h.length = 100 → Oks A → tabP h r (A ++ c :: c :: B) = tabP h r (A ++ c :: B)
  | [], h, r, hl, _ => by
    show tabP h r (c :: c :: B) = tabP h r (c :: B)
    rw [tabP, if_neg (by unfold bnd; simp), tabP, tabP, put_put hl ok]
  | a :: A, h, r, hl, okA => by
    have oa := okA a (List.mem_cons_self ..)
    have oA : Oks A := fun x hx => okA x (List.mem_cons_of_mem _ hx)
    have eb : bnd a.k (A ++ c :: c :: B) = bnd a.k (A ++ c :: B) := by cases A <;> rfl
    show tabP h r (a :: (A ++ c :: c :: B)) = tabP h r (a :: (A ++ c :: B))
    rw [tabP, tabP, eb]
    have ih := fun r => tabP_dup (B := B) ok A (put h a) r (put_len hl oa) oA
    rw [ih, ih]
end K77

set_option maxRecDepth 10000
set_option autoImplicit false
set_option exponentiation.threshold 5000
set_option linter.all false
namespace K77
open DL Com
abbrev nat (n : Nat) : D := .int n
def eO : Option Nat → D
  | none => .non
  | some v => nat v
def eS (s : St) : D := .tup [nat s.1, nat s.2.1, nat s.2.2]
def eH (h : H) : D := .lst (h.map eO)
def eF (F : List St) : D := .tup (F.map eS)
def eC (c : Co) : D := .tup [nat c.k, nat c.f, nat c.l, nat c.v]
def eCs (cs : List Co) : D := .tup (cs.map eC)
def eR (r : Row) : D := .tup [nat r.1, eF r.2]
def eT (t : List Row) : D := .tup (t.map eR)
/-! ### data without bools: equal just if alike -/
theorem eqv_nat (a b : Nat) : D.eqv (nat a) (nat b) = decide (a = b) := by
  show ((a : Int) == (b : Int)) = _
  by_cases h : a = b
  · rw [h]; simp
  · rw [decide_eq_false h, beq_eq_false_iff_ne]; omega
theorem eqv_O (x y : Option Nat) : D.eqv (eO x) (eO y) = decide (x = y) := by
  cases x <;> cases y
  · rfl
  · simp [eO, D.eqv]
  · simp [eO, D.eqv]
  · rename_i a b
    show D.eqv (nat a) (nat b) = _
    rw [eqv_nat]
    simp
theorem eqvs_map {α : Type} [DecidableEq α] (f : α → D) (h : ∀ x y, D.eqv (f x) (f y) = decide (x = y)) : ∀ xs ys : List α, D.eqvs (xs.map f) (ys.map f) = decide (xs = ys)
  | [], [] => by simp [D.eqvs]
  | [], y :: ys => by simp [D.eqvs]
  | x :: xs, [] => by simp [D.eqvs]
  | x :: xs, y :: ys => by
    rw [List.map_cons, List.map_cons, D.eqvs, h, eqvs_map f h xs ys]
    simp
theorem eqv_S (x y : St) : D.eqv (eS x) (eS y) = decide (x = y) := by
  obtain ⟨a, b, v⟩ := x
  obtain ⟨a', b', v'⟩ := y
  show (D.eqv (nat a) (nat a') && (D.eqv (nat b) (nat b') && (D.eqv (nat v) (nat v') && D.eqvs [] []))) = _
  rw [eqv_nat, eqv_nat, eqv_nat]
  simp [D.eqvs]
theorem eqv_F (x y : List St) : D.eqv (eF x) (eF y) = decide (x = y) := by
  show D.eqvs (x.map eS) (y.map eS) = _
  exact eqvs_map eS eqv_S x y
theorem eqv_H (x y : H) : D.eqv (eH x) (eH y) = decide (x = y) := by
  show D.eqvs (x.map eO) (y.map eO) = _
  exact eqvs_map eO eqv_O x y
theorem eqv_R (x y : Row) : D.eqv (eR x) (eR y) = decide (x = y) := by
  obtain ⟨a, b⟩ := x
  obtain ⟨a', b'⟩ := y
  show (D.eqv (nat a) (nat a') && (D.eqv (eF b) (eF b') && D.eqvs [] [])) = _
  rw [eqv_nat, eqv_F]
  simp [D.eqvs]
theorem eqv_T (x y : List Row) : D.eqv (eT x) (eT y) = decide (x = y) := by
  show D.eqvs (x.map eR) (y.map eR) = _
  exact eqvs_map eR eqv_R x y
theorem all_map {α : Type} {p : D → Bool} (f : α → D) (h : ∀ x, p (f x) = true) (xs : List α) : (xs.map f).all p = true := List.all_eq_true.mpr fun d hd => by
  obtain ⟨x, _, rfl⟩ := List.mem_map.mp hd
  exact h x
theorem shal_O (n : Nat) (x : Option Nat) : D.shal n (eO x) = true := by cases x <;> cases n <;> rfl
theorem shal_S (n : Nat) (x : St) : D.shal (n + 1) (eS x) = true := by cases n <;> rfl
theorem shal_F (n : Nat) (x : List St) : D.shal (n + 2) (eF x) = true := all_map eS (shal_S n) x
theorem shal_H (n : Nat) (x : H) : D.shal (n + 1) (eH x) = true := all_map eO (shal_O n) x
theorem shal_R (n : Nat) (x : Row) : D.shal (n + 3) (eR x) = true := by
  show (true && (D.shal (n + 2) (eF x.2) && true)) = true
  rw [shal_F]
  rfl
theorem shal_T (n : Nat) (x : List Row) : D.shal (n + 4) (eT x) = true := all_map eR (shal_R n) x
theorem eq_T (x y : List Row) : D.eq (eT x) (eT y) = some (.bl (decide (x = y))) := by
  unfold D.eq
  rw [if_pos (by rw [shal_T 56, shal_T 56]; rfl), eqv_T]
theorem ne_T (x y : List Row) : D.ne (eT x) (eT y) = some (.bl (!decide (x = y))) := by
  unfold D.ne
  rw [if_pos (by rw [shal_T 56, shal_T 56]; rfl), eqv_T]
theorem ne_H (x y : H) : D.ne (eH x) (eH y) = some (.bl (!decide (x = y))) := by
  unfold D.ne
  rw [if_pos (by rw [shal_H 59, shal_H 59]; rfl), eqv_H]
theorem ne_F (x y : List St) : D.ne (eF x) (eF y) = some (.bl (!decide (x = y))) := by
  unfold D.ne
  rw [if_pos (by rw [shal_F 58, shal_F 58]; rfl), eqv_F]
theorem ne_O (x y : Option Nat) : D.ne (eO x) (eO y) = some (.bl (!decide (x = y))) := by
  unfold D.ne
  rw [if_pos (by rw [shal_O, shal_O]; rfl), eqv_O]
theorem eq_natn (a b : Nat) : D.eq (nat a) (nat b) = some (.bl (decide (a = b))) := by
  show D.eq (.int a) (.int b) = _
  rw [Com.eq_int]
  have := eqv_nat a b
  exact congrArg (fun k => some (D.bl k)) this
/-! ### small steps -/
theorem ix_last {xs : List D} {d : D} : D.ix (.lst (xs ++ [d])) (.int (-1)) = some d := by
  show (ixD (xs ++ [d]).length (-1)).bind _ = _
  have e : ixD (xs ++ [d]).length (-1) = some xs.length := by
    unfold ixD
    rw [if_neg (by decide), if_pos (by rw [List.length_append, List.length_singleton]; omega), List.length_append]
    simp
    omega
  rw [e]
  simp
theorem put_last {i : Nat} {k e : DE} {env : Env} {c c1 c2 : C} {xs : List D} {d0 d : D} (h0 : env[i]? = some (.own (xs ++ [d0]))) (h1 : e env c = .ok (.pl d) c1) (h2 : k env c1 = .ok (.pl (.int (-1))) c2) : sPut i k e env c = .nx (env.set i (.own (xs ++ [d]))) c2 := by
  have e : ixD (xs ++ [d0]).length (-1) = some xs.length := by
    unfold ixD
    rw [if_neg (by decide), if_pos (by rw [List.length_append, List.length_singleton]; omega), List.length_append]
    simp
    omega
  rw [sPut, h0]
  dsimp only
  rw [h1]
  show F.of (k env c1) env _ = _
  rw [h2]
  show kPut i env (xs ++ [d0]) (.pl d) (.pl (.int (-1))) c2 = _
  unfold kPut
  rw [ev_rvd]
  dsimp only
  rw [e]
  dsimp only
  rw [List.set_append_right _ _ (Nat.le_refl _), Nat.sub_self]
  rfl
theorem ienum_of {e : DE} {env : Env} {c c' : C} {d : D} {xs : List D} (h : e env c = .ok (.pl d) c') (hi : d.items = some xs) : iEnumA true e env c = .ok (enumD 0 xs) c' := by
  have g : (RV.pl d).good true = true := rfl
  rw [iEnumA, h, ev_bind_ok, kEnumA, if_pos g, ev_rvd, hi]
/-! ### stretches_of -/
def sA : DT := tAnd (tBl (dO2 D.notN (dVar 3) (dC .non))) (tAnd (tBl (dO2 D.ne (dVar 1) (dLst []))) (tAnd (tBl (dO2 D.eq (dO2 D.ix (dO2 D.ix (dVar 1) (dO1 D.neg (dC (.int 1)))) (dC (.int 1))) (dO2 D.subA (dVar 2) (dC (.int 1))))) (tBl (dO2 D.eq (dO2 D.ix (dO2 D.ix (dVar 1) (dO1 D.neg (dC (.int 1)))) (dC (.int 2))) (dVar 3)))))
def sP : DS := sPut 1 (dO1 D.neg (dC (.int 1))) (dTup [dO2 D.ix (dO2 D.ix (dVar 1) (dO1 D.neg (dC (.int 1)))) (dC (.int 0)), dVar 2, dVar 3])
def sB : DS := sIf (tBl (dO2 D.notN (dVar 3) (dC .non))) (sApp 1 (dTup [dVar 2, dVar 2, dVar 3])) (sNil)
def sBody : DS := sIf sA sP sB
theorem list_end {α : Type} (F : List α) : F = [] ∨ ∃ F0 z, F = F0 ++ [z] := by
  cases h : F.reverse with
  | nil => exact .inl (List.reverse_eq_nil_iff.mp h)
  | cons z r => exact .inr ⟨r.reverse, z, by rw [← List.reverse_reverse F, h, List.reverse_cons]⟩
theorem pst_len (F : List St) (i : Nat) (x : Option Nat) : (pst F i x).length ≤ F.length + 1 := by
  unfold pst
  cases x with
  | none => exact Nat.le_succ _
  | some v =>
    cases e : F.getLast? with
    | none => simp
    | some z =>
      obtain ⟨a, b, u⟩ := z
      dsimp only
      split
      · rw [List.length_append, List.length_dropLast, List.length_singleton]
        omega
      · simp
theorem sbody_ok (h0 : Slot) (F : List St) (i : Nat) (x : Option Nat) (c : C) (hl : F.length ≤ 1000) : sBody [h0, .own (F.map eS), .val (nat i), .val (eO x)] c = .nx [h0, .own ((pst F i x).map eS), .val (nat i), .val (eO x)] c := by
  cases x with
  | none =>
    refine (if_f (tand_of (j := false) (k := false) (tb_of (k := false) (o2_of (u := .pl .non) (v := .pl .non) rfl rfl rfl)) (fun h => by cases h) fun _ => rfl)).trans ?_
    exact if_f (tb_of (k := false) (o2_of (u := .pl .non) (v := .pl .non) rfl rfl rfl))
  | some v =>
    have t1 : tBl (dO2 D.notN (dVar 3) (dC .non)) [h0, .own (F.map eS), .val (nat i), .val (eO (some v))] c = .ok true c := tb_of (o2_of (u := .pl (nat v)) (v := .pl .non) rfl rfl rfl)
    have ne : ∀ G : List St, D.ne (.lst (G.map eS)) (.lst []) = some (.bl (!(G.map eS).isEmpty)) := fun G => ne_nil fun d hd => by
      obtain ⟨z, _, rfl⟩ := List.mem_map.mp hd
      exact shal_S 58 z
    have t2 : tBl (dO2 D.ne (dVar 1) (dLst [])) [h0, .own (F.map eS), .val (nat i), .val (eO (some v))] c = .ok (!(F.map eS).isEmpty) c := tb_of (o2_of (u := .ow 1 (F.map eS)) (v := .pl (.lst [])) rfl rfl (ne F))
    have app : sB [h0, .own (F.map eS), .val (nat i), .val (eO (some v))] c = .nx [h0, .own ((F ++ [(i, i, v)]).map eS), .val (nat i), .val (eO (some v))] c := by
      refine (if_t t1).trans ?_
      have := app_of (env := [h0, .own (F.map eS), .val (nat i), .val (eO (some v))]) (i := 1) (xs := F.map eS) (d := eS (i, i, v)) (e := dTup [dVar 2, dVar 2, dVar 3]) (c := c) (c1 := c) rfl (tup_of (ds := [nat i, nat i, nat v]) rfl) (by rw [List.length_map]; exact Nat.lt_of_le_of_lt hl (by decide))
      rw [this, List.map_append]
      rfl
    rcases list_end F with rfl | ⟨F0, z, rfl⟩
    · refine (if_f (tand_of (j := true) (k := false) t1 (fun _ => tand_of (j := false) (k := false) t2 (fun h => by cases h) fun _ => rfl) fun h => by cases h)).trans ?_
      exact app
    · obtain ⟨a, b, u⟩ := z
      have m : (F0 ++ [(a, b, u)]).map eS = F0.map eS ++ [eS (a, b, u)] := by rw [List.map_append]; rfl
      have lst : dO2 D.ix (dVar 1) (dO1 D.neg (dC (.int 1))) [h0, .own ((F0 ++ [(a, b, u)]).map eS), .val (nat i), .val (eO (some v))] c = .ok (.pl (eS (a, b, u))) c := by
        refine o2_of (u := .ow 1 ((F0 ++ [(a, b, u)]).map eS)) (v := .pl (.int (-1))) rfl rfl ?_
        show D.ix (.lst _) _ = _
        rw [m]
        exact ix_last
      have t2' : tBl (dO2 D.ne (dVar 1) (dLst [])) [h0, .own ((F0 ++ [(a, b, u)]).map eS), .val (nat i), .val (eO (some v))] c = .ok true c := by
        rw [t2, m]
        cases F0 <;> rfl
      have t3 : tBl (dO2 D.eq (dO2 D.ix (dO2 D.ix (dVar 1) (dO1 D.neg (dC (.int 1)))) (dC (.int 1))) (dO2 D.subA (dVar 2) (dC (.int 1)))) [h0, .own ((F0 ++ [(a, b, u)]).map eS), .val (nat i), .val (eO (some v))] c = .ok (decide (b + 1 = i)) c := by
        refine tb_of (o2_of (u := .pl (nat b)) (v := .pl (.int (i - 1))) (o2_of (u := .pl (eS (a, b, u))) (v := .pl (.int 1)) lst rfl rfl) (o2_of (u := .pl (nat i)) (v := .pl (.int 1)) rfl rfl rfl) ?_)
        show D.eq (.int b) (.int (i - 1)) = _
        rw [Com.eq_int]
        by_cases e : b + 1 = i
        · rw [decide_eq_true e, beq_iff_eq.mpr (by omega)]
        · rw [decide_eq_false e, beq_eq_false_iff_ne.mpr (by omega)]
      have t4 : tBl (dO2 D.eq (dO2 D.ix (dO2 D.ix (dVar 1) (dO1 D.neg (dC (.int 1)))) (dC (.int 2))) (dVar 3)) [h0, .own ((F0 ++ [(a, b, u)]).map eS), .val (nat i), .val (eO (some v))] c = .ok (decide (u = v)) c :=
        tb_of (o2_of (u := .pl (nat u)) (v := .pl (nat v)) (o2_of (u := .pl (eS (a, b, u))) (v := .pl (.int 2)) lst rfl rfl) rfl (eq_natn u v))
      have tt : sA [h0, .own ((F0 ++ [(a, b, u)]).map eS), .val (nat i), .val (eO (some v))] c = .ok (decide (b + 1 = i) && decide (u = v)) c :=
        tand_of (j := true) t1 (fun _ => tand_of (j := true) t2' (fun _ => tand_of t3 (fun _ => t4) fun _ => rfl) fun h => by cases h) fun h => by cases h
      have gl : (F0 ++ [(a, b, u)]).getLast? = some (a, b, u) := by simp
      by_cases e : b + 1 = i ∧ u = v
      · have ep : pst (F0 ++ [(a, b, u)]) i (some v) = F0 ++ [(a, i, v)] := by
          unfold pst
          rw [gl]
          dsimp only
          rw [if_pos e]
          simp
        refine (if_t (by rw [tt, decide_eq_true e.1, decide_eq_true e.2]; rfl)).trans ?_
        have := put_last (env := [h0, .own ((F0 ++ [(a, b, u)]).map eS), .val (nat i), .val (eO (some v))]) (i := 1) (xs := F0.map eS) (d0 := eS (a, b, u)) (d := eS (a, i, v)) (k := dO1 D.neg (dC (.int 1)))
          (e := dTup [dO2 D.ix (dO2 D.ix (dVar 1) (dO1 D.neg (dC (.int 1)))) (dC (.int 0)), dVar 2, dVar 3]) (c := c) (c1 := c) (c2 := c) (by rw [m]; rfl) (tup_of (ds := [nat a, nat i, nat v]) (args_3 (o2_of (u := .pl (eS (a, b, u))) (v := .pl (.int 0)) lst rfl rfl) rfl rfl)) rfl
        show sP _ _ = _
        unfold sP
        rw [this, ep, show (F0 ++ [(a, i, v)]).map eS = F0.map eS ++ [eS (a, i, v)] by rw [List.map_append]; rfl]
        rfl
      · have ep : pst (F0 ++ [(a, b, u)]) i (some v) = (F0 ++ [(a, b, u)]) ++ [(i, i, v)] := by
          unfold pst
          rw [gl]
          dsimp only
          rw [if_neg e]
        refine (if_f (by rw [tt]; exact congrArg (fun k => R.ok k c) (by rw [← Bool.decide_and]; exact decide_eq_false e))).trans ?_
        rw [app, ep]
theorem sfor_go : ∀ (t : H) (i : Nat) (h0 : Slot) (F : List St) (s2 s3 : Slot) (c : C), F.length + t.length ≤ 1000 → ∃ s2' s3', sForL (tgT [tgN 2, tgN 3]) sBody (enumD (i : Nat) (t.map eO)) [h0, .own (F.map eS), s2, s3] c = .nx [h0, .own ((pgo i F t).map eS), s2', s3'] c
  | [], i, h0, F, s2, s3, c, _ => ⟨s2, s3, rfl⟩
  | x :: t, i, h0, F, s2, s3, c, hl => by
    rw [List.length_cons] at hl
    have hp := pst_len F i x
    obtain ⟨s2', s3', e⟩ := sfor_go t (i + 1) h0 (pst F i x) (.val (nat i)) (.val (eO x)) c (by omega)
    refine ⟨s2', s3', ?_⟩
    rw [List.map_cons, enumD]
    refine (for_nx (env1 := [h0, .own (F.map eS), .val (nat i), .val (eO x)]) rfl (sbody_ok h0 F i x c (by omega))).trans ?_
    exact e
theorem stretches_ok (h : H) (hl : h.length ≤ 1000) (c : C) : sem_stretches_of [eH h] c = .ok (eF (strH h)) c := by
  obtain ⟨s2, s3, e⟩ := sfor_go h 0 (.val (eH h)) [] .no .no c (by simp; omega)
  rw [pgo_strH] at e
  refine run_rt (env := [.val (eH h), .no, .no, .no]) rfl ?_
  refine (seq_nx (env1 := [.val (eH h), .own [], .no, .no]) (own_of (xs := []) (lst_of (ds := []) rfl))).trans ?_
  refine (seq_nx (env1 := [.val (eH h), .own ((strH h).map eS), s2, s3]) ((sfor_of (ienum_of (d := eH h) rfl rfl)).trans e)).trans ?_
  rfl
end K77

set_option maxRecDepth 10000
set_option autoImplicit false
set_option exponentiation.threshold 5000
set_option linter.all false
namespace K77
open DL Com
theorem rep_one {d : D} {n : Nat} (hn : n ≤ 10000) : D.mulA (.lst [d]) (.int n) = some (.lst (List.replicate n d)) := by
  have e : (List.replicate n [d]).flatten = List.replicate n d := by
    clear hn
    induction n with
    | zero => rfl
    | succ n ih => rw [List.replicate_succ, List.flatten_cons, ih, List.replicate_succ]; rfl
  have r : D.rep (.lst [d]) (.int n) = some (.lst (List.replicate n d)) := by
    rw [D.rep, if_pos ⟨by omega, by omega, by rw [Int.toNat_natCast]; show 1 * n ≤ sizeL; have := le_sizeL (n := n) (by omega); omega⟩, Int.toNat_natCast, e]
  show (none : Option D).or ((D.rep (.lst [d]) (.int n)).or _) = _
  rw [r]
  rfl
theorem eH_len (h : H) : (h.map eO).length = h.length := List.length_map ..
theorem put_dat {h : H} {c : Co} : (put h c).map eO = ((h.map eO).take c.f ++ List.replicate (c.l + 1 - c.f) (nat c.v)) ++ (h.map eO).drop (c.l + 1) := by
  unfold put
  rw [List.map_append, List.map_append, List.map_take, List.map_drop, List.map_replicate]
  rfl
theorem sub_nat {a b : Nat} (h : b ≤ a) : D.subA (nat a) (nat b) = some (nat (a - b)) := by
  show D.subA (.int a) (.int b) = _
  rw [subA_int]
  congr 2
  omega
theorem blank_dat (e : DE) (env : Env) (c : C) (h : e env c = .ok (.pl (.int 100)) c) : dO2 D.mulA (dLst [dC .non]) e env c = .ok (.pl (eH blank)) c := by
  refine o2_of (u := .pl (.lst [.non])) (v := .pl (nat 100)) rfl h ?_
  show D.mulA (.lst [.non]) (.int (100 : Nat)) = _
  rw [rep_one (by decide)]
  show some (D.lst (List.replicate 100 (eO none))) = some (.lst ((List.replicate 100 none).map eO))
  rw [List.map_replicate]
/-! ### table_in -/
def tExp : DE := dO2 D.addA (dO2 D.addA (dSl D.slA (dVar 1) none (some (dVar 5))) (dO2 D.mulA (dLst [dVar 7]) (dO2 D.subA (dO2 D.addA (dVar 6) (dC (.int 1))) (dVar 5)))) (dSl D.slA (dVar 1) (some (dO2 D.addA (dVar 6) (dC (.int 1)))) none)
def tTest : DT := tOr (tBl (dO2 D.eq (dO2 D.addA (dVar 3) (dC (.int 1))) (dB bLen [dVar 0]))) (tBl (dO2 D.gt (dO2 D.ix (dO2 D.ix (dVar 0) (dO2 D.addA (dVar 3) (dC (.int 1)))) (dC (.int 0))) (dVar 4)))
def tRow : DE := dIf (tBl (dO2 D.ne (dVar 2) (dLst []))) (dO2 D.ix (dO2 D.ix (dVar 2) (dO1 D.neg (dC (.int 1)))) (dC (.int 1))) (dTup [])
def tIf2 : DS := sIf (tBl (dO2 D.ne (dVar 8) tRow)) (sApp 2 (dTup [dVar 4, dVar 8])) (sNil)
def tIf : DS := sSeq (sSet 8 (dCall (sem_stretches_of) [dVar 1])) tIf2
def tBody : DS := sSeq (sSet 1 tExp) (sIf tTest tIf (sNil))
theorem tExp_ok {h : H} {co : Co} (hl : h.length = 100) (ok : co.ok) (x0 s2 s3 s4 s8 : Slot) (c : C) : tExp [x0, .val (eH h), s2, s3, s4, .val (nat co.f), .val (nat co.l), .val (nat co.v), s8] c = .ok (.pl (eH (put h co))) c := by
  have fl := ok.fl
  have ll := ok.ll
  have e0 : dSl D.slA (dVar 1) none (some (dVar 5)) [x0, .val (eH h), s2, s3, s4, .val (nat co.f), .val (nat co.l), .val (nat co.v), s8] c = .ok (.pl (.lst ((h.map eO).take co.f))) c :=
    slice_of (x := eH h) (i := none) (j := some (co.f : Int)) rfl rfl (part_of rfl) (slA_lst.trans (by rw [cut_take]))
  have p1 : dO2 D.addA (dVar 6) (dC (.int 1)) [x0, .val (eH h), s2, s3, s4, .val (nat co.f), .val (nat co.l), .val (nat co.v), s8] c = .ok (.pl (nat (co.l + 1))) c := add1 rfl
  have e1 : dO2 D.mulA (dLst [dVar 7]) (dO2 D.subA (dO2 D.addA (dVar 6) (dC (.int 1))) (dVar 5)) [x0, .val (eH h), s2, s3, s4, .val (nat co.f), .val (nat co.l), .val (nat co.v), s8] c = .ok (.pl (.lst (List.replicate (co.l + 1 - co.f) (nat co.v)))) c :=
    o2_of (u := .pl (.lst [nat co.v])) (v := .pl (nat (co.l + 1 - co.f))) rfl (o2_of (u := .pl (nat (co.l + 1))) (v := .pl (nat co.f)) p1 rfl (sub_nat (by omega))) (rep_one (by omega))
  have e2 : dSl D.slA (dVar 1) (some (dO2 D.addA (dVar 6) (dC (.int 1)))) none [x0, .val (eH h), s2, s3, s4, .val (nat co.f), .val (nat co.l), .val (nat co.v), s8] c = .ok (.pl (.lst ((h.map eO).drop (co.l + 1)))) c :=
    slice_of (x := eH h) (i := some ((co.l + 1 : Nat) : Int)) (j := none) rfl (part_of p1) rfl (slA_lst.trans (by rw [cut_drop]))
  refine o2_of (u := .pl (.lst ((h.map eO).take co.f ++ List.replicate (co.l + 1 - co.f) (nat co.v)))) (v := .pl (.lst ((h.map eO).drop (co.l + 1)))) (o2_of (u := .pl (.lst ((h.map eO).take co.f))) (v := .pl (.lst (List.replicate (co.l + 1 - co.f) (nat co.v)))) e0 e1 ?_) e2 ?_
  · refine cat_lists ?_
    rw [List.length_take, eH_len, List.length_replicate]; omega
  · show D.addA (.lst _) (.lst _) = _
    rw [cat_lists (by rw [List.length_append, List.length_take, eH_len, List.length_replicate, List.length_drop, eH_len]; omega)]
    show _ = some (D.lst ((put h co).map eO))
    rw [put_dat]
theorem tTest_ok {pre suf : List Co} {co : Co} (hn : (pre ++ co :: suf).length ≤ 1000) (s1 s2 s5 s6 s7 s8 : Slot) (c : C) : tTest [.val (eCs (pre ++ co :: suf)), s1, s2, .val (nat pre.length), .val (nat co.k), s5, s6, s7, s8] c = .ok (bnd co.k suf) c := by
  have p1 : dO2 D.addA (dVar 3) (dC (.int 1)) [.val (eCs (pre ++ co :: suf)), s1, s2, .val (nat pre.length), .val (nat co.k), s5, s6, s7, s8] c = .ok (.pl (nat (pre.length + 1))) c := add1 rfl
  have t1 : tBl (dO2 D.eq (dO2 D.addA (dVar 3) (dC (.int 1))) (dB bLen [dVar 0])) [.val (eCs (pre ++ co :: suf)), s1, s2, .val (nat pre.length), .val (nat co.k), s5, s6, s7, s8] c = .ok (decide (pre.length + 1 = (pre ++ co :: suf).length)) c :=
    tb_of (o2_of (u := .pl (nat (pre.length + 1))) (v := .pl (nat (pre ++ co :: suf).length)) p1 (b_of (f := bLen) (ds := [eCs (pre ++ co :: suf)]) rfl (by show some (D.int ((pre ++ co :: suf).map eC).length) = _; rw [List.length_map])) (eq_natn _ _))
  cases suf with
  | nil =>
    have := tor_of (q := tBl (dO2 D.gt (dO2 D.ix (dO2 D.ix (dVar 0) (dO2 D.addA (dVar 3) (dC (.int 1)))) (dC (.int 0))) (dVar 4))) (k := true) (c2 := c) t1 (fun h => absurd h (by simp)) fun _ => rfl
    refine this.trans ?_
    simp [bnd]
  | cons d suf =>
    have ix : (pre ++ co :: d :: suf)[pre.length + 1]? = some d := by
      rw [List.getElem?_append_right (by omega)]
      simp
    have t2 : tBl (dO2 D.gt (dO2 D.ix (dO2 D.ix (dVar 0) (dO2 D.addA (dVar 3) (dC (.int 1)))) (dC (.int 0))) (dVar 4)) [.val (eCs (pre ++ co :: d :: suf)), s1, s2, .val (nat pre.length), .val (nat co.k), s5, s6, s7, s8] c = .ok (decide (co.k < d.k)) c := by
      refine tb_of (o2_of (u := .pl (nat d.k)) (v := .pl (nat co.k)) (o2_of (u := .pl (eC d)) (v := .pl (.int 0)) (o2_of (u := .pl (eCs (pre ++ co :: d :: suf))) (v := .pl (nat (pre.length + 1))) rfl p1 (ix_tup (by rw [List.getElem?_map, ix]; rfl))) rfl rfl) rfl ?_)
      show some (D.bl (decide ((co.k : Int) < d.k))) = _
      congr 2
      exact decide_eq_decide.mpr (by omega)
    have ne : decide (pre.length + 1 = (pre ++ co :: d :: suf).length) = false := decide_eq_false (by simp)
    rw [ne] at t1
    have := tor_of (j := false) t1 (fun _ => t2) fun h => by cases h
    exact this
def lastR (F : List Row) : List St := match F.getLast? with
  | none => []
  | some r => r.2
theorem lastR_snoc (F : List Row) (r : Row) : lastR (F ++ [r]) = r.2 := by
  unfold lastR
  simp
theorem tRow_ok (F : List Row) (s0 s1 s3 s4 s5 s6 s7 s8 : Slot) (c : C) : tRow [s0, s1, .own (F.map eR), s3, s4, s5, s6, s7, s8] c = .ok (.pl (eF (lastR F))) c := by
  have ne : D.ne (.lst (F.map eR)) (.lst []) = some (.bl (!(F.map eR).isEmpty)) := ne_nil fun d hd => by
    obtain ⟨z, _, rfl⟩ := List.mem_map.mp hd
    exact shal_R 56 z
  have t2 : tBl (dO2 D.ne (dVar 2) (dLst [])) [s0, s1, .own (F.map eR), s3, s4, s5, s6, s7, s8] c = .ok (!(F.map eR).isEmpty) c := tb_of (o2_of (u := .ow 2 (F.map eR)) (v := .pl (.lst [])) rfl rfl ne)
  rcases list_end F with rfl | ⟨F0, z, rfl⟩
  · exact (ife_f t2).trans rfl
  · rw [lastR_snoc]
    have m : (F0 ++ [z]).map eR = F0.map eR ++ [eR z] := by rw [List.map_append]; rfl
    rw [m] at t2 ⊢
    have nn : (!(F0.map eR ++ [eR z]).isEmpty) = true := by cases F0 <;> rfl
    rw [nn] at t2
    refine (ife_t t2).trans ?_
    exact o2_of (u := .pl (eR z)) (v := .pl (.int 1)) (o2_of (u := .ow 2 (F0.map eR ++ [eR z])) (v := .pl (.int (-1))) rfl rfl ix_last) rfl rfl
theorem tIf_ok {h : H} (hl : h.length = 100) (F : List Row) (hF : F.length ≤ 1000) (k : Nat) (s0 s3 s5 s6 s7 s8 : Slot) (c : C) : ∃ s8', tIf [s0, .val (eH h), .own (F.map eR), s3, .val (nat k), s5, s6, s7, s8] c =
    .nx [s0, .val (eH h), .own ((if strH h = lastR F then F else F ++ [(k, strH h)]).map eR), s3, .val (nat k), s5, s6, s7, s8'] c := by
  refine ⟨.val (eF (strH h)), ?_⟩
  refine (seq_nx (env1 := [s0, .val (eH h), .own (F.map eR), s3, .val (nat k), s5, s6, s7, .val (eF (strH h))]) (set_of (call_of (ds := [eH h]) rfl (stretches_ok h (by omega) c)))).trans ?_
  have t : tBl (dO2 D.ne (dVar 8) tRow) [s0, .val (eH h), .own (F.map eR), s3, .val (nat k), s5, s6, s7, .val (eF (strH h))] c = .ok (!decide (strH h = lastR F)) c :=
    tb_of (o2_of (u := .pl (eF (strH h))) (v := .pl (eF (lastR F))) rfl (tRow_ok F ..) (ne_F _ _))
  by_cases e : strH h = lastR F
  · rw [if_pos e]
    rw [decide_eq_true e] at t
    exact if_skip t
  · rw [if_neg e]
    rw [decide_eq_false e] at t
    refine (if_t t).trans ?_
    have := app_of (env := [s0, .val (eH h), .own (F.map eR), s3, .val (nat k), s5, s6, s7, .val (eF (strH h))]) (i := 2) (xs := F.map eR) (d := eR (k, strH h)) (e := dTup [dVar 4, dVar 8]) (c := c) (c1 := c) rfl (tup_of (ds := [nat k, eF (strH h)]) rfl) (by rw [List.length_map]; exact Nat.lt_of_le_of_lt hF (by decide))
    rw [this, List.map_append]
    rfl
theorem tfor_ok : ∀ (suf pre : List Co) (h : H) (F : List Row) (s3 s4 s5 s6 s7 s8 : Slot) (c : C), h.length = 100 → Oks suf → (pre ++ suf).length ≤ 1000 → F.length ≤ pre.length → ∃ h' s3' s4' s5' s6' s7' s8',
    sForL (tgT [tgN 3, tgT [tgN 4, tgN 5, tgN 6, tgN 7]]) tBody (enumD (pre.length : Nat) (suf.map eC)) [.val (eCs (pre ++ suf)), .val (eH h), .own (F.map eR), s3, s4, s5, s6, s7, s8] c =
      .nx [.val (eCs (pre ++ suf)), .val (eH h'), .own ((F ++ tabP h (lastR F) suf).map eR), s3', s4', s5', s6', s7', s8'] c
  | [], pre, h, F, s3, s4, s5, s6, s7, s8, c, hl, ok, hn, hF => ⟨h, s3, s4, s5, s6, s7, s8, by rw [tabP, List.append_nil, List.append_nil]; rfl⟩
  | co :: suf, pre, h, F, s3, s4, s5, s6, s7, s8, c, hl, ok, hn, hF => by
    have oc := ok co (List.mem_cons_self ..)
    have os : Oks suf := fun x hx => ok x (List.mem_cons_of_mem _ hx)
    have hl2 := put_len hl oc
    have ea : pre ++ co :: suf = (pre ++ [co]) ++ suf := by simp
    have hn2 : ((pre ++ [co]) ++ suf).length ≤ 1000 := by rw [← ea]; exact hn
    have lp : (pre ++ [co]).length = pre.length + 1 := by simp
    have hn3 : pre.length ≤ 1000 := by rw [List.length_append] at hn; omega
    have stp : ∃ s8' , tBody [.val (eCs (pre ++ co :: suf)), .val (eH h), .own (F.map eR), .val (nat pre.length), .val (nat co.k), .val (nat co.f), .val (nat co.l), .val (nat co.v), s8] c =
        .nx [.val (eCs (pre ++ co :: suf)), .val (eH (put h co)), .own ((if bnd co.k suf = true then (if strH (put h co) = lastR F then F else F ++ [(co.k, strH (put h co))]) else F).map eR), .val (nat pre.length), .val (nat co.k), .val (nat co.f), .val (nat co.l), .val (nat co.v), s8'] c := by
      have s1 : sSet 1 tExp [.val (eCs (pre ++ co :: suf)), .val (eH h), .own (F.map eR), .val (nat pre.length), .val (nat co.k), .val (nat co.f), .val (nat co.l), .val (nat co.v), s8] c = .nx [.val (eCs (pre ++ co :: suf)), .val (eH (put h co)), .own (F.map eR), .val (nat pre.length), .val (nat co.k), .val (nat co.f), .val (nat co.l), .val (nat co.v), s8] c :=
        set_of (tExp_ok hl oc ..)
      have tt := tTest_ok hn (.val (eH (put h co))) (.own (F.map eR)) (.val (nat co.f)) (.val (nat co.l)) (.val (nat co.v)) s8 c
      by_cases hb : bnd co.k suf = true
      · obtain ⟨s8', e⟩ := tIf_ok hl2 F (by omega) co.k (.val (eCs (pre ++ co :: suf))) (.val (nat pre.length)) (.val (nat co.f)) (.val (nat co.l)) (.val (nat co.v)) s8 c
        refine ⟨s8', ?_⟩
        rw [if_pos hb]
        rw [hb] at tt
        exact (seq_nx s1).trans ((if_t tt).trans e)
      · refine ⟨s8, ?_⟩
        rw [if_neg hb]
        rw [Bool.eq_false_iff.mpr hb] at tt
        exact (seq_nx s1).trans (if_skip tt)
    obtain ⟨s8a, e1⟩ := stp
    have hF2 : (if bnd co.k suf = true then (if strH (put h co) = lastR F then F else F ++ [(co.k, strH (put h co))]) else F).length ≤ (pre ++ [co]).length := by
      rw [lp]
      split
      · split
        · omega
        · simp; omega
      · omega
    obtain ⟨h', s3', s4', s5', s6', s7', s8', e2⟩ := tfor_ok suf (pre ++ [co]) (put h co) (if bnd co.k suf = true then (if strH (put h co) = lastR F then F else F ++ [(co.k, strH (put h co))]) else F) (.val (nat pre.length)) (.val (nat co.k)) (.val (nat co.f)) (.val (nat co.l)) (.val (nat co.v)) s8a c hl2 os hn2 hF2
    refine ⟨h', s3', s4', s5', s6', s7', s8', ?_⟩
    rw [List.map_cons, enumD]
    refine (for_nx (env1 := [.val (eCs (pre ++ co :: suf)), .val (eH h), .own (F.map eR), .val (nat pre.length), .val (nat co.k), .val (nat co.f), .val (nat co.l), .val (nat co.v), s8]) rfl e1).trans ?_
    rw [ea, show ((pre.length : Int) + 1) = (((pre ++ [co]).length : Nat) : Int) by rw [lp]; rfl]
    rw [e2]
    have fin : (if bnd co.k suf = true then (if strH (put h co) = lastR F then F else F ++ [(co.k, strH (put h co))]) else F) ++ tabP (put h co) (lastR (if bnd co.k suf = true then (if strH (put h co) = lastR F then F else F ++ [(co.k, strH (put h co))]) else F)) suf = F ++ tabP h (lastR F) (co :: suf) := by
      rw [tabP]
      by_cases hb : bnd co.k suf = true
      · simp only [if_pos hb]
        by_cases e : strH (put h co) = lastR F
        · simp only [if_pos e]
        · simp only [if_neg e]
          rw [lastR_snoc, List.append_assoc]
          rfl
      · simp only [if_neg hb]
    rw [fin]
theorem table_in_ok (cs : List Co) (ok : Oks cs) (hn : cs.length ≤ 1000) (c : C) : sem_table_in [eCs cs] c = .ok (eT (tab cs)) c := by
  obtain ⟨h', s3, s4, s5, s6, s7, s8, e⟩ := tfor_ok cs [] blank [] .no .no .no .no .no .no c blank_len ok hn (Nat.le_refl _)
  refine run_rt (env := [.val (eCs cs), .no, .no, .no, .no, .no, .no, .no, .no]) rfl ?_
  have p1 : sPar [(1, false), (2, true)] [dO2 D.mulA (dLst [dC .non]) (dC k_HOURS), dLst []] [.val (eCs cs), .no, .no, .no, .no, .no, .no, .no, .no] c = .nx [.val (eCs cs), .val (eH blank), .own [], .no, .no, .no, .no, .no, .no] c := by
    unfold sPar
    rw [args_2 (u := .pl (eH blank)) (v := .pl (.lst [])) (blank_dat (dC k_HOURS) _ c rfl) rfl]
    rfl
  refine (seq_nx p1).trans ?_
  refine (seq_nx (env1 := [.val (eCs cs), .val (eH h'), .own ((tab cs).map eR), s3, s4, s5, s6, s7, s8]) ((sfor_of (ienum_of (d := eCs cs) rfl rfl)).trans e)).trans ?_
  rfl
end K77

set_option maxRecDepth 10000
set_option autoImplicit false
set_option exponentiation.threshold 5000
set_option linter.all false
namespace K77
open DL Com
theorem isI_nat {lo hi : Int} {n : Nat} (h1 : lo ≤ n) (h2 : (n : Int) ≤ hi) : isI lo hi (nat n) = true := by
  show (decide _ && decide _) = true
  rw [decide_eq_true h1, decide_eq_true h2]
  rfl
theorem whole_ok {lo hi : Int} {n : Nat} (h1 : lo ≤ n) (h2 : (n : Int) ≤ hi) (c : C) : sem_is_whole [nat n, .int lo, .int hi] c = .ok (.bl true) c := by
  have := Com.is_whole_spec (nat n) (by show 2 ≤ 5; decide) lo hi c
  rw [isI_nat h1 h2] at this
  exact this
theorem tuple_ok {lo hi : Int} {xs : List D} (h1 : lo ≤ xs.length) (h2 : (xs.length : Int) ≤ hi) (c : C) : sem_is_tuple_of [.tup xs, .int lo, .int hi] c = .ok (.bl true) c := by
  have := Com.is_tuple_spec (.tup xs) (by show 4 ≤ 5; decide) lo hi c
  have e : tupB lo hi (.tup xs) = true := by
    show (decide _ && decide _) = true
    rw [decide_eq_true h1, decide_eq_true h2]
    rfl
  rw [e] at this
  exact this
theorem need_whole_ok {lo hi : Int} {n : Nat} (h1 : lo ≤ n) (h2 : (n : Int) ≤ hi) (c : C) : sem_need_whole [nat n, .int lo, .int hi] c = .ok .non c := by
  refine run_nx (env := [.val (nat n), .val (.int lo), .val (.int hi)]) (env' := [.val (nat n), .val (.int lo), .val (.int hi)]) rfl ?_
  exact if_skip (tnot_of (k := true) (te_bl (call_of (ds := [nat n, .int lo, .int hi]) rfl (whole_ok h1 h2 c))))
theorem is_corr_ok {co : Co} (ok : co.ok) (c : C) : sem_is_correction [eC co] c = .ok (.bl true) c := by
  have fl := ok.fl
  have ll := ok.ll
  have kk := ok.kk
  have vv := ok.vv
  refine run_rt (env := [.val (eC co)]) rfl ?_
  have t : (tOr (tNot (tE (dCall (sem_is_tuple_of) [dVar 0, dC (.int 4), dC (.int 4)]))) (tOr (tNot (tE (dCall (sem_is_whole) [dO2 D.ix (dVar 0) (dC (.int 0)), dC (.int 0), dC k_TIME]))) (tNot (tE (dCall (sem_is_whole) [dO2 D.ix (dVar 0) (dC (.int 1)), dC (.int 0), dO2 D.subA (dC k_HOURS) (dC (.int 1))]))))) [.val (eC co)] c = .ok false c :=
    tor2 (j := false) (k := false) (tnot_of (k := true) (te_bl (call_of (ds := [eC co, .int 4, .int 4]) rfl (tuple_ok (by show (4 : Int) ≤ 4; decide) (by show (4 : Int) ≤ 4; decide) c)))) (fun _ =>
      tor2 (j := false) (k := false) (tnot_of (k := true) (te_bl (call_of (ds := [nat co.k, .int 0, .int 1000]) rfl (whole_ok (by omega) (by omega) c)))) (fun _ =>
        tnot_of (k := true) (te_bl (call_of (ds := [nat co.f, .int 0, .int 99]) rfl (whole_ok (by omega) (by omega) c)))))
  refine (seq_skip t).trans ?_
  refine ret_of (v := .pl (.bl true)) ?_
  exact dand2 (j := true) (k := true) (call_of (ds := [nat co.l, nat co.f, .int 99]) rfl (whole_ok (by omega) (by omega) c)) (fun _ => call_of (ds := [nat co.v, .int 0, .int 9]) rfl (whole_ok (by omega) (by omega) c))
theorem zip_of {a b : DE} {env : Env} {c : C} {dx dy : D} {xs ys : List D} (ha : a env c = .ok (.pl dx) c) (hb : b env c = .ok (.pl dy) c) (hx : dx.items = some xs) (hy : dy.items = some ys) : iZip2A false a b env c = .ok (zipD xs ys) c := by
  rw [iZip2A, ha, ev_bind_ok, hb, ev_bind_ok]
  unfold kZip2A
  have g : ((RV.pl dx).good false && (RV.pl dy).good false) = true := rfl
  rw [if_pos g, ev_rvd, ev_rvd, hx, hy]
theorem zip_map : ∀ xs ys : List Co, zipD (xs.map eC) (ys.map eC) = (xs.zip ys).map fun p => D.tup [eC p.1, eC p.2]
  | [], _ => rfl
  | x :: xs, [] => rfl
  | x :: xs, y :: ys => by
    rw [List.map_cons, List.map_cons, zipD, zip_map xs ys, List.zip_cons_cons, List.map_cons]
theorem zip_srt : ∀ cs : List Co, Srt cs → ∀ p ∈ cs.zip (cs.drop 1), p.1.k ≤ p.2.k
  | [], _, p, h => by simp at h
  | [a], _, p, h => by simp at h
  | a :: b :: t, s, p, h => by
    obtain ⟨s1, s2⟩ := List.pairwise_cons.mp s
    have h : p ∈ (a, b) :: (b :: t).zip ((b :: t).drop 1) := h
    rcases List.mem_cons.mp h with rfl | h
    · exact s1 b (List.mem_cons_self ..)
    · exact zip_srt (b :: t) s2 p h
theorem all_true {α : Type} (xs : List α) : bAll [.lst (xs.map fun _ => D.bl true)] = some (.bl true) := by
  have e : xs.map (fun _ => D.bl true) = (xs.map fun _ => true).map D.bl := by rw [List.map_map]; rfl
  show (DL.bools _).map _ = _
  rw [e, bools_map]
  simp
theorem are_corr_ok {cs : List Co} (ok : Oks cs) (s : Srt cs) (hn : cs.length ≤ 60) (c : C) : sem_are_corrections [eCs cs] c = .ok (.bl true) c := by
  refine run_rt (env := [.val (eCs cs), .no, .no]) rfl ?_
  have l1 := loop_all (α := Co) eC (fun _ => D.bl true) (tgN 1) (dCall (sem_is_correction) [dVar 1]) [.val (eCs cs), .no, .no] c cs fun co hco =>
    ⟨[.val (eCs cs), .val (eC co), .no], rfl, call_of (ds := [eC co]) rfl (is_corr_ok (ok co hco) c)⟩
  have a1 : dB bAll [dComp (iSeq false (dVar 0)) (tgN 1) (tYes) (dCall (sem_is_correction) [dVar 1]) [1]] [.val (eCs cs), .no, .no] c = .ok (.pl (.bl true)) c :=
    b_of (f := bAll) (ds := [.lst (cs.map fun _ => D.bl true)]) (args_1 (comp_of (iseq_of (d := eCs cs) rfl rfl) l1)) (all_true cs)
  have t : (tOr (tNot (tE (dCall (sem_is_tuple_of) [dVar 0, dC (.int 0), dC k_MANY]))) (tNot (tE (dB bAll [dComp (iSeq false (dVar 0)) (tgN 1) (tYes) (dCall (sem_is_correction) [dVar 1]) [1]])))) [.val (eCs cs), .no, .no] c = .ok false c :=
    tor2 (j := false) (k := false) (tnot_of (k := true) (te_bl (call_of (ds := [eCs cs, .int 0, .int 60]) rfl (tuple_ok (by omega) (by rw [List.length_map]; omega) c)))) (fun _ => tnot_of (k := true) (te_bl a1))
  refine (seq_skip t).trans ?_
  have l2 := loop_all (α := Co × Co) (fun p => D.tup [eC p.1, eC p.2]) (fun _ => D.bl true) (tgT [tgN 1, tgN 2]) (dO2 D.le (dO2 D.ix (dVar 1) (dC (.int 0))) (dO2 D.ix (dVar 2) (dC (.int 0)))) [.val (eCs cs), .no, .no] c (cs.zip (cs.drop 1)) fun p hp =>
    ⟨[.val (eCs cs), .val (eC p.1), .val (eC p.2)], rfl, by
      have := le_of (a := dO2 D.ix (dVar 1) (dC (.int 0))) (b := dO2 D.ix (dVar 2) (dC (.int 0))) (env := [.val (eCs cs), .val (eC p.1), .val (eC p.2)]) (c := c) (i := p.1.k) (j := p.2.k) rfl rfl
      rw [this, decide_eq_true (by have := zip_srt cs s p hp; omega)]⟩
  rw [← zip_map] at l2
  refine ret_of (v := .pl (.bl true)) ?_
  refine b_of (f := bAll) (ds := [.lst ((cs.zip (cs.drop 1)).map fun _ => D.bl true)]) (args_1 (comp_of (xs := zipD (cs.map eC) ((cs.drop 1).map eC)) ?_ l2)) (all_true _)
  have sl : dSl D.slA (dVar 0) (some (dC (.int 1))) none [.val (eCs cs), .no, .no] c = .ok (.pl (.tup ((cs.drop 1).map eC))) c :=
    slice_of (x := eCs cs) (i := some ((1 : Nat) : Int)) (j := none) rfl rfl rfl (slA_tup.trans (by rw [cut_drop, List.map_drop]))
  exact zip_of (dx := eCs cs) (dy := .tup ((cs.drop 1).map eC)) rfl sl rfl rfl
theorem need_corr_ok {cs : List Co} (ok : Oks cs) (s : Srt cs) (hn : cs.length ≤ 60) (c : C) : sem_need_corrections [eCs cs] c = .ok .non c := by
  refine run_nx (env := [.val (eCs cs)]) (env' := [.val (eCs cs)]) rfl ?_
  exact if_skip (tnot_of (k := true) (te_bl (call_of (ds := [eCs cs]) rfl (are_corr_ok ok s hn c))))
theorem known_table_ok {cs : List Co} (ok : Oks cs) (s : Srt cs) (hn : cs.length ≤ 60) (c : C) : sem_known_table [eCs cs] c = .ok (eT (tab cs)) c := by
  refine run_rt (env := [.val (eCs cs)]) rfl ?_
  refine (seq_nx (expr_of (v := .pl .non) (call_of (ds := [eCs cs]) rfl (need_corr_ok ok s hn c)))).trans ?_
  exact ret_of (v := .pl (eT (tab cs))) (call_of (ds := [eCs cs]) rfl (table_in_ok cs ok (by omega) c))
/-! ### known_at -/
def lk (t hr : Nat) (x : Option Nat) (c : Co) : Option Nat := if c.k ≤ t ∧ c.f ≤ hr ∧ hr ≤ c.l then some c.v else x
def look (cs : List Co) (t hr : Nat) : Option Nat := cs.foldl (lk t hr) none
theorem look_fold (t hr : Nat) : ∀ (cs : List Co) (h : H) (x : Option Nat), h.length = 100 → Oks cs → h[hr]? = some x → (cs.foldl (at_ t) h)[hr]? = some (cs.foldl (lk t hr) x)
  | [], h, x, _, _, e => e
  | c :: cs, h, x, hl, ok, e => by
    have oc := ok c (List.mem_cons_self ..)
    refine look_fold t hr cs (at_ t h c) (lk t hr x c) ?_ (fun y hy => ok y (List.mem_cons_of_mem _ hy)) ?_
    · unfold at_
      split
      · exact put_len hl oc
      · exact hl
    · unfold at_ lk
      by_cases h1 : c.k ≤ t
      · rw [if_pos h1, put_get hl oc]
        by_cases h2 : c.f ≤ hr ∧ hr ≤ c.l
        · rw [if_pos h2, if_pos ⟨h1, h2⟩]
        · rw [if_neg h2, if_neg fun z => h2 z.2, e]
      · rw [if_neg h1, if_neg fun z => h1 z.1, e]
theorem look_hours {cs : List Co} (ok : Oks cs) {t hr : Nat} (h : hr < 100) : (hoursAt cs t)[hr]? = some (look cs t hr) :=
  look_fold t hr cs blank none blank_len ok (by unfold blank; rw [List.getElem?_replicate, if_pos h])
def kTest : DT := tAnd (tBl (dO2 D.le (dVar 4) (dVar 1))) (tBl (dChain D.le D.le (dVar 5) (dVar 2) (dVar 6)))
theorem kfor_ok (s0 : Slot) (t hr : Nat) : ∀ (cs : List Co) (x : Option Nat) (s4 s5 s6 s7 : Slot) (c : C), ∃ s4' s5' s6' s7',
    sForL (tgT [tgN 4, tgN 5, tgN 6, tgN 7]) (sIf kTest (sSet 3 (dVar 7)) (sNil)) (cs.map eC) [s0, .val (nat t), .val (nat hr), .val (eO x), s4, s5, s6, s7] c = .nx [s0, .val (nat t), .val (nat hr), .val (eO (cs.foldl (lk t hr) x)), s4', s5', s6', s7'] c
  | [], x, s4, s5, s6, s7, c => ⟨s4, s5, s6, s7, rfl⟩
  | co :: cs, x, s4, s5, s6, s7, c => by
    obtain ⟨s4', s5', s6', s7', e⟩ := kfor_ok s0 t hr cs (lk t hr x co) (.val (nat co.k)) (.val (nat co.f)) (.val (nat co.l)) (.val (nat co.v)) c
    refine ⟨s4', s5', s6', s7', ?_⟩
    rw [List.map_cons]
    refine (for_nx (env1 := [s0, .val (nat t), .val (nat hr), .val (eO x), .val (nat co.k), .val (nat co.f), .val (nat co.l), .val (nat co.v)]) rfl ?_).trans e
    have tt : kTest [s0, .val (nat t), .val (nat hr), .val (eO x), .val (nat co.k), .val (nat co.f), .val (nat co.l), .val (nat co.v)] c = .ok (decide ((co.k : Int) ≤ t) && (decide ((co.f : Int) ≤ hr) && decide ((hr : Int) ≤ co.l))) c :=
      tand_of (tb_of (le_of rfl rfl)) (fun _ => tb_of (chain_le rfl rfl rfl)) fun _ => rfl
    unfold lk
    by_cases h : co.k ≤ t ∧ co.f ≤ hr ∧ hr ≤ co.l
    · rw [if_pos h]
      refine (if_t ?_).trans (set_of (d := nat co.v) rfl)
      rw [tt, decide_eq_true (by omega), decide_eq_true (by omega), decide_eq_true (by omega)]
      rfl
    · rw [if_neg h]
      refine if_skip ?_
      rw [tt, ← Bool.decide_and, ← Bool.decide_and, decide_eq_false (by omega)]
theorem known_at_ok {cs : List Co} (ok : Oks cs) (s : Srt cs) (hn : cs.length ≤ 60) {t hr : Nat} (ht : t ≤ 1000) (hh : hr ≤ 99) (c : C) : sem_known_at [eCs cs, nat t, nat hr] c = .ok (eO (look cs t hr)) c := by
  obtain ⟨s4, s5, s6, s7, e⟩ := kfor_ok (.val (eCs cs)) t hr cs none .no .no .no .no c
  refine run_rt (env := [.val (eCs cs), .val (nat t), .val (nat hr), .no, .no, .no, .no, .no]) rfl ?_
  refine (seq_nx (expr_of (v := .pl .non) (call_of (ds := [eCs cs]) rfl (need_corr_ok ok s hn c)))).trans ?_
  refine (seq_nx (expr_of (v := .pl .non) (call_of (ds := [nat t, .int 0, .int 1000]) rfl (need_whole_ok (by omega) (by omega) c)))).trans ?_
  refine (seq_nx (expr_of (v := .pl .non) (call_of (ds := [nat hr, .int 0, .int 99]) rfl (need_whole_ok (by omega) (by omega) c)))).trans ?_
  refine (seq_nx (env1 := [.val (eCs cs), .val (nat t), .val (nat hr), .val (eO none), .no, .no, .no, .no]) (set_of rfl)).trans ?_
  refine (seq_nx ((sfor_of (iseq_of (d := eCs cs) rfl rfl)).trans e)).trans ?_
  exact ret_of (v := .pl (eO (look cs t hr))) rfl
/-! ### without one -/
def rem (cs : List Co) (i : Nat) : List Co := cs.take i ++ cs.drop (i + 1)
theorem rem_sub (cs : List Co) (i : Nat) : (rem cs i).Sublist cs := by
  have e : cs = cs.take i ++ cs.drop i := (List.take_append_drop i cs).symm
  unfold rem
  conv => rhs; rw [e]
  refine List.Sublist.append_left ?_ _
  rw [show cs.drop (i + 1) = (cs.drop i).drop 1 by rw [List.drop_drop]]
  exact List.drop_sublist ..
theorem rem_ok {cs : List Co} (ok : Oks cs) (i : Nat) : Oks (rem cs i) := fun c hc => ok c ((rem_sub cs i).subset hc)
theorem rem_srt {cs : List Co} (s : Srt cs) (i : Nat) : Srt (rem cs i) := List.Pairwise.sublist (rem_sub cs i) s
theorem rem_len {cs : List Co} (i : Nat) : (rem cs i).length ≤ cs.length := (rem_sub cs i).length_le
theorem rem_of {x0 j : Nat} {cs : List Co} {i : Nat} {env : Env} {c : C} (hn : cs.length ≤ 1000) (h0 : dVar x0 env c = .ok (.pl (eCs cs)) c) (hi : dVar j env c = .ok (.pl (nat i)) c) (hp : dO2 D.addA (dVar j) (dC (.int 1)) env c = .ok (.pl (nat (i + 1))) c) :
    dO2 D.addA (dSl D.slA (dVar x0) none (some (dVar j))) (dSl D.slA (dVar x0) (some (dO2 D.addA (dVar j) (dC (.int 1)))) none) env c = .ok (.pl (eCs (rem cs i))) c := by
  refine o2_of (u := .pl (.tup ((cs.map eC).take i))) (v := .pl (.tup ((cs.map eC).drop (i + 1)))) (slice_of (x := eCs cs) (i := none) (j := some (i : Int)) h0 rfl (part_of hi) (slA_tup.trans (by rw [cut_take]))) (slice_of (x := eCs cs) (i := some ((i + 1 : Nat) : Int)) (j := none) h0 (part_of hp) rfl (slA_tup.trans (by rw [cut_drop]))) ?_
  show D.addA (.tup _) (.tup _) = _
  rw [cat_tups (by rw [List.length_take, List.length_drop, List.length_map]; omega)]
  show _ = some (D.tup ((rem cs i).map eC))
  unfold rem
  rw [List.map_append, List.map_take, List.map_drop]
/-! ### needless -/
def nlB (cs : List Co) (i : Nat) : Bool := decide (tab (rem cs i) = tab cs)
def nl (cs : List Co) : List Nat := (upTo 0 cs.length).filter (nlB cs)
def nTest : DT := tBl (dO2 D.eq (dCall (sem_table_in) [dO2 D.addA (dSl D.slA (dVar 0) none (some (dVar 3))) (dSl D.slA (dVar 0) (some (dO2 D.addA (dVar 3) (dC (.int 1)))) none)]) (dVar 1))
theorem nfor_ok {cs : List Co} (ok : Oks cs) (hn : cs.length ≤ 1000) : ∀ (I : List Nat) (F : List Nat) (s3 : Slot) (c : C), F.length + I.length ≤ 1000 → ∃ s3', sForL (tgN 3) (sIf nTest (sApp 2 (dVar 3)) (sNil)) (I.map nat) [.val (eCs cs), .val (eT (tab cs)), .own (F.map nat), s3] c =
    .nx [.val (eCs cs), .val (eT (tab cs)), .own ((F ++ I.filter (nlB cs)).map nat), s3'] c
  | [], F, s3, c, _ => ⟨s3, by rw [List.filter_nil, List.append_nil]; rfl⟩
  | i :: I, F, s3, c, hl => by
    rw [List.length_cons] at hl
    have t : nTest [.val (eCs cs), .val (eT (tab cs)), .own (F.map nat), .val (nat i)] c = .ok (nlB cs i) c :=
      tb_of (o2_of (u := .pl (eT (tab (rem cs i)))) (v := .pl (eT (tab cs))) (call_of (ds := [eCs (rem cs i)]) (args_1 (rem_of hn rfl rfl (add1 rfl))) (table_in_ok (rem cs i) (rem_ok ok i) (Nat.le_trans (rem_len i) hn) c)) rfl (eq_T _ _))
    rw [List.map_cons]
    cases hb : nlB cs i with
    | true =>
      obtain ⟨s3', e⟩ := nfor_ok ok hn I (F ++ [i]) (.val (nat i)) c (by simp; omega)
      refine ⟨s3', ?_⟩
      rw [hb] at t
      refine (for_nx (c2 := c) (env1 := [.val (eCs cs), .val (eT (tab cs)), .own (F.map nat), .val (nat i)]) (env2 := [.val (eCs cs), .val (eT (tab cs)), .own ((F ++ [i]).map nat), .val (nat i)]) rfl ?_).trans ?_
      · refine (if_t t).trans ?_
        have := app_of (env := [.val (eCs cs), .val (eT (tab cs)), .own (F.map nat), .val (nat i)]) (i := 2) (xs := F.map nat) (d := nat i) (e := dVar 3) (c := c) (c1 := c) rfl rfl (by rw [List.length_map]; exact Nat.lt_of_le_of_lt (show F.length ≤ 1000 by omega) (by decide))
        rw [this, List.map_append]
        rfl
      · rw [e, List.filter_cons, if_pos hb, List.append_assoc]
        rfl
    | false =>
      obtain ⟨s3', e⟩ := nfor_ok ok hn I F (.val (nat i)) c (by omega)
      refine ⟨s3', ?_⟩
      rw [hb] at t
      refine (for_nx (env1 := [.val (eCs cs), .val (eT (tab cs)), .own (F.map nat), .val (nat i)]) (env2 := [.val (eCs cs), .val (eT (tab cs)), .own (F.map nat), .val (nat i)]) rfl (if_skip t)).trans ?_
      rw [e, List.filter_cons, if_neg (by rw [hb]; decide)]
theorem needless_ok {cs : List Co} (ok : Oks cs) (s : Srt cs) (hn : cs.length ≤ 60) (c : C) : sem_needless [eCs cs] c = .ok (.tup ((nl cs).map nat)) c := by
  obtain ⟨s3, e⟩ := nfor_ok ok (by omega) (upTo 0 cs.length) [] .no c (by rw [upTo_len]; simp; omega)
  refine run_rt (env := [.val (eCs cs), .no, .no, .no]) rfl ?_
  refine (seq_nx (expr_of (v := .pl .non) (call_of (ds := [eCs cs]) rfl (need_corr_ok ok s hn c)))).trans ?_
  have p1 : sPar [(1, false), (2, true)] [dCall (sem_table_in) [dVar 0], dLst []] [.val (eCs cs), .no, .no, .no] c = .nx [.val (eCs cs), .val (eT (tab cs)), .own [], .no] c := by
    unfold sPar
    rw [args_2 (u := .pl (eT (tab cs))) (v := .pl (.lst [])) (call_of (ds := [eCs cs]) rfl (table_in_ok cs ok (by omega) c)) rfl]
    rfl
  refine (seq_nx p1).trans ?_
  have ln : dB bLen [dVar 0] [.val (eCs cs), .val (eT (tab cs)), .own [], .no] c = .ok (.pl (.int cs.length)) c := b_of (f := bLen) (ds := [eCs cs]) rfl (by show some (D.int ((cs.map eC).length)) = _; rw [List.length_map])
  rw [show (upTo 0 cs.length).map nat = rng ((0 : Nat) : Int) cs.length from (rng_up _ _).symm] at e
  refine (seq_nx ((sfor_of (rng1_nat (dB bLen [dVar 0]) _ c c cs.length (by omega) ln)).trans e)).trans ?_
  rfl
end K77

set_option maxRecDepth 10000
set_option autoImplicit false
set_option exponentiation.threshold 5000
set_option linter.all false
namespace K77
open DL Com
/-! ### _law_hours -/
def hst (t : Nat) (co : Co) (h : H) (i : Nat) : H := if co.k ≤ t then h.set i (some co.v) else h
theorem hst_len {t : Nat} {co : Co} (h : H) (i : Nat) : (hst t co h i).length = h.length := by
  unfold hst
  split
  · rw [List.length_set]
  · rfl
theorem hst_get {t : Nat} {co : Co} (k : co.k ≤ t) : ∀ (j lo : Nat) (h : H) (i : Nat), lo + j ≤ h.length → ((upTo lo j).foldl (hst t co) h)[i]? = if lo ≤ i ∧ i < lo + j then some (some co.v) else h[i]?
  | 0, lo, h, i, _ => by rw [upTo, List.foldl_nil, if_neg (by omega)]
  | j + 1, lo, h, i, hl => by
    rw [upTo, List.foldl_cons, hst_get k j (lo + 1) _ i (by rw [hst_len]; omega)]
    by_cases a : lo + 1 ≤ i ∧ i < lo + 1 + j
    · rw [if_pos a, if_pos (by omega)]
    · rw [if_neg a]
      unfold hst
      rw [if_pos k]
      by_cases b : lo = i
      · rw [b, List.getElem?_set_self (by omega), if_pos (by omega)]
      · rw [List.getElem?_set_ne b, if_neg (by omega)]
theorem hst_fold {t : Nat} {co : Co} {h : H} (hl : h.length = 100) (ok : co.ok) : (upTo co.f (co.l + 1 - co.f)).foldl (hst t co) h = at_ t h co := by
  have fl := ok.fl
  have ll := ok.ll
  unfold at_
  by_cases k : co.k ≤ t
  · rw [if_pos k]
    refine List.ext_getElem? fun i => ?_
    rw [hst_get k _ _ _ _ (by omega), put_get hl ok]
    by_cases a : co.f ≤ i ∧ i ≤ co.l
    · rw [if_pos a, if_pos (by omega)]
    · rw [if_neg a, if_neg (by omega)]
  · rw [if_neg k]
    generalize upTo co.f (co.l + 1 - co.f) = I
    induction I generalizing h with
    | nil => rfl
    | cons i I ih =>
      rw [List.foldl_cons, show hst t co h i = h from if_neg k]
      exact ih hl
def hBody : DS := sPut 2 (dVar 7) (dIf (tBl (dO2 D.le (dVar 3) (dVar 1))) (dVar 6) (dO2 D.ix (dVar 2) (dVar 7)))
theorem hin_ok (s0 : Slot) (t : Nat) (co : Co) (s4 s5 : Slot) : ∀ (j lo : Nat) (h : H) (s7 : Slot) (c : C), lo + j ≤ h.length → ∃ s7', sForL (tgN 7) hBody (rng (lo : Int) j) [s0, .val (nat t), .own (h.map eO), .val (nat co.k), s4, s5, .val (nat co.v), s7] c =
    .nx [s0, .val (nat t), .own (((upTo lo j).foldl (hst t co) h).map eO), .val (nat co.k), s4, s5, .val (nat co.v), s7'] c
  | 0, lo, h, s7, c, _ => ⟨s7, rfl⟩
  | j + 1, lo, h, s7, c, hl => by
    obtain ⟨s7', e⟩ := hin_ok s0 t co s4 s5 j (lo + 1) (hst t co h lo) (.val (nat lo)) c (by rw [hst_len]; omega)
    refine ⟨s7', ?_⟩
    rw [rng_next, upTo, List.foldl_cons]
    refine (for_nx (c2 := c) (env1 := [s0, .val (nat t), .own (h.map eO), .val (nat co.k), s4, s5, .val (nat co.v), .val (nat lo)]) (env2 := [s0, .val (nat t), .own ((hst t co h lo).map eO), .val (nat co.k), s4, s5, .val (nat co.v), .val (nat lo)]) rfl ?_).trans e
    have lt : lo < h.length := by omega
    have g : (h.map eO)[lo]? = some (eO h[lo]) := by rw [List.getElem?_map, List.getElem?_eq_getElem lt]; rfl
    have tt : tBl (dO2 D.le (dVar 3) (dVar 1)) [s0, .val (nat t), .own (h.map eO), .val (nat co.k), s4, s5, .val (nat co.v), .val (nat lo)] c = .ok (decide ((co.k : Int) ≤ t)) c := tb_of (le_of rfl rfl)
    by_cases k : co.k ≤ t
    · rw [decide_eq_true (by omega)] at tt
      have := put_of (i := 2) (k := dVar 7) (e := dIf (tBl (dO2 D.le (dVar 3) (dVar 1))) (dVar 6) (dO2 D.ix (dVar 2) (dVar 7))) (env := [s0, .val (nat t), .own (h.map eO), .val (nat co.k), s4, s5, .val (nat co.v), .val (nat lo)]) (c := c) (c1 := c) (c2 := c) (xs := h.map eO) (d := nat co.v) (j := lo) rfl ((ife_t tt).trans rfl) rfl (by rw [List.length_map]; exact lt)
      unfold hBody
      rw [this, show hst t co h lo = h.set lo (some co.v) from if_pos k, List.map_set]
      rfl
    · rw [decide_eq_false (by omega)] at tt
      have := put_of (i := 2) (k := dVar 7) (e := dIf (tBl (dO2 D.le (dVar 3) (dVar 1))) (dVar 6) (dO2 D.ix (dVar 2) (dVar 7))) (env := [s0, .val (nat t), .own (h.map eO), .val (nat co.k), s4, s5, .val (nat co.v), .val (nat lo)]) (c := c) (c1 := c) (c2 := c) (xs := h.map eO) (d := eO h[lo]) (j := lo) rfl ((ife_f tt).trans (o2_of (u := .ow 2 (h.map eO)) (v := .pl (nat lo)) rfl rfl (ix_lst g))) rfl (by rw [List.length_map]; exact lt)
      unfold hBody
      rw [this, show hst t co h lo = h from if_neg k, ← List.map_set, List.set_getElem_self]
      rfl
theorem hfor_ok (s0 : Slot) (t : Nat) : ∀ (cs : List Co) (h : H) (s3 s4 s5 s6 s7 : Slot) (c : C), h.length = 100 → Oks cs → ∃ s3' s4' s5' s6' s7', sForL (tgT [tgN 3, tgN 4, tgN 5, tgN 6]) (sFor (iRng2 (dVar 4) (dO2 D.addA (dVar 5) (dC (.int 1)))) (tgN 7) hBody) (cs.map eC) [s0, .val (nat t), .own (h.map eO), s3, s4, s5, s6, s7] c =
    .nx [s0, .val (nat t), .own ((cs.foldl (at_ t) h).map eO), s3', s4', s5', s6', s7'] c
  | [], h, s3, s4, s5, s6, s7, c, _, _ => ⟨s3, s4, s5, s6, s7, rfl⟩
  | co :: cs, h, s3, s4, s5, s6, s7, c, hl, ok => by
    have oc := ok co (List.mem_cons_self ..)
    have fl := oc.fl
    have ll := oc.ll
    obtain ⟨s7a, e1⟩ := hin_ok s0 t co (.val (nat co.f)) (.val (nat co.l)) (co.l + 1 - co.f) co.f h s7 c (by omega)
    rw [hst_fold hl oc] at e1
    have hl2 : (at_ t h co).length = 100 := by
      unfold at_
      split
      · exact put_len hl oc
      · exact hl
    obtain ⟨s3', s4', s5', s6', s7', e2⟩ := hfor_ok s0 t cs (at_ t h co) (.val (nat co.k)) (.val (nat co.f)) (.val (nat co.l)) (.val (nat co.v)) s7a c hl2 fun x hx => ok x (List.mem_cons_of_mem _ hx)
    refine ⟨s3', s4', s5', s6', s7', ?_⟩
    rw [List.map_cons]
    refine (for_nx (c2 := c) (env1 := [s0, .val (nat t), .own (h.map eO), .val (nat co.k), .val (nat co.f), .val (nat co.l), .val (nat co.v), s7]) rfl ?_).trans e2
    exact (sfor_of (rng2_nat (dVar 4) (dO2 D.addA (dVar 5) (dC (.int 1))) _ c c c co.f (co.l + 1) (by omega) (by omega) rfl (add1 rfl))).trans e1
theorem blank_own (c : C) (s0 s1 : Slot) : sOwn 2 (dO2 D.rep (dLst [dC .non]) (dC (.int 100))) [s0, s1, .no, .no, .no, .no, .no, .no] c = .nx [s0, s1, .own (blank.map eO), .no, .no, .no, .no, .no] c := by
  refine own_of (xs := blank.map eO) (o2_of (u := .pl (.lst [.non])) (v := .pl (.int 100)) rfl rfl ?_)
  show D.rep (.lst [.non]) (.int 100) = _
  rw [D.rep, if_pos ⟨by decide, by decide, by show 1 * 100 ≤ sizeL; decide⟩]
  rfl
theorem hours_ok {cs : List Co} (ok : Oks cs) (t : Nat) (c : C) : sem__law_hours [eCs cs, nat t] c = .ok (eH (hoursAt cs t)) c := by
  obtain ⟨s3, s4, s5, s6, s7, e⟩ := hfor_ok (.val (eCs cs)) t cs blank .no .no .no .no .no c blank_len ok
  refine run_rt (env := [.val (eCs cs), .val (nat t), .no, .no, .no, .no, .no, .no]) rfl ?_
  refine (seq_nx (blank_own c _ _)).trans ?_
  refine (seq_nx ((sfor_of (iseq_of (d := eCs cs) rfl rfl)).trans e)).trans ?_
  rfl
/-! ### _law_stretches -/
theorem eq_H (x y : H) : D.eq (eH x) (eH y) = some (.bl (decide (x = y))) := by
  unfold D.eq
  rw [if_pos (by rw [shal_H 59, shal_H 59]; rfl), eqv_H]
theorem cnt_run (v : Nat) : ∀ (t : H) (lo : Nat), ((upTo lo t.length).filter fun m => decide (t.take (m + 1 - lo) = List.replicate (m + 1 - lo) (some v))).length = run v t
  | [], lo => rfl
  | x :: t, lo => by
    rw [List.length_cons, upTo, List.filter_cons, run]
    have e0 : decide ((x :: t).take (lo + 1 - lo) = List.replicate (lo + 1 - lo) (some v)) = decide (x = some v) := by
      rw [show lo + 1 - lo = 1 by omega]
      simp
    rw [e0]
    have ih := cnt_run v t (lo + 1)
    by_cases h : x = some v
    · rw [decide_eq_true h, if_pos rfl, if_pos h, List.length_cons, ← ih]
      congr 2
      refine List.filter_congr fun m hm => ?_
      have := upTo_mem hm
      rw [show m + 1 - lo = (m + 1 - (lo + 1)) + 1 by omega, List.take_succ_cons, List.replicate_succ, h]
      simp
    · rw [decide_eq_false h, if_neg h]
      rw [if_neg (by decide), List.filter_eq_nil_iff.mpr ?_]
      · rfl
      · intro m hm
        have := upTo_mem hm
        rw [show m + 1 - lo = (m + 1 - (lo + 1)) + 1 by omega, List.take_succ_cons, List.replicate_succ]
        simp [h]
def lComp : DE := dComp (iRng2 (dVar 2) (dC (.int 100))) (tgN 5) (tBl (dO2 D.eq (dSl D.slA (dVar 0) (some (dVar 2)) (some (dO2 D.addA (dVar 5) (dC (.int 1))))) (dO2 D.mulA (dLst [dVar 3]) (dO2 D.subA (dO2 D.addA (dVar 5) (dC (.int 1))) (dVar 2))))) (dC (.int 1)) [5]
theorem lComp_ok {pre t : H} {v : Nat} (hl : (pre ++ some v :: t).length = 100) (s1 s4 s5 : Slot) (c : C) : dB bLen [lComp] [.val (eH (pre ++ some v :: t)), s1, .val (nat pre.length), .val (nat v), s4, s5] c = .ok (.pl (nat (run v t + 1))) c := by
  have hp : pre.length + (t.length + 1) = 100 := by rw [← hl]; simp
  have lp := loop_gen (α := Nat) nat (fun _ => D.int 1) (fun m => decide ((some v :: t).take (m + 1 - pre.length) = List.replicate (m + 1 - pre.length) (some v))) (tgN 5)
    (tBl (dO2 D.eq (dSl D.slA (dVar 0) (some (dVar 2)) (some (dO2 D.addA (dVar 5) (dC (.int 1))))) (dO2 D.mulA (dLst [dVar 3]) (dO2 D.subA (dO2 D.addA (dVar 5) (dC (.int 1))) (dVar 2))))) (dC (.int 1))
    [.val (eH (pre ++ some v :: t)), s1, .val (nat pre.length), .val (nat v), s4, .no] c (upTo pre.length (t.length + 1)) (fun m hm => by
      have hm := upTo_mem hm
      refine ⟨[.val (eH (pre ++ some v :: t)), s1, .val (nat pre.length), .val (nat v), s4, .val (nat m)], rfl, ?_, fun _ => rfl⟩
      have p1 : dO2 D.addA (dVar 5) (dC (.int 1)) [.val (eH (pre ++ some v :: t)), s1, .val (nat pre.length), .val (nat v), s4, .val (nat m)] c = .ok (.pl (nat (m + 1))) c := add1 rfl
      refine tb_of (o2_of (c1 := c) (u := .pl (eH ((some v :: t).take (m + 1 - pre.length)))) (v := .pl (eH (List.replicate (m + 1 - pre.length) (some v)))) ?_ ?_ (eq_H _ _))
      · refine slice_of (x := eH (pre ++ some v :: t)) (i := some (pre.length : Int)) (j := some ((m + 1 : Nat) : Int)) rfl rfl (part_of p1) (slA_lst.trans ?_)
        rw [cut_mid, ← List.map_drop, ← List.map_take, List.drop_left']
        · rfl
        · rfl
      · refine o2_of (u := .pl (.lst [nat v])) (v := .pl (nat (m + 1 - pre.length))) rfl (o2_of (u := .pl (nat (m + 1))) (v := .pl (nat pre.length)) p1 rfl (sub_nat (by omega))) ?_
        show D.mulA (.lst [nat v]) (.int ((m + 1 - pre.length : Nat) : Int)) = _
        rw [rep_one (by omega)]
        show _ = some (D.lst ((List.replicate (m + 1 - pre.length) (some v)).map eO))
        rw [List.map_replicate]
        rfl)
  have e := cnt_run v (some v :: t) pre.length
  rw [List.length_cons] at e
  have er : run v (some v :: t) = run v t + 1 := by rw [run, if_pos rfl]
  rw [show (upTo pre.length (t.length + 1)).map nat = rng ((pre.length : Nat) : Int) (t.length + 1) from (rng_up _ _).symm] at lp
  have rg : iRng2 (dVar 2) (dC (.int 100)) [.val (eH (pre ++ some v :: t)), s1, .val (nat pre.length), .val (nat v), s4, s5] c = .ok (rng ((pre.length : Nat) : Int) (t.length + 1)) c := by
    have := rng2_nat (dVar 2) (dC (.int 100)) [.val (eH (pre ++ some v :: t)), s1, .val (nat pre.length), .val (nat v), s4, s5] c c c pre.length 100 (by omega) (by omega) rfl rfl
    rw [show 100 - pre.length = t.length + 1 by omega] at this
    exact this
  refine b_of (f := bLen) (ds := [.lst (((upTo pre.length (t.length + 1)).filter fun m => decide ((some v :: t).take (m + 1 - pre.length) = List.replicate (m + 1 - pre.length) (some v))).map fun _ => D.int 1)]) (args_1 (comp_of rg lp)) ?_
  show some (D.int (List.length (List.map _ _))) = _
  rw [List.length_map, e, er]
def prevO (pre : H) : Option Nat := match pre.getLast? with
  | none => none
  | some x => x
theorem prevO_snoc (pre : H) (x : Option Nat) : prevO (pre ++ [x]) = x := by
  unfold prevO
  simp
def lTest : DT := tAnd (tBl (dO2 D.notN (dVar 3) (dC .non))) (tOr (tBl (dO2 D.eq (dVar 2) (dC (.int 0)))) (tBl (dO2 D.ne (dO2 D.ix (dVar 0) (dO2 D.subA (dVar 2) (dC (.int 1)))) (dVar 3))))
def lThen : DS := sSeq (sSet 4 (dB bLen [lComp])) (sApp 1 (dTup [dVar 2, dO2 D.subA (dO2 D.addA (dVar 2) (dVar 4)) (dC (.int 1)), dVar 3]))
theorem lTest_ok {pre t : H} {x : Option Nat} (s1 s4 s5 : Slot) (c : C) : lTest [.val (eH (pre ++ x :: t)), s1, .val (nat pre.length), .val (eO x), s4, s5] c = .ok (match x with | none => false | some v => !decide (prevO pre = some v)) c := by
  cases x with
  | none => exact tand_of (j := false) (k := false) (tb_of (o2_of (u := .pl .non) (v := .pl .non) rfl rfl rfl)) (fun h => by cases h) fun _ => rfl
  | some v =>
    have t1 : tBl (dO2 D.notN (dVar 3) (dC .non)) [.val (eH (pre ++ some v :: t)), s1, .val (nat pre.length), .val (eO (some v)), s4, s5] c = .ok true c := tb_of (o2_of (u := .pl (nat v)) (v := .pl .non) rfl rfl rfl)
    have t2 : tBl (dO2 D.eq (dVar 2) (dC (.int 0))) [.val (eH (pre ++ some v :: t)), s1, .val (nat pre.length), .val (eO (some v)), s4, s5] c = .ok (decide (pre.length = 0)) c := tb_of (o2_of (u := .pl (nat pre.length)) (v := .pl (nat 0)) rfl rfl (eq_natn _ _))
    rcases list_end pre with rfl | ⟨p0, y, rfl⟩
    · exact tand_of (j := true) (k := true) t1 (fun _ => tor_of (j := true) (k := true) t2 (fun h => by cases h) fun _ => rfl) fun h => by cases h
    · rw [prevO_snoc]
      have lp : (p0 ++ [y]).length = p0.length + 1 := by simp
      have n0 : decide ((p0 ++ [y]).length = 0) = false := decide_eq_false (by omega)
      rw [n0] at t2
      refine tand_of (j := true) t1 (fun _ => tor_of (j := false) t2 (fun _ => ?_) fun h => by cases h) fun h => by cases h
      refine tb_of (o2_of (u := .pl (eO y)) (v := .pl (eO (some v))) (o2_of (u := .pl (eH (p0 ++ [y] ++ some v :: t))) (v := .pl (nat p0.length)) rfl (o2_of (u := .pl (nat (p0 ++ [y]).length)) (v := .pl (nat 1)) rfl rfl ((sub_nat (by omega)).trans (by rw [lp]; rfl))) (ix_lst ?_)) rfl (ne_O y (some v)))
      rw [List.getElem?_map]
      simp
theorem lfor_ok : ∀ (t pre : H) (F : List St) (s2 s3 s4 s5 : Slot) (c : C), (pre ++ t).length = 100 → F.length ≤ pre.length → ∃ s2' s3' s4' s5', sForL (tgT [tgN 2, tgN 3]) (sIf lTest lThen (sNil)) (enumD (pre.length : Nat) (t.map eO)) [.val (eH (pre ++ t)), .own (F.map eS), s2, s3, s4, s5] c =
    .nx [.val (eH (pre ++ t)), .own ((F ++ str pre.length (prevO pre) t).map eS), s2', s3', s4', s5'] c
  | [], pre, F, s2, s3, s4, s5, c, _, _ => ⟨s2, s3, s4, s5, by rw [str, List.append_nil, List.append_nil]; rfl⟩
  | x :: t, pre, F, s2, s3, s4, s5, c, hl, hF => by
    have ea : pre ++ x :: t = (pre ++ [x]) ++ t := by simp
    have lp : (pre ++ [x]).length = pre.length + 1 := by simp
    have hp : pre.length ≤ 100 := by rw [List.length_append] at hl; omega
    have tt := lTest_ok (pre := pre) (t := t) (x := x) (.own (F.map eS)) s4 s5 c
    rw [List.map_cons, enumD]
    have key : ∃ G s4a s5a, sIf lTest lThen (sNil) [.val (eH (pre ++ x :: t)), .own (F.map eS), .val (nat pre.length), .val (eO x), s4, s5] c = .nx [.val (eH (pre ++ x :: t)), .own (G.map eS), .val (nat pre.length), .val (eO x), s4a, s5a] c ∧ G.length ≤ F.length + 1 ∧
        G ++ str (pre ++ [x]).length (prevO (pre ++ [x])) t = F ++ str pre.length (prevO pre) (x :: t) := by
      cases x with
      | none =>
        refine ⟨F, s4, s5, if_skip tt, Nat.le_succ _, ?_⟩
        rw [lp, prevO_snoc, str]
      | some v =>
        by_cases h : prevO pre = some v
        · refine ⟨F, s4, s5, if_skip (tt.trans (by dsimp only; rw [decide_eq_true h]; rfl)), Nat.le_succ _, ?_⟩
          rw [lp, prevO_snoc, str, if_pos h]
        · refine ⟨F ++ [(pre.length, pre.length + run v t, v)], .val (nat (run v t + 1)), s5, ?_, by simp, ?_⟩
          · refine (if_t (tt.trans (by dsimp only; rw [decide_eq_false h]; rfl))).trans ?_
            refine (seq_nx (env1 := [.val (eH (pre ++ some v :: t)), .own (F.map eS), .val (nat pre.length), .val (nat v), .val (nat (run v t + 1)), s5]) (set_of (lComp_ok hl ..))).trans ?_
            have := app_of (env := [.val (eH (pre ++ some v :: t)), .own (F.map eS), .val (nat pre.length), .val (nat v), .val (nat (run v t + 1)), s5]) (i := 1) (xs := F.map eS) (d := eS (pre.length, pre.length + run v t, v)) (e := dTup [dVar 2, dO2 D.subA (dO2 D.addA (dVar 2) (dVar 4)) (dC (.int 1)), dVar 3]) (c := c) (c1 := c) rfl
              (tup_of (ds := [nat pre.length, nat (pre.length + run v t), nat v]) (args_3 rfl (o2_of (u := .pl (.int (pre.length + (run v t + 1 : Nat)))) (v := .pl (.int 1)) (o2_of (u := .pl (nat pre.length)) (v := .pl (nat (run v t + 1))) rfl rfl addA_int) rfl (by show D.subA (.int _) (.int 1) = _; rw [subA_int]; congr 2; omega)) rfl)) (by rw [List.length_map]; exact Nat.lt_of_le_of_lt (show F.length ≤ 100 by omega) (by decide))
            rw [this, List.map_append]
            rfl
          · rw [lp, prevO_snoc, str, if_neg h, List.append_assoc]
            rfl
    obtain ⟨G, s4a, s5a, e1, hG, eG⟩ := key
    obtain ⟨s2', s3', s4', s5', e2⟩ := lfor_ok t (pre ++ [x]) G (.val (nat pre.length)) (.val (eO x)) s4a s5a c (by rw [← ea]; exact hl) (by rw [lp]; omega)
    refine ⟨s2', s3', s4', s5', ?_⟩
    refine (for_nx (c2 := c) (env1 := [.val (eH (pre ++ x :: t)), .own (F.map eS), .val (nat pre.length), .val (eO x), s4, s5]) rfl e1).trans ?_
    rw [ea, show ((pre.length : Int) + 1) = (((pre ++ [x]).length : Nat) : Int) by rw [lp]; rfl, e2, eG]
theorem lstr_ok (h : H) (hl : h.length = 100) (c : C) : sem__law_stretches [eH h] c = .ok (eF (strH h)) c := by
  obtain ⟨s2, s3, s4, s5, e⟩ := lfor_ok h [] [] .no .no .no .no c hl (Nat.le_refl _)
  refine run_rt (env := [.val (eH h), .no, .no, .no, .no, .no]) rfl ?_
  refine (seq_nx (env1 := [.val (eH h), .own [], .no, .no, .no, .no]) (own_of (xs := []) (lst_of (ds := []) rfl))).trans ?_
  refine (seq_nx (env1 := [.val (eH h), .own ((strH h).map eS), s2, s3, s4, s5]) ((sfor_of (ienum_of (d := eH h) rfl rfl)).trans e)).trans ?_
  rfl
/-! ### _law_table -/
def ltBody : DS := sSeq (sSet 4 (dCall (sem__law_hours) [dVar 0, dVar 3])) (sSeq (sIf (tBl (dO2 D.ne (dVar 4) (dVar 2))) (sApp 1 (dTup [dVar 3, dCall (sem__law_stretches) [dVar 4]])) (sNil)) (sSet 2 (dVar 4)))
theorem ltfor_ok {cs : List Co} (ok : Oks cs) (s5 : Slot) : ∀ (ts : List Nat) (b : H) (F : List Row) (s3 s4 : Slot) (c : C), F.length + ts.length ≤ 1000 → ∃ s2' s3' s4', sForL (tgN 3) ltBody (ts.map nat) [.val (eCs cs), .own (F.map eR), .val (eH b), s3, s4, s5] c =
    .nx [.val (eCs cs), .own ((F ++ tabL cs b ts).map eR), s2', s3', s4', s5] c
  | [], b, F, s3, s4, c, _ => ⟨_, s3, s4, by rw [tabL, List.append_nil]; rfl⟩
  | t :: ts, b, F, s3, s4, c, hl => by
    rw [List.length_cons] at hl
    have hh := hours_ok ok t c
    have hlen := hours_len ok t
    have st : ∀ G : List Row, (if hoursAt cs t = b then F else F ++ [(t, strH (hoursAt cs t))]) = G → ltBody [.val (eCs cs), .own (F.map eR), .val (eH b), .val (nat t), s4, s5] c = .nx [.val (eCs cs), .own (G.map eR), .val (eH (hoursAt cs t)), .val (nat t), .val (eH (hoursAt cs t)), s5] c := fun G eG => by
      refine (seq_nx (env1 := [.val (eCs cs), .own (F.map eR), .val (eH b), .val (nat t), .val (eH (hoursAt cs t)), s5]) (set_of (call_of (ds := [eCs cs, nat t]) rfl hh))).trans ?_
      have tt : tBl (dO2 D.ne (dVar 4) (dVar 2)) [.val (eCs cs), .own (F.map eR), .val (eH b), .val (nat t), .val (eH (hoursAt cs t)), s5] c = .ok (!decide (hoursAt cs t = b)) c := tb_of (o2_of (u := .pl (eH (hoursAt cs t))) (v := .pl (eH b)) rfl rfl (ne_H _ _))
      refine (seq_nx (c1 := c) (env1 := [.val (eCs cs), .own (G.map eR), .val (eH b), .val (nat t), .val (eH (hoursAt cs t)), s5]) ?_).trans (set_of rfl)
      by_cases h : hoursAt cs t = b
      · rw [if_pos h] at eG
        rw [decide_eq_true h] at tt
        rw [← eG]
        exact if_skip tt
      · rw [if_neg h] at eG
        rw [decide_eq_false h] at tt
        refine (if_t tt).trans ?_
        have := app_of (env := [.val (eCs cs), .own (F.map eR), .val (eH b), .val (nat t), .val (eH (hoursAt cs t)), s5]) (i := 1) (xs := F.map eR) (d := eR (t, strH (hoursAt cs t))) (e := dTup [dVar 3, dCall (sem__law_stretches) [dVar 4]]) (c := c) (c1 := c) rfl
          (tup_of (ds := [nat t, eF (strH (hoursAt cs t))]) (args_2 rfl (call_of (ds := [eH (hoursAt cs t)]) rfl (lstr_ok _ hlen c)))) (by rw [List.length_map]; exact Nat.lt_of_le_of_lt (show F.length ≤ 1000 by omega) (by decide))
        rw [this, ← eG, List.map_append]
        rfl
    have e1 := st _ rfl
    obtain ⟨s2', s3', s4', e2⟩ := ltfor_ok ok s5 ts (hoursAt cs t) (if hoursAt cs t = b then F else F ++ [(t, strH (hoursAt cs t))]) (.val (nat t)) (.val (eH (hoursAt cs t))) c (by by_cases h : hoursAt cs t = b; (rw [if_pos h]; omega); (rw [if_neg h, List.length_append, List.length_singleton]; omega))
    refine ⟨s2', s3', s4', ?_⟩
    rw [List.map_cons]
    refine (for_nx (c2 := c) (env1 := [.val (eCs cs), .own (F.map eR), .val (eH b), .val (nat t), s4, s5]) rfl e1).trans ?_
    rw [e2, tabL]
    by_cases h : hoursAt cs t = b
    · rw [if_pos h, if_pos h]
    · rw [if_neg h, if_neg h, List.append_assoc]
      rfl
theorem ltable_ok {cs : List Co} (ok : Oks cs) (s : Srt cs) (hn : cs.length ≤ 60) (c : C) : sem__law_table [eCs cs] c = .ok (eT (tab cs)) c := by
  obtain ⟨s2, s3, s4, e⟩ := ltfor_ok ok .no (tms cs) blank [] .no .no c (by have := tms_le cs; simp; omega)
  rw [List.nil_append, tab_law ok s] at e
  refine run_rt (env := [.val (eCs cs), .no, .no, .no, .no, .no]) rfl ?_
  have p1 : sPar [(1, true), (2, false)] [dLst [], dO2 D.mulA (dLst [dC .non]) (dC (.int 100))] [.val (eCs cs), .no, .no, .no, .no, .no] c = .nx [.val (eCs cs), .own [], .val (eH blank), .no, .no, .no] c := by
    unfold sPar
    rw [args_2 (u := .pl (.lst [])) (v := .pl (eH blank)) rfl (blank_dat (dC (.int 100)) _ c rfl)]
    rfl
  refine (seq_nx p1).trans ?_
  have lp := loop_all (α := Co) eC (fun (co : Co) => nat co.k) (tgN 5) (dO2 D.ix (dVar 5) (dC (.int 0))) [.val (eCs cs), .own [], .val (eH blank), .no, .no, .no] c cs fun co _ =>
    ⟨[.val (eCs cs), .own [], .val (eH blank), .no, .no, .val (eC co)], rfl, rfl⟩
  have ss : D.sortSet (.lst (cs.map fun (co : Co) => nat co.k)) = some (.lst ((tms cs).map nat)) := by
    have ei : cs.map (fun (co : Co) => nat co.k) = (cs.map fun co => (co.k : Int)).map D.int := by rw [List.map_map]; rfl
    rw [D.sortSet, ei, ints_map, Option.bind_some, if_pos (by rw [List.length_map]; omega), times_eq s, List.map_map]
    rfl
  have so : iSeq true (dO1 D.sortSet (dComp (iSeq false (dVar 0)) (tgN 5) (tYes) (dO2 D.ix (dVar 5) (dC (.int 0))) [5])) [.val (eCs cs), .own [], .val (eH blank), .no, .no, .no] c = .ok ((tms cs).map nat) c :=
    iseq_of (d := .lst ((tms cs).map nat)) (o1_of (u := .pl (.lst (cs.map fun (co : Co) => nat co.k))) (comp_of (iseq_of (d := eCs cs) rfl rfl) lp) ss) rfl
  refine (seq_nx (env1 := [.val (eCs cs), .own ((tab cs).map eR), s2, s3, s4, .no]) ((sfor_of so).trans e)).trans ?_
  rfl
end K77

set_option maxRecDepth 10000
set_option autoImplicit false
set_option exponentiation.threshold 5000
set_option linter.all false
namespace K77
open DL Com
theorem some_nat (c : C) (xs : List Nat) (h0 : 0 < xs.length) (h1 : xs.length ≤ 1000) : ∃ (n : Nat) (c' : C), n ∈ xs ∧ sem__law_some [.cup, .lst (xs.map nat)] c = .ok (nat n) c' := by
  obtain ⟨d, c', m, e⟩ := some_k c (xs.map nat) (by rw [List.length_map]; exact h0) (by rw [List.length_map]; exact h1)
  obtain ⟨n, hn, rfl⟩ := List.mem_map.mp m
  exact ⟨n, c', hn, e⟩
theorem min_nat (a b : Nat) : bMin2 [nat a, nat b] = some (nat (min a b)) := by
  show some (D.int (if (b : Int) < a then (b : Int) else a)) = _
  congr 2
  by_cases h : b < a
  · rw [if_pos (by omega), Nat.min_eq_right (by omega)]
  · rw [if_neg (by omega), Nat.min_eq_left (by omega)]
theorem max_pred (k : Nat) : bMax2 [.int 0, .int ((k : Int) - 1)] = some (nat (k - 1)) := by
  show some (D.int (if (k : Int) - 1 > 0 then (k : Int) - 1 else 0)) = _
  congr 2
  by_cases h : (k : Int) - 1 > 0
  · rw [if_pos h]; omega
  · rw [if_neg h]; omega
/-! ### _law_corrections -/
structure Inv (cs : List Co) (k : Nat) : Prop where
  ok : Oks cs
  s : Srt cs
  le : ∀ c ∈ cs, c.k ≤ k
  kk : k ≤ 1000
def cBody : DS := sSeq (sSet 5 (dCall (sem__law_some) [dVar 0, dLst [dC (.int 0), dC (.int 3), dC (.int 5), dC (.int 90), dCall (sem__law_roll) [dVar 0, dC (.int 100)]]])) (
  sSeq (sSet 6 (dB bMin2 [dC (.int 99), dO2 D.addA (dVar 5) (dCall (sem__law_some) [dVar 0, dLst [dC (.int 0), dC (.int 1), dC (.int 2), dC (.int 9), dC (.int 99)]])])) (
  sSeq (sSet 2 (dO2 D.addA (dVar 2) (dTup [dTup [dVar 3, dVar 5, dVar 6, dCall (sem__law_some) [dVar 0, dLst [dC (.int 0), dC (.int 0), dC (.int 1), dC (.int 9)]]]]))) (
  sSet 3 (dB bMin2 [dC (.int 1000), dO2 D.addA (dVar 3) (dCall (sem__law_some) [dVar 0, dLst [dC (.int 0), dC (.int 0), dC (.int 1), dC (.int 7), dC (.int 300)]])]))))
theorem addN (a b : Nat) : D.addA (nat a) (nat b) = some (nat (a + b)) := by
  show D.addA (.int a) (.int b) = _
  rw [addA_int]
  rfl
theorem cstep_ok {cs : List Co} {k : Nat} (iv : Inv cs k) (hn : cs.length ≤ 100) (x1 s4 s5 s6 : Slot) (c : C) : ∃ cs' k' s5' s6' c', cBody [.val .cup, x1, .val (eCs cs), .val (nat k), s4, s5, s6] c = .nx [.val .cup, x1, .val (eCs cs'), .val (nat k'), s4, s5', s6'] c' ∧ Inv cs' k' ∧ cs'.length = cs.length + 1 := by
  obtain ⟨r, c1, e1, hr⟩ := roll_k c 100 (by decide) (by decide)
  obtain ⟨f, c2, mf, e2⟩ := some_nat c1 [0, 3, 5, 90, r] (by simp) (by simp)
  have hf : f ≤ 99 := by
    simp only [List.mem_cons, List.not_mem_nil, or_false] at mf
    omega
  obtain ⟨d, c3, md, e3⟩ := some_nat c2 [0, 1, 2, 9, 99] (by simp) (by simp)
  obtain ⟨v, c4, mv, e4⟩ := some_nat c3 [0, 0, 1, 9] (by simp) (by simp)
  have hv : v ≤ 9 := by
    simp only [List.mem_cons, List.not_mem_nil, or_false] at mv
    omega
  obtain ⟨w, c5, mw, e5⟩ := some_nat c4 [0, 0, 1, 7, 300] (by simp) (by simp)
  refine ⟨cs ++ [⟨k, f, min 99 (f + d), v⟩], min 1000 (k + w), .val (nat f), .val (nat (min 99 (f + d))), c5, ?_, ⟨?_, ?_, ?_, ?_⟩, by simp⟩
  · refine (seq_nx (env1 := [.val .cup, x1, .val (eCs cs), .val (nat k), s4, .val (nat f), s6]) (set_of (call_of (ds := [.cup, .lst ([0, 3, 5, 90, r].map nat)]) (args_2 rfl (lst_of (ds := [nat 0, nat 3, nat 5, nat 90, nat r]) (args_cons rfl (args_cons rfl (args_cons rfl (args_cons rfl (args_1 (call_of (ds := [.cup, .int 100]) rfl e1)))))))) e2))).trans ?_
    refine (seq_nx (env1 := [.val .cup, x1, .val (eCs cs), .val (nat k), s4, .val (nat f), .val (nat (min 99 (f + d)))]) (set_of (b_of (f := bMin2) (ds := [nat 99, nat (f + d)]) (args_2 rfl (o2_of (u := .pl (nat f)) (v := .pl (nat d)) rfl (call_of (ds := [.cup, .lst ([0, 1, 2, 9, 99].map nat)]) rfl e3) (addN f d))) (min_nat _ _)))).trans ?_
    refine (seq_nx (env1 := [.val .cup, x1, .val (eCs (cs ++ [⟨k, f, min 99 (f + d), v⟩])), .val (nat k), s4, .val (nat f), .val (nat (min 99 (f + d)))]) (set_of (o2_of (u := .pl (eCs cs)) (v := .pl (.tup [eC ⟨k, f, min 99 (f + d), v⟩])) rfl (tup_of (ds := [eC ⟨k, f, min 99 (f + d), v⟩]) (args_1 (tup_of (ds := [nat k, nat f, nat (min 99 (f + d)), nat v]) (args_cons rfl (args_cons rfl (args_2 rfl (call_of (ds := [.cup, .lst ([0, 0, 1, 9].map nat)]) rfl e4))))))) ?_))).trans ?_
    · show D.addA (.tup _) (.tup _) = _
      rw [cat_tups (by rw [List.length_map]; simp; omega)]
      show _ = some (D.tup ((cs ++ [_]).map eC))
      rw [List.map_append]
      rfl
    · exact set_of (b_of (f := bMin2) (ds := [nat 1000, nat (k + w)]) (args_2 rfl (o2_of (u := .pl (nat k)) (v := .pl (nat w)) rfl (call_of (ds := [.cup, .lst ([0, 0, 1, 7, 300].map nat)]) rfl e5) (addN k w))) (min_nat _ _))
  · intro x hx
    rcases List.mem_append.mp hx with hx | hx
    · exact iv.ok x hx
    · rw [List.mem_singleton.mp hx]
      exact ⟨iv.kk, by show f ≤ min 99 (f + d); omega, by show min 99 (f + d) ≤ 99; omega, hv⟩
  · refine List.pairwise_append.mpr ⟨iv.s, by simp, fun a ha b hb => ?_⟩
    rw [List.mem_singleton.mp hb]
    exact iv.le a ha
  · intro x hx
    have kk := iv.kk
    rcases List.mem_append.mp hx with hx | hx
    · have := iv.le x hx; omega
    · rw [List.mem_singleton.mp hx]; show k ≤ _; omega
  · omega
theorem cfor_ok (x1 : Slot) : ∀ (xs : List D) (cs : List Co) (k : Nat) (s4 s5 s6 : Slot) (c : C), Inv cs k → cs.length + xs.length ≤ 100 → ∃ cs' k' s4' s5' s6' c', sForL (tgN 4) cBody xs [.val .cup, x1, .val (eCs cs), .val (nat k), s4, s5, s6] c = .nx [.val .cup, x1, .val (eCs cs'), .val (nat k'), s4', s5', s6'] c' ∧ Inv cs' k' ∧ cs'.length = cs.length + xs.length
  | [], cs, k, s4, s5, s6, c, iv, _ => ⟨cs, k, s4, s5, s6, c, rfl, iv, rfl⟩
  | x :: xs, cs, k, s4, s5, s6, c, iv, hl => by
    rw [List.length_cons] at hl
    obtain ⟨cs1, k1, s5a, s6a, c1, e1, iv1, l1⟩ := cstep_ok iv (by omega) x1 (.val x) s5 s6 c
    obtain ⟨cs', k', s4', s5', s6', c', e2, iv2, l2⟩ := cfor_ok x1 xs cs1 k1 (.val x) s5a s6a c1 iv1 (by omega)
    exact ⟨cs', k', s4', s5', s6', c', (for_nx (env1 := [.val .cup, x1, .val (eCs cs), .val (nat k), .val x, s5, s6]) rfl e1).trans e2, iv2, by rw [l2, l1, List.length_cons]; omega⟩
theorem rng_length : ∀ (n : Nat) (lo : Int), (rng lo n).length = n
  | 0, _ => rfl
  | n + 1, lo => by rw [rng, List.length_cons, rng_length n]
theorem corrections_ok {m : Nat} (hm : m ≤ 60) (c : C) : ∃ cs c', sem__law_corrections [.cup, nat m] c = .ok (eCs cs) c' ∧ Oks cs ∧ Srt cs ∧ cs.length ≤ m := by
  obtain ⟨k, c1, mk, e1⟩ := some_nat c [0, 0, 5] (by simp) (by simp)
  have hk : k ≤ 5 := by
    simp only [List.mem_cons, List.not_mem_nil, or_false] at mk
    omega
  obtain ⟨n, c2, e2, hn⟩ := roll_k c1 (m + 1) (by omega) (by omega)
  obtain ⟨cs, k', s4, s5, s6, c3, e3, iv, hl⟩ := cfor_ok (.val (nat m)) (rng ((0 : Nat) : Int) n) [] k .no .no .no c2 ⟨fun _ h => (nomatch h), .nil, fun _ h => (nomatch h), by omega⟩ (by rw [rng_length]; simp; omega)
  rw [rng_length] at hl
  refine ⟨cs, c3, ?_, iv.ok, iv.s, by rw [hl]; simp; omega⟩
  refine run_rt (env := [.val .cup, .val (nat m), .no, .no, .no, .no, .no]) rfl ?_
  have p1 : sPar [(2, false), (3, false)] [dTup [], dCall (sem__law_some) [dVar 0, dLst [dC (.int 0), dC (.int 0), dC (.int 5)]]] [.val .cup, .val (nat m), .no, .no, .no, .no, .no] c = .nx [.val .cup, .val (nat m), .val (eCs []), .val (nat k), .no, .no, .no] c1 :=
    par2_of (x := eCs []) (y := nat k) rfl (call_of (ds := [.cup, .lst ([0, 0, 5].map nat)]) rfl e1)
  refine (seq_nx p1).trans ?_
  have rg : iRng1 (dCall (sem__law_roll) [dVar 0, dO2 D.addA (dVar 1) (dC (.int 1))]) [.val .cup, .val (nat m), .val (eCs []), .val (nat k), .no, .no, .no] c1 = .ok (rng ((0 : Nat) : Int) n) c2 :=
    rng1_nat _ _ c1 c2 n (by omega) (call_of (ds := [.cup, nat (m + 1)]) (args_2 rfl (add1 rfl)) e2)
  refine (seq_nx ((sfor_of rg).trans e3)).trans ?_
  exact ret_of (v := .pl (eCs cs)) rfl
/-! ### _law_right -/
def r1 : DS := sSet 3 (dCall (sem__law_table) [dVar 1])
def r2 : DS := sIf (tNot (tE (dCall (sem__law_like 40) [dLst [dCall (sem_are_corrections) [dVar 1], dCall (sem_known_table) [dVar 1]], dLst [dC (.bl true), dVar 3]]))) (sRet (dC (.bl false))) (sNil)
def rTimes : DE := dO2 D.addA (dO2 D.addA (dLst [dC (.int 0), dC (.int 1000), dCall (sem__law_roll) [dVar 0, dC (.int 1001)]]) (dComp (iSeq false (dVar 1)) (tgN 8) (tYes) (dO2 D.ix (dVar 8) (dC (.int 0))) [8])) (dComp (iSeq false (dVar 1)) (tgN 8) (tYes) (dB bMax2 [dC (.int 0), dO2 D.subA (dO2 D.ix (dVar 8) (dC (.int 0))) (dC (.int 1))]) [8])
def rHours : DE := dO2 D.addA (dO2 D.addA (dLst [dC (.int 0), dC (.int 99), dCall (sem__law_roll) [dVar 0, dC (.int 100)]]) (dComp (iSeq false (dVar 1)) (tgN 8) (tYes) (dO2 D.ix (dVar 8) (dC (.int 1))) [8])) (dComp (iSeq false (dVar 1)) (tgN 8) (tYes) (dO2 D.ix (dVar 8) (dC (.int 2))) [8])
def r3b : DS := sSeq (sSet 5 (dCall (sem__law_some) [dVar 0, rTimes])) (sSeq (sSet 6 (dCall (sem__law_some) [dVar 0, rHours])) (sIf (tNot (tE (dCall (sem__law_like 40) [dCall (sem_known_at) [dVar 1, dVar 5, dVar 6], dO2 D.ix (dCall (sem__law_hours) [dVar 1, dVar 5]) (dVar 6)]))) (sRet (dC (.bl false))) (sNil)))
def r3 : DS := sFor (iRng1 (dC (.int 4))) (tgN 4) r3b
def r4 : DS := sIf (tNot (tE (dVar 2))) (sRet (dC (.bl true))) (sNil)
def r5 : DS := sSet 7 (dB bTuple [dComp (iRng1 (dB bLen [dVar 1])) (tgN 9) (tBl (dO2 D.eq (dCall (sem__law_table) [dO2 D.addA (dSl D.slA (dVar 1) none (some (dVar 9))) (dSl D.slA (dVar 1) (some (dO2 D.addA (dVar 9) (dC (.int 1)))) none)]) (dVar 3))) (dVar 9) [9]])
def r6 : DS := sIf (tNot (tE (dCall (sem__law_like 40) [dCall (sem_needless) [dVar 1], dVar 7]))) (sRet (dC (.bl false))) (sNil)
def r7 : DS := sRet (dOr (dO2 D.eq (dVar 7) (dTup [])) (dO2 D.eq (dCall (sem_known_table) [dO2 D.addA (dSl D.slA (dVar 1) none (some (dO2 D.ix (dVar 7) (dC (.int 0))))) (dSl D.slA (dVar 1) (some (dO2 D.addA (dO2 D.ix (dVar 7) (dC (.int 0))) (dC (.int 1)))) none)]) (dVar 3)))
theorem right_seq : den__law_right = sSeq r1 (sSeq r2 (sSeq r3 (sSeq r4 (sSeq r5 (sSeq r6 r7))))) := rfl
section
variable {cs : List Co} (ok : Oks cs) (s : Srt cs) (hn : cs.length ≤ 60)
include ok s hn
theorem list_ok (f : Co → Nat) (g : Co → Nat) (a : DE) (e1 e2 : DE) (xs : List Nat) (hx : xs.length ≤ 100) {s2 s3 s4 s5 s6 s7 s8 s9 : Slot} {c c1 : C}
    (ha : a [.val .cup, .val (eCs cs), s2, s3, s4, s5, s6, s7, s8, s9] c = .ok (.pl (.lst (xs.map nat))) c1)
    (h1 : ∀ co c, e1 [.val .cup, .val (eCs cs), s2, s3, s4, s5, s6, s7, .val (eC co), s9] c = .ok (.pl (nat (f co))) c)
    (h2 : ∀ co c, e2 [.val .cup, .val (eCs cs), s2, s3, s4, s5, s6, s7, .val (eC co), s9] c = .ok (.pl (nat (g co))) c) :
    dO2 D.addA (dO2 D.addA a (dComp (iSeq false (dVar 1)) (tgN 8) (tYes) e1 [8])) (dComp (iSeq false (dVar 1)) (tgN 8) (tYes) e2 [8]) [.val .cup, .val (eCs cs), s2, s3, s4, s5, s6, s7, s8, s9] c = .ok (.pl (.lst ((xs ++ cs.map f ++ cs.map g).map nat))) c1 := by
  have l1 := loop_all (α := Co) eC (fun (co : Co) => nat (f co)) (tgN 8) e1 [.val .cup, .val (eCs cs), s2, s3, s4, s5, s6, s7, .no, s9] c1 cs fun co _ => ⟨_, rfl, h1 co c1⟩
  have l2 := loop_all (α := Co) eC (fun (co : Co) => nat (g co)) (tgN 8) e2 [.val .cup, .val (eCs cs), s2, s3, s4, s5, s6, s7, .no, s9] c1 cs fun co _ => ⟨_, rfl, h2 co c1⟩
  refine o2_of (u := .pl (.lst ((xs ++ cs.map f).map nat))) (v := .pl (.lst (cs.map fun (co : Co) => nat (g co)))) (o2_of (u := .pl (.lst (xs.map nat))) (v := .pl (.lst (cs.map fun (co : Co) => nat (f co)))) ha (comp_of (iseq_of (d := eCs cs) rfl rfl) l1) ?_) (comp_of (iseq_of (d := eCs cs) rfl rfl) l2) ?_
  · show D.addA (.lst _) (.lst _) = _
    rw [cat_lists (by rw [List.length_map, List.length_map]; omega), List.map_append, List.map_map]
    rfl
  · show D.addA (.lst _) (.lst _) = _
    rw [cat_lists (by simp only [List.length_map, List.length_append]; omega), List.map_append (l₂ := cs.map g), List.map_map]
    rfl
def pk (co : Co) : Nat := co.k - 1
theorem times_ok (s2 s3 s4 s5 s6 : Slot) (c : C) : ∃ t c', t ≤ 1000 ∧ dCall (sem__law_some) [dVar 0, rTimes] [.val .cup, .val (eCs cs), s2, s3, s4, s5, s6, .no, .no, .no] c = .ok (.pl (nat t)) c' := by
  obtain ⟨a, c1, e1, ha⟩ := roll_k c 1001 (by decide) (by decide)
  obtain ⟨t, c2, mt, e2⟩ := some_nat c1 ([0, 1000, a] ++ cs.map Co.k ++ cs.map pk) (by rw [List.length_append, List.length_append]; show 0 < 3 + _ + _; omega) (by simp only [List.length_append, List.length_map, List.length_cons, List.length_nil]; omega)
  have ht : t ≤ 1000 := by
    rcases List.mem_append.mp mt with mt | mt
    · rcases List.mem_append.mp mt with mt | mt
      · simp only [List.mem_cons, List.not_mem_nil, or_false] at mt; omega
      · obtain ⟨co, hc, rfl⟩ := List.mem_map.mp mt
        exact (ok co hc).kk
    · obtain ⟨co, hc, rfl⟩ := List.mem_map.mp mt
      have := (ok co hc).kk; unfold pk; omega
  have l0 : dLst [dC (.int 0), dC (.int 1000), dCall (sem__law_roll) [dVar 0, dC (.int 1001)]] [.val .cup, .val (eCs cs), s2, s3, s4, s5, s6, .no, .no, .no] c = .ok (.pl (.lst ([0, 1000, a].map nat))) c1 := lst_of (ds := [nat 0, nat 1000, nat a]) (args_3 rfl rfl (call_of (ds := [.cup, .int 1001]) rfl e1))
  have l1 := list_ok ok s hn Co.k pk (dLst [dC (.int 0), dC (.int 1000), dCall (sem__law_roll) [dVar 0, dC (.int 1001)]]) (dO2 D.ix (dVar 8) (dC (.int 0))) (dB bMax2 [dC (.int 0), dO2 D.subA (dO2 D.ix (dVar 8) (dC (.int 0))) (dC (.int 1))]) [0, 1000, a] (by simp) (s2 := s2) (s3 := s3) (s4 := s4) (s5 := s5) (s6 := s6) (s7 := .no) (s8 := .no) (s9 := .no) (c := c) (c1 := c1)
    l0 (fun co c => rfl) (fun co c => b_of (f := bMax2) (ds := [.int 0, .int ((co.k : Int) - 1)]) rfl (max_pred co.k))
  refine ⟨t, c2, ht, ?_⟩
  exact call_of (ds := [.cup, .lst (([0, 1000, a] ++ cs.map Co.k ++ cs.map pk).map nat)]) (args_2 (v := .pl (.lst (([0, 1000, a] ++ cs.map Co.k ++ cs.map pk).map nat))) (c1 := c) (c2 := c1) rfl l1) e2
theorem hourl_ok (s2 s3 s4 s5 s6 : Slot) (c : C) : ∃ t c', t ≤ 99 ∧ dCall (sem__law_some) [dVar 0, rHours] [.val .cup, .val (eCs cs), s2, s3, s4, s5, s6, .no, .no, .no] c = .ok (.pl (nat t)) c' := by
  obtain ⟨b, c3, e3, hb⟩ := roll_k c 100 (by decide) (by decide)
  obtain ⟨hr, c4, mh, e4⟩ := some_nat c3 ([0, 99, b] ++ cs.map Co.f ++ cs.map Co.l) (by rw [List.length_append, List.length_append]; show 0 < 3 + _ + _; omega) (by simp only [List.length_append, List.length_map, List.length_cons, List.length_nil]; omega)
  have hh : hr ≤ 99 := by
    rcases List.mem_append.mp mh with mh | mh
    · rcases List.mem_append.mp mh with mh | mh
      · simp only [List.mem_cons, List.not_mem_nil, or_false] at mh; omega
      · obtain ⟨co, hc, rfl⟩ := List.mem_map.mp mh
        have := (ok co hc).fl
        have := (ok co hc).ll
        omega
    · obtain ⟨co, hc, rfl⟩ := List.mem_map.mp mh
      exact (ok co hc).ll
  have l0 : dLst [dC (.int 0), dC (.int 99), dCall (sem__law_roll) [dVar 0, dC (.int 100)]] [.val .cup, .val (eCs cs), s2, s3, s4, s5, s6, .no, .no, .no] c = .ok (.pl (.lst ([0, 99, b].map nat))) c3 := lst_of (ds := [nat 0, nat 99, nat b]) (args_3 rfl rfl (call_of (ds := [.cup, .int 100]) rfl e3))
  have l2 := list_ok ok s hn Co.f Co.l (dLst [dC (.int 0), dC (.int 99), dCall (sem__law_roll) [dVar 0, dC (.int 100)]]) (dO2 D.ix (dVar 8) (dC (.int 1))) (dO2 D.ix (dVar 8) (dC (.int 2))) [0, 99, b] (by simp) (s2 := s2) (s3 := s3) (s4 := s4) (s5 := s5) (s6 := s6) (s7 := .no) (s8 := .no) (s9 := .no) (c := c) (c1 := c3)
    l0 (fun co c => rfl) (fun co c => rfl)
  refine ⟨hr, c4, hh, ?_⟩
  exact call_of (ds := [.cup, .lst (([0, 99, b] ++ cs.map Co.f ++ cs.map Co.l).map nat)]) (args_2 (v := .pl (.lst (([0, 99, b] ++ cs.map Co.f ++ cs.map Co.l).map nat))) (c1 := c) (c2 := c3) rfl l2) e4
theorem r3b_ok (s2 s3 s4 s5 s6 : Slot) (c : C) : ∃ s5' s6' c', r3b [.val .cup, .val (eCs cs), s2, s3, s4, s5, s6, .no, .no, .no] c = .nx [.val .cup, .val (eCs cs), s2, s3, s4, s5', s6', .no, .no, .no] c' := by
  obtain ⟨t, c2, ht, e1⟩ := times_ok ok s hn s2 s3 s4 s5 s6 c
  obtain ⟨hr, c4, hh, e2⟩ := hourl_ok ok s hn s2 s3 s4 (.val (nat t)) s6 c2
  refine ⟨.val (nat t), .val (nat hr), c4, ?_⟩
  refine (seq_nx (env1 := [.val .cup, .val (eCs cs), s2, s3, s4, .val (nat t), s6, .no, .no, .no]) (set_of e1)).trans ?_
  refine (seq_nx (env1 := [.val .cup, .val (eCs cs), s2, s3, s4, .val (nat t), .val (nat hr), .no, .no, .no]) (set_of e2)).trans ?_
  have lk := look_hours ok (t := t) (hr := hr) (by omega)
  exact like_ok (d := eO (look cs t hr)) (call_of (ds := [eCs cs, nat t, nat hr]) rfl (known_at_ok ok s hn ht hh c4)) (o2_of (u := .pl (eH (hoursAt cs t))) (v := .pl (nat hr)) (call_of (ds := [eCs cs, nat t]) rfl (hours_ok ok t c4)) rfl (ix_lst (by rw [List.getElem?_map, lk]; rfl))) (like_k _ c4 (shal_O 30 _))
theorem r3_ok (s2 s3 : Slot) (c : C) : ∃ s4' s5' s6' c', r3 [.val .cup, .val (eCs cs), s2, s3, .no, .no, .no, .no, .no, .no] c = .nx [.val .cup, .val (eCs cs), s2, s3, s4', s5', s6', .no, .no, .no] c' := by
  obtain ⟨env', c', e, s4', s5', s6', rfl⟩ := for_inv (P := fun env => ∃ s4 s5 s6, env = [.val .cup, .val (eCs cs), s2, s3, s4, s5, s6, .no, .no, .no]) (tg := tgN 4) (s := r3b) (rng ((0 : Nat) : Int) 4) [.val .cup, .val (eCs cs), s2, s3, .no, .no, .no, .no, .no, .no] c (fun x _ env c hp => by
    obtain ⟨s4, s5, s6, rfl⟩ := hp
    obtain ⟨s5', s6', c', e⟩ := r3b_ok ok s hn s2 s3 (.val x) s5 s6 c
    exact ⟨_, _, c', rfl, e, .val x, s5', s6', rfl⟩) ⟨_, _, _, rfl⟩
  exact ⟨s4', s5', s6', c', (sfor_of (rng1_nat (dC (.int 4)) _ c c 4 (by decide) rfl)).trans e⟩
theorem r12_ok (s2 : Slot) (r : DS) (c : C) : sSeq r1 (sSeq r2 r) [.val .cup, .val (eCs cs), s2, .no, .no, .no, .no, .no, .no, .no] c = r [.val .cup, .val (eCs cs), s2, .val (eT (tab cs)), .no, .no, .no, .no, .no, .no] c := by
  refine (seq_nx (env1 := [.val .cup, .val (eCs cs), s2, .val (eT (tab cs)), .no, .no, .no, .no, .no, .no]) (set_of (call_of (ds := [eCs cs]) rfl (ltable_ok ok s hn c)))).trans ?_
  refine seq_nx (like_ok (d := .lst [.bl true, eT (tab cs)]) (lst_of (ds := [.bl true, eT (tab cs)]) (args_2 (call_of (ds := [eCs cs]) rfl (are_corr_ok ok s hn c)) (call_of (ds := [eCs cs]) rfl (known_table_ok ok s hn c)))) rfl (like_k _ c ?_))
  show (true && (D.shal 29 (eT (tab cs)) && true)) = true
  rw [shal_T 25]
  rfl
theorem remE {a j : DE} {i : Nat} {env : Env} {c : C} (h0 : a env c = .ok (.pl (eCs cs)) c) (hi : j env c = .ok (.pl (nat i)) c) :
    dO2 D.addA (dSl D.slA a none (some j)) (dSl D.slA a (some (dO2 D.addA j (dC (.int 1)))) none) env c = .ok (.pl (eCs (rem cs i))) c := by
  have hp : dO2 D.addA j (dC (.int 1)) env c = .ok (.pl (nat (i + 1))) c := o2_of (u := .pl (nat i)) (v := .pl (nat 1)) hi rfl (addN i 1)
  refine o2_of (u := .pl (.tup ((cs.map eC).take i))) (v := .pl (.tup ((cs.map eC).drop (i + 1)))) (slice_of (x := eCs cs) (i := none) (j := some (i : Int)) h0 rfl (part_of hi) (slA_tup.trans (by rw [cut_take]))) (slice_of (x := eCs cs) (i := some ((i + 1 : Nat) : Int)) (j := none) h0 (part_of hp) rfl (slA_tup.trans (by rw [cut_drop]))) ?_
  show D.addA (.tup _) (.tup _) = _
  rw [cat_tups (by rw [List.length_take, List.length_drop, List.length_map]; omega)]
  show _ = some (D.tup ((rem cs i).map eC))
  unfold rem
  rw [List.map_append, List.map_take, List.map_drop]
theorem r5_ok (s0 s2 s4 s5 s6 : Slot) (c : C) : r5 [s0, .val (eCs cs), s2, .val (eT (tab cs)), s4, s5, s6, .no, .no, .no] c = .nx [s0, .val (eCs cs), s2, .val (eT (tab cs)), s4, s5, s6, .val (.tup ((nl cs).map nat)), .no, .no] c := by
  have lp := loop_gen (α := Nat) nat nat (nlB cs) (tgN 9) (tBl (dO2 D.eq (dCall (sem__law_table) [dO2 D.addA (dSl D.slA (dVar 1) none (some (dVar 9))) (dSl D.slA (dVar 1) (some (dO2 D.addA (dVar 9) (dC (.int 1)))) none)]) (dVar 3))) (dVar 9) [s0, .val (eCs cs), s2, .val (eT (tab cs)), s4, s5, s6, .no, .no, .no] c (upTo 0 cs.length) fun i _ =>
    ⟨[s0, .val (eCs cs), s2, .val (eT (tab cs)), s4, s5, s6, .no, .no, .val (nat i)], rfl,
      tb_of (o2_of (u := .pl (eT (tab (rem cs i)))) (v := .pl (eT (tab cs))) (call_of (ds := [eCs (rem cs i)]) (args_1 (remE ok s hn rfl rfl)) (ltable_ok (rem_ok ok i) (rem_srt s i) (Nat.le_trans (rem_len i) hn) c)) rfl (eq_T _ _)), fun _ => rfl⟩
  rw [show (upTo 0 cs.length).map nat = rng ((0 : Nat) : Int) cs.length from (rng_up _ _).symm] at lp
  have ln : dB bLen [dVar 1] [s0, .val (eCs cs), s2, .val (eT (tab cs)), s4, s5, s6, .no, .no, .no] c = .ok (.pl (.int cs.length)) c := b_of (f := bLen) (ds := [eCs cs]) rfl (by show some (D.int ((cs.map eC).length)) = _; rw [List.length_map])
  exact set_of (b_of (f := bTuple) (ds := [.lst ((nl cs).map nat)]) (args_1 (comp_of (rng1_nat _ _ c c cs.length (by omega) ln) lp)) rfl)
theorem shal_nats (n : Nat) (xs : List Nat) : D.shal (n + 1) (.tup (xs.map nat)) = true := all_map nat (fun x => by cases n <;> rfl) xs
theorem r6_ok (s0 s2 s3 s4 s5 s6 : Slot) (c : C) : r6 [s0, .val (eCs cs), s2, s3, s4, s5, s6, .val (.tup ((nl cs).map nat)), .no, .no] c = .nx [s0, .val (eCs cs), s2, s3, s4, s5, s6, .val (.tup ((nl cs).map nat)), .no, .no] c :=
  like_ok (d := .tup ((nl cs).map nat)) (call_of (ds := [eCs cs]) rfl (needless_ok ok s hn c)) rfl (like_k _ c (shal_nats ok s hn 29 _))
theorem r7_ok (s0 s2 s4 s5 s6 : Slot) (c : C) : r7 [s0, .val (eCs cs), s2, .val (eT (tab cs)), s4, s5, s6, .val (.tup ((nl cs).map nat)), .no, .no] c = .rt (.bl true) c := by
  have t1 : dO2 D.eq (dVar 7) (dTup []) [s0, .val (eCs cs), s2, .val (eT (tab cs)), s4, s5, s6, .val (.tup ((nl cs).map nat)), .no, .no] c = .ok (.pl (.bl ((nl cs).map nat).isEmpty)) c :=
    o2_of (u := .pl (.tup ((nl cs).map nat))) (v := .pl (.tup [])) rfl rfl (eq_nilT fun x hx => by obtain ⟨n, _, rfl⟩ := List.mem_map.mp hx; rfl)
  refine ret_of (v := .pl (.bl true)) ?_
  cases e : nl cs with
  | nil =>
    rw [e] at t1
    exact or_t t1
  | cons i r =>
    rw [e] at t1
    have mi : i ∈ nl cs := by rw [e]; exact List.mem_cons_self ..
    have hb : nlB cs i = true := (List.mem_filter.mp mi).2
    have et : tab (rem cs i) = tab cs := of_decide_eq_true hb
    refine or_f t1 ?_
    refine o2_of (u := .pl (eT (tab (rem cs i)))) (v := .pl (eT (tab cs))) (call_of (ds := [eCs (rem cs i)]) (args_1 (remE ok s hn rfl (o2_of (u := .pl (.tup (List.map nat (i :: r)))) (v := .pl (nat 0)) rfl rfl (ix_tup (i := 0) rfl)))) (known_table_ok (rem_ok ok i) (rem_srt s i) (Nat.le_trans (rem_len i) hn) c)) rfl ?_
    show D.eq (eT _) (eT _) = _
    rw [eq_T, decide_eq_true et]
theorem law_right_ok (b : Bool) (c : C) : ∃ c', sem__law_right [.cup, eCs cs, .bl b] c = .ok (.bl true) c' := by
  obtain ⟨s4, s5, s6, c1, e1⟩ := r3_ok ok s hn (.val (.bl b)) (.val (eT (tab cs))) c
  refine ⟨c1, ?_⟩
  refine run_rt (env := [.val .cup, .val (eCs cs), .val (.bl b), .no, .no, .no, .no, .no, .no, .no]) rfl ?_
  rw [right_seq, r12_ok ok s hn]
  refine (seq_nx e1).trans ?_
  cases b with
  | false => exact seq_rt ((if_t (tnot_of (k := false) (te_bl rfl))).trans (ret_of (v := .pl (.bl true)) rfl))
  | true =>
    refine (seq_nx (if_skip (tnot_of (k := true) (te_bl rfl)))).trans ?_
    refine (seq_nx (r5_ok ok s hn ..)).trans ?_
    refine (seq_nx (r6_ok ok s hn ..)).trans ?_
    exact r7_ok ok s hn ..
end
end K77

set_option maxRecDepth 100000
set_option autoImplicit false
set_option exponentiation.threshold 5000
set_option linter.all false
set_option maxHeartbeats 0
namespace K77
open DL Com
def gr1 : DS := sSet 1 (dCall (sem__law_roll) [dVar 0, dC (.int 30)])
def gr2 : DS := sSet 2 (dB bTuple [dComp (iRng1 (dC (.int 60))) (tgN 5) (tYes) (dTup [dO2 D.mulA (dC (.int 10)) (dVar 5), dVar 5, dC (.int 99), dO2 D.mod (dB bInt [dVar 5]) (dC (.int 2))]) [5]])
def gr3 : DS := sSet 3 (dB bTuple [dComp (iRng1 (dC (.int 60))) (tgN 5) (tYes) (dTup [dO2 D.fdiv (dB bInt [dVar 5]) (dC (.int 2)), dC (.int 0), dC (.int 99), dO2 D.mod (dB bInt [dO2 D.fdiv (dVar 5) (dC (.int 2))]) (dC (.int 10))]) [5]])
def gr4 : DS := sSet 4 (dCall (sem_known_table) [dVar 2])
def gr5 : DS := sIf (tOr (tBl (dO2 D.ne (dB bLen [dVar 4]) (dC (.int 60)))) (tOr (tBl (dO2 D.ne (dO2 D.ix (dVar 4) (dO1 D.neg (dC (.int 1)))) (dTup [dC (.int 590), dO2 D.addA (dB bTuple [dComp (iRng1 (dC (.int 59))) (tgN 6) (tYes) (dTup [dVar 6, dVar 6, dO2 D.mod (dB bInt [dVar 6]) (dC (.int 2))]) [6]]) (dTup [dTup [dC (.int 59), dC (.int 99), dC (.int 1)]])]))) (tBl (dO2 D.ne (dCall (sem_needless) [dVar 2]) (dTup []))))) (sRet (dC (.bl false))) (sNil)
def gr6 : DS := sIf (tOr (tBl (dO2 D.ne (dCall (sem_known_at) [dVar 2, dO2 D.addA (dO2 D.mulA (dC (.int 10)) (dVar 1)) (dC (.int 9)), dO2 D.addA (dVar 1) (dC (.int 1))]) (dO2 D.mod (dB bInt [dVar 1]) (dC (.int 2))))) (tBl (dO2 D.ne (dCall (sem_known_at) [dVar 2, dO2 D.addA (dO2 D.mulA (dC (.int 10)) (dVar 1)) (dC (.int 10)), dO2 D.addA (dVar 1) (dC (.int 1))]) (dO2 D.mod (dB bInt [dO2 D.addA (dVar 1) (dC (.int 1))]) (dC (.int 2)))))) (sRet (dC (.bl false))) (sNil)
def gr7 : DS := sIf (tOr (tBl (dO2 D.ne (dCall (sem_known_table) [dVar 3]) (dB bTuple [dComp (iRng1 (dC (.int 30))) (tgN 5) (tYes) (dTup [dVar 5, dTup [dTup [dC (.int 0), dC (.int 99), dO2 D.mod (dB bInt [dVar 5]) (dC (.int 10))]]]) [5]]))) (tBl (dO2 D.ne (dCall (sem_needless) [dVar 3]) (dTupleRng1 (dC (.int 60)))))) (sRet (dC (.bl false))) (sNil)
def gr8 : DS := sRet (dO2 D.eq (dCall (sem_known_table) [dO2 D.mulA (dTup [dTup [dC (.int 1000), dC (.int 99), dC (.int 99), dC (.int 9)]]) (dC (.int 60))]) (dTup [dTup [dC (.int 1000), dTup [dTup [dC (.int 99), dC (.int 99), dC (.int 9)]]]]))
def steps : List Co := (upTo 0 60).map fun i => ⟨10 * i, i, 99, i % 2⟩
def twice : List Co := (upTo 0 60).map fun i => ⟨i / 2, 0, 99, i / 2 % 10⟩
def same : List Co := List.replicate 60 ⟨1000, 99, 99, 9⟩
theorem steps_ok : Oks steps := fun c hc => by
  obtain ⟨i, hi, rfl⟩ := List.mem_map.mp hc
  have hi := upTo_mem hi
  exact ⟨by show 10 * i ≤ 1000; omega, by show i ≤ 99; omega, by show 99 ≤ 99; omega, by show i % 2 ≤ 9; omega⟩
theorem twice_ok : Oks twice := fun c hc => by
  obtain ⟨i, hi, rfl⟩ := List.mem_map.mp hc
  have hi := upTo_mem hi
  exact ⟨by show i / 2 ≤ 1000; omega, by show 0 ≤ 99; omega, by show 99 ≤ 99; omega, by show i / 2 % 10 ≤ 9; omega⟩
theorem same_ok : Oks same := fun c hc => by
  rw [List.eq_of_mem_replicate hc]
  exact ⟨by show 1000 ≤ 1000; omega, by show 99 ≤ 99; omega, by show 99 ≤ 99; omega, by show 9 ≤ 9; omega⟩
theorem upTo_asc : ∀ (j lo : Nat), (upTo lo j).Pairwise (· < ·)
  | 0, _ => .nil
  | j + 1, lo => List.pairwise_cons.mpr ⟨fun x hx => by have := upTo_mem hx; omega, upTo_asc j (lo + 1)⟩
theorem steps_srt : Srt steps := List.pairwise_map.mpr ((upTo_asc 60 0).imp fun {a b} h => by show 10 * a ≤ 10 * b; omega)
theorem twice_srt : Srt twice := List.pairwise_map.mpr ((upTo_asc 60 0).imp fun {a b} h => by show a / 2 ≤ b / 2; omega)
theorem same_srt : Srt same := by
  unfold Srt same
  exact List.pairwise_replicate.mpr (.inr (Nat.le_refl _))
theorem steps_len : steps.length = 60 := by unfold steps; rw [List.length_map, upTo_len]
theorem twice_len : twice.length = 60 := by unfold twice; rw [List.length_map, upTo_len]
theorem same_len : same.length = 60 := by unfold same; rw [List.length_replicate]
def lastSt : List St := ((upTo 0 59).map fun i => (i, i, i % 2)) ++ [(59, 99, 1)]
theorem steps_tab : (tab steps).length = 60 ∧ (tab steps).getLast? = some (590, lastSt) := by decide +kernel
theorem twice_tab : tab twice = (upTo 0 30).map fun i => (i, [(0, 99, i % 10)]) := by decide +kernel
theorem same_tab : tab same = [(1000, [(99, 99, 9)])] := by decide +kernel
theorem steps_look : ∀ a < 30, look steps (10 * a + 9) (a + 1) = some (a % 2) ∧ look steps (10 * a + 10) (a + 1) = some ((a + 1) % 2) := by decide +kernel
theorem twice_pair : ∀ i < 60, twice = twice.take (2 * (i / 2)) ++ ⟨i / 2, 0, 99, i / 2 % 10⟩ :: ⟨i / 2, 0, 99, i / 2 % 10⟩ :: twice.drop (2 * (i / 2) + 2) ∧ rem twice i = twice.take (2 * (i / 2)) ++ ⟨i / 2, 0, 99, i / 2 % 10⟩ :: twice.drop (2 * (i / 2) + 2) := by decide +kernel
theorem steps_nl : nl steps = [] := by
  unfold nl
  refine List.filter_eq_nil_iff.mpr fun i hi => ?_
  have hi := upTo_mem hi
  rw [steps_len] at hi
  unfold nlB
  rw [decide_eq_true_eq]
  intro e
  have l1 := tabP_le (rem steps i) blank []
  have l2 : (rem steps i).length = 59 := by
    unfold rem
    rw [List.length_append, List.length_take, List.length_drop, steps_len]
    omega
  have l3 : (tab (rem steps i)).length = 60 := by rw [e]; exact steps_tab.1
  unfold tab at l3
  omega
theorem twice_nl : nl twice = upTo 0 60 := by
  unfold nl
  rw [twice_len]
  refine List.filter_eq_self.mpr fun i hi => ?_
  have hi := upTo_mem hi
  obtain ⟨e1, e2⟩ := twice_pair i (by omega)
  unfold nlB
  rw [decide_eq_true_eq, e2]
  conv => rhs; rw [e1]
  refine (tabP_dup (c := ⟨i / 2, 0, 99, i / 2 % 10⟩) ⟨by show i / 2 ≤ 1000; omega, by show 0 ≤ 99; omega, by show 99 ≤ 99; omega, by show i / 2 % 10 ≤ 9; omega⟩ _ _ _ blank_len fun c hc => twice_ok c (List.mem_of_mem_take hc)).symm

theorem ne_natn (a b : Nat) : D.ne (nat a) (nat b) = some (.bl (!decide (a = b))) := by
  have g : (D.shal 60 (nat a) && D.shal 60 (nat b)) = true := rfl
  unfold D.ne
  rw [if_pos g, eqv_nat]
theorem ne_R (x y : Row) : D.ne (eR x) (eR y) = some (.bl (!decide (x = y))) := by
  unfold D.ne
  rw [if_pos (by rw [shal_R 57, shal_R 57]; rfl), eqv_R]
theorem ix_lastT {xs : List D} {d : D} (h : xs.getLast? = some d) : D.ix (.tup xs) (.int (-1)) = some d := by
  show (ixD xs.length (-1)).bind _ = _
  cases xs with
  | nil => cases h
  | cons x xs =>
    have e : ixD (x :: xs).length (-1) = some xs.length := by
      unfold ixD
      rw [if_neg (by decide), if_pos (by rw [List.length_cons]; omega), List.length_cons]
      congr 1
      omega
    rw [e]
    show (x :: xs)[xs.length]? = _
    rw [← h, List.getLast?_eq_getElem?]
    rfl
theorem gr2_ok (a : Nat) (c : C) : gr2 [.val .cup, .val (nat a), .no, .no, .no, .no, .no] c = .nx [.val .cup, .val (nat a), .val (eCs steps), .no, .no, .no, .no] c := by kernel_rfl
theorem gr3_ok (a : Nat) (c : C) : gr3 [.val .cup, .val (nat a), .val (eCs steps), .no, .no, .no, .no] c = .nx [.val .cup, .val (nat a), .val (eCs steps), .val (eCs twice), .no, .no, .no] c := by kernel_rfl
theorem gr4_ok (a : Nat) (c : C) : gr4 [.val .cup, .val (nat a), .val (eCs steps), .val (eCs twice), .no, .no, .no] c = .nx [.val .cup, .val (nat a), .val (eCs steps), .val (eCs twice), .val (eT (tab steps)), .no, .no] c :=
  set_of (call_of (ds := [eCs steps]) rfl (known_table_ok steps_ok steps_srt (by rw [steps_len]; decide) c))
theorem gr5_ok (a : Nat) (c : C) : gr5 [.val .cup, .val (nat a), .val (eCs steps), .val (eCs twice), .val (eT (tab steps)), .no, .no] c = .nx [.val .cup, .val (nat a), .val (eCs steps), .val (eCs twice), .val (eT (tab steps)), .no, .no] c := by
  obtain ⟨tl, tg⟩ := steps_tab
  refine if_skip (tor2 (j := false) (k := false) (tb_of (o2_of (u := .pl (nat 60)) (v := .pl (nat 60)) (b_of (f := bLen) (ds := [eT (tab steps)]) rfl (by show some (D.int ((tab steps).map eR).length) = _; rw [List.length_map, tl])) rfl (ne_natn 60 60))) fun _ => ?_)
  refine tor2 (j := false) (k := false) (tb_of (o2_of (u := .pl (eR (590, lastSt))) (v := .pl (eR (590, lastSt))) (o2_of (u := .pl (eT (tab steps))) (v := .pl (.int (-1))) rfl rfl (ix_lastT (by rw [List.getLast?_map, tg]; rfl))) (by kernel_rfl) ((ne_R _ _).trans (by rw [decide_eq_true rfl]; rfl)))) fun _ => ?_
  have e := needless_ok steps_ok steps_srt (by rw [steps_len]; decide) c
  rw [steps_nl] at e
  exact tb_of (o2_of (u := .pl (.tup [])) (v := .pl (.tup [])) (call_of (ds := [eCs steps]) rfl e) rfl rfl)
theorem mod_natn (a b : Nat) (h : 0 < b) : D.mod (nat a) (nat b) = some (nat (a % b)) := by
  show (if (0 : Int) < b then some (D.int ((a : Int) % b)) else none) = _
  rw [if_pos (by omega)]
  rfl
theorem gr6_ok {a : Nat} (ha : a < 30) (c : C) : gr6 [.val .cup, .val (nat a), .val (eCs steps), .val (eCs twice), .val (eT (tab steps)), .no, .no] c = .nx [.val .cup, .val (nat a), .val (eCs steps), .val (eCs twice), .val (eT (tab steps)), .no, .no] c := by
  obtain ⟨l1, l2⟩ := steps_look a ha
  have k1 := known_at_ok steps_ok steps_srt (by rw [steps_len]; decide) (t := 10 * a + 9) (hr := a + 1) (by omega) (by omega) c
  have k2 := known_at_ok steps_ok steps_srt (by rw [steps_len]; decide) (t := 10 * a + 10) (hr := a + 1) (by omega) (by omega) c
  rw [l1] at k1
  rw [l2] at k2
  have m : dO2 D.mulA (dC (.int 10)) (dVar 1) [.val .cup, .val (nat a), .val (eCs steps), .val (eCs twice), .val (eT (tab steps)), .no, .no] c = .ok (.pl (nat (10 * a))) c := o2_of (u := .pl (.int 10)) (v := .pl (nat a)) rfl rfl ((mulA_some (mulOk_l (by decide) (by decide))).trans (by congr 2))
  have p : dO2 D.addA (dVar 1) (dC (.int 1)) [.val .cup, .val (nat a), .val (eCs steps), .val (eCs twice), .val (eT (tab steps)), .no, .no] c = .ok (.pl (nat (a + 1))) c := add1 rfl
  refine if_skip (tor2 (j := false) (k := false) (tb_of (o2_of (u := .pl (nat (a % 2))) (v := .pl (nat (a % 2))) (call_of (ds := [eCs steps, nat (10 * a + 9), nat (a + 1)]) (args_3 rfl (o2_of (u := .pl (nat (10 * a))) (v := .pl (nat 9)) m rfl (addN _ _)) p) k1) (o2_of (u := .pl (nat a)) (v := .pl (nat 2)) (b_of (f := bInt) (ds := [nat a]) rfl rfl) rfl (mod_natn a 2 (by decide))) ((ne_natn _ _).trans (by rw [decide_eq_true rfl]; rfl)))) fun _ => ?_)
  exact tb_of (o2_of (u := .pl (nat ((a + 1) % 2))) (v := .pl (nat ((a + 1) % 2))) (call_of (ds := [eCs steps, nat (10 * a + 10), nat (a + 1)]) (args_3 rfl (o2_of (u := .pl (nat (10 * a))) (v := .pl (nat 10)) m rfl (addN _ _)) p) k2) (o2_of (u := .pl (nat (a + 1))) (v := .pl (nat 2)) (b_of (f := bInt) (ds := [nat (a + 1)]) (args_1 p) rfl) rfl (mod_natn (a + 1) 2 (by decide))) ((ne_natn _ _).trans (by rw [decide_eq_true rfl]; rfl)))
theorem gr7_ok (a : Nat) (c : C) : gr7 [.val .cup, .val (nat a), .val (eCs steps), .val (eCs twice), .val (eT (tab steps)), .no, .no] c = .nx [.val .cup, .val (nat a), .val (eCs steps), .val (eCs twice), .val (eT (tab steps)), .no, .no] c := by
  have k := known_table_ok twice_ok twice_srt (by rw [twice_len]; decide) c
  rw [twice_tab] at k
  have e := needless_ok twice_ok twice_srt (by rw [twice_len]; decide) c
  rw [twice_nl] at e
  refine if_skip (tor2 (j := false) (k := false) (tb_of (o2_of (u := .pl (eT ((upTo 0 30).map fun i => (i, [(0, 99, i % 10)])))) (v := .pl (eT ((upTo 0 30).map fun i => (i, [(0, 99, i % 10)])))) (call_of (ds := [eCs twice]) rfl k) (by kernel_rfl) ((ne_T _ _).trans (by rw [decide_eq_true rfl]; rfl)))) fun _ => ?_)
  exact tb_of (o2_of (u := .pl (.tup ((upTo 0 60).map nat))) (v := .pl (.tup ((upTo 0 60).map nat))) (call_of (ds := [eCs twice]) rfl e) (by kernel_rfl) (by kernel_rfl))
theorem gr8_ok (a : Nat) (c : C) : gr8 [.val .cup, .val (nat a), .val (eCs steps), .val (eCs twice), .val (eT (tab steps)), .no, .no] c = .rt (.bl true) c := by
  have k := known_table_ok same_ok same_srt (by rw [same_len]; decide) c
  rw [same_tab] at k
  refine ret_of (v := .pl (.bl true)) (o2_of (u := .pl (eT [(1000, [(99, 99, 9)])])) (v := .pl (eT [(1000, [(99, 99, 9)])])) (call_of (ds := [eCs same]) (args_1 (by kernel_rfl)) k) rfl ((eq_T _ _).trans (by rw [decide_eq_true rfl])))
theorem great_seq : den__law_great_right = sSeq gr1 (sSeq gr2 (sSeq gr3 (sSeq gr4 (sSeq gr5 (sSeq gr6 (sSeq gr7 gr8)))))) := rfl
theorem great_ok (c : C) : ∃ c', sem__law_great_right [.cup] c = .ok (.bl true) c' := by
  obtain ⟨a, c1, e1, ha⟩ := roll_k c 30 (by decide) (by decide)
  refine ⟨c1, run_rt (env := [.val .cup, .no, .no, .no, .no, .no, .no]) rfl ?_⟩
  rw [great_seq]
  refine (seq_nx (env1 := [.val .cup, .val (nat a), .no, .no, .no, .no, .no]) (set_of (call_of (ds := [.cup, .int 30]) rfl e1))).trans ?_
  exact (seq_nx (gr2_ok a c1)).trans ((seq_nx (gr3_ok a c1)).trans ((seq_nx (gr4_ok a c1)).trans ((seq_nx (gr5_ok a c1)).trans ((seq_nx (gr6_ok ha c1)).trans ((seq_nx (gr7_ok a c1)).trans (gr8_ok a c1))))))
end K77

set_option maxRecDepth 100000
set_option autoImplicit false
set_option exponentiation.threshold 5000
set_option linter.all false
set_option maxHeartbeats 0
namespace K77
open DL Com
theorem errors_ok (c : C) : sem__law_errors_right [] c = .ok (.bl true) c := by kernel_rfl
def la1 : DS := sFor (iRng1 (dC (.int 3))) (tgN 2) (sIf (tNot (tE (dCall (sem__law_right) [dVar 1, dCall (sem__law_corrections) [dVar 1, dC (.int 6)], dC (.bl true)]))) (sRet (dC (.bl false))) (sNil))
def la2 : DS := sIf (tNot (tE (dCall (sem__law_right) [dVar 1, dCall (sem__law_corrections) [dVar 1, dC (.int 60)], dC (.bl false)]))) (sRet (dC (.bl false))) (sNil)
def la3 : DS := sSet 3 (dTup [dTup [dC (.int 2), dC (.int 0), dC (.int 9), dC (.int 5)], dTup [dC (.int 4), dC (.int 3), dC (.int 5), dC (.int 1)], dTup [dC (.int 4), dC (.int 4), dC (.int 4), dC (.int 5)], dTup [dC (.int 8), dC (.int 0), dC (.int 2), dC (.int 5)]])
def la4 : DS := sSet 4 (dLst [dCall (sem_known_at) [dVar 3, dC (.int 1), dC (.int 0)], dCall (sem_known_at) [dVar 3, dC (.int 4), dC (.int 4)], dCall (sem_known_at) [dVar 3, dC (.int 9), dC (.int 3)], dCall (sem_needless) [dVar 3], dCall (sem_known_table) [dVar 3], dCall (sem_known_table) [dTup []], dCall (sem_needless) [dTup []]])
def la5 : DS := sSet 5 (dLst [dC .non, dC (.int 5), dC (.int 1), dTup [dC (.int 3)], dTup [dTup [dC (.int 2), dTup [dTup [dC (.int 0), dC (.int 9), dC (.int 5)]]], dTup [dC (.int 4), dTup [dTup [dC (.int 0), dC (.int 2), dC (.int 5)], dTup [dC (.int 3), dC (.int 3), dC (.int 1)], dTup [dC (.int 4), dC (.int 4), dC (.int 5)], dTup [dC (.int 5), dC (.int 5), dC (.int 1)], dTup [dC (.int 6), dC (.int 9), dC (.int 5)]]]], dTup [], dTup []])
def la6 : DS := sIf (tNot (tE (dCall (sem__law_like 40) [dVar 4, dVar 5]))) (sRet (dC (.bl false))) (sNil)
def la7 : DS := sIf (tOr (tBl (dO2 D.ne (dCall (sem_known_at) [dVar 3, dC (.int 2), dC (.int 0)]) (dC (.int 5)))) (tBl (dO2 D.ne (dCall (sem_known_table) [dTup [dTup [dC (.int 1), dC (.int 0), dC (.int 1), dC (.int 0)]]]) (dTup [dTup [dC (.int 1), dTup [dTup [dC (.int 0), dC (.int 1), dC (.int 0)]]]])))) (sRet (dC (.bl false))) (sNil)
def la8 : DS := sRet (dAnd (dCall (sem__law_errors_right) []) (dOr (dO2 D.gt (dCall (sem__law_roll) [dVar 1, dC (.int 5)]) (dC (.int 0))) (dCall (sem__law_great_right) [dVar 1])))
def laM : DS := sSeq la3 (sSeq la4 (sSeq la5 (sSeq la6 la7)))
def someD : D := .tup [.tup [.int 2, .int 0, .int 9, .int 5], .tup [.int 4, .int 3, .int 5, .int 1], .tup [.int 4, .int 4, .int 4, .int 5], .tup [.int 8, .int 0, .int 2, .int 5]]
def toldD : D := .lst [.non, .int 5, .int 1, .tup [.int 3], .tup [.tup [.int 2, .tup [.tup [.int 0, .int 9, .int 5]]], .tup [.int 4, .tup [.tup [.int 0, .int 2, .int 5], .tup [.int 3, .int 3, .int 1], .tup [.int 4, .int 4, .int 5], .tup [.int 5, .int 5, .int 1], .tup [.int 6, .int 9, .int 5]]]], .tup [], .tup []]
theorem laM_ok (s0 s2 : Slot) (c : C) : laM [s0, .val .cup, s2, .no, .no, .no] c = .nx [s0, .val .cup, s2, .val someD, .val toldD, .val toldD] c := by kernel_rfl
def turnB : DS := sIf (tNot (tE (dCall (sem__law_right) [dVar 1, dCall (sem__law_corrections) [dVar 1, dC (.int 6)], dC (.bl true)]))) (sRet (dC (.bl false))) (sNil)
theorem turn_ok (s0 s2 s3 s4 s5 : Slot) (c : C) : ∃ c', turnB [s0, .val .cup, s2, s3, s4, s5] c = .nx [s0, .val .cup, s2, s3, s4, s5] c' := by
  obtain ⟨cs, c1, e1, ok, s, hn⟩ := corrections_ok (m := 6) (by decide) c
  obtain ⟨c2, e2⟩ := law_right_ok ok s (by omega) true c1
  exact ⟨c2, if_skip (tnot_of (k := true) (te_bl (call_of (ds := [.cup, eCs cs, .bl true]) (args_3 rfl (call_of (ds := [.cup, .int 6]) rfl e1) rfl) e2)))⟩
theorem la1_ok (c : C) : ∃ s2 c', la1 [.no, .val .cup, .no, .no, .no, .no] c = .nx [.no, .val .cup, s2, .no, .no, .no] c' := by
  obtain ⟨env, c', e, s2, rfl⟩ := for_inv (P := fun env => ∃ s2, env = [.no, .val .cup, s2, .no, .no, .no]) (tg := tgN 2) (s := turnB) (rng ((0 : Nat) : Int) 3) [.no, .val .cup, .no, .no, .no, .no] c (fun x _ env c hp => by
    obtain ⟨s2, rfl⟩ := hp
    obtain ⟨c', e⟩ := turn_ok .no (.val x) .no .no .no c
    exact ⟨_, _, c', rfl, e, .val x, rfl⟩) ⟨_, rfl⟩
  exact ⟨s2, c', (sfor_of (rng1_nat (dC (.int 3)) _ c c 3 (by decide) rfl)).trans e⟩
theorem la2_ok (s0 s2 s3 s4 s5 : Slot) (c : C) : ∃ c', la2 [s0, .val .cup, s2, s3, s4, s5] c = .nx [s0, .val .cup, s2, s3, s4, s5] c' := by
  obtain ⟨cs, c1, e1, ok, s, hn⟩ := corrections_ok (m := 60) (by decide) c
  obtain ⟨c2, e2⟩ := law_right_ok ok s (by omega) false c1
  exact ⟨c2, if_skip (tnot_of (k := true) (te_bl (call_of (ds := [.cup, eCs cs, .bl false]) (args_3 rfl (call_of (ds := [.cup, .int 60]) rfl e1) rfl) e2)))⟩
theorem la8_ok (s0 s2 s3 s4 s5 : Slot) (c : C) : ∃ c', la8 [s0, .val .cup, s2, s3, s4, s5] c = .rt (.bl true) c' := by
  obtain ⟨r, c1, e1, hr⟩ := roll_k c 5 (by decide) (by decide)
  obtain ⟨c2, e2⟩ := great_ok c1
  have t1 : dO2 D.gt (dCall (sem__law_roll) [dVar 1, dC (.int 5)]) (dC (.int 0)) [s0, .val .cup, s2, s3, s4, s5] c = .ok (.pl (.bl (decide ((0 : Int) < r)))) c1 :=
    o2_of (u := .pl (.int r)) (v := .pl (.int 0)) (call_of (ds := [.cup, .int 5]) rfl e1) rfl rfl
  have er : dCall (sem__law_errors_right) [] [s0, .val .cup, s2, s3, s4, s5] c = .ok (.pl (.bl true)) c := call_of (ds := []) rfl (errors_ok c)
  by_cases h : (0 : Int) < r
  · rw [decide_eq_true h] at t1
    exact ⟨c1, ret_of (v := .pl (.bl true)) (and_t er (or_t t1))⟩
  · rw [decide_eq_false h] at t1
    exact ⟨c2, ret_of (v := .pl (.bl true)) (and_t er (or_f t1 (call_of (ds := [.cup]) rfl e2)))⟩
theorem law_true (ns : List Int) : ∃ c, run_law (cup0 ns) = .rt (.bl true) c := by
  obtain ⟨s2, c1, e1⟩ := la1_ok (cup0 ns)
  obtain ⟨c2, e2⟩ := la2_ok .no s2 .no .no .no c1
  have e3 := laM_ok .no s2 c2
  obtain ⟨c3, e4⟩ := la8_ok .no s2 (.val someD) (.val toldD) (.val toldD) c2
  refine ⟨c3, ?_⟩
  have as : ∀ (a b rest : DS), sSeq a (sSeq b rest) = sSeq (sSeq a b) rest := fun a b rest => by
    funext env c
    unfold sSeq
    cases a env c <;> rfl
  have sq : ∀ env c, den_law env c = sSeq la1 (sSeq la2 (sSeq laM la8)) env c := fun env c => by
    unfold laM
    simp only [← as]
    rfl
  show den_law _ _ = _
  rw [sq]
  exact (seq_nx e1).trans ((seq_nx e2).trans ((seq_nx e3).trans e4))
end K77

set_option Elab.async false
set_option linter.all false
set_option maxRecDepth 100000
set_option maxHeartbeats 4000000
set_option autoImplicit false
namespace K77
open PySem PySem.Spec PyProof.Rows L2 LamX DL
def topS (i : Nat) : Stmt := PySem.Challenge.pw_lotsatdawn_k77_whole_corrections.main.body.getD i (.Pass ⟨0, 0, 0, 0⟩)
theorem nm_HOURS : (("HOURS" : Str) == ("__debug__" : Str)) = false ∧ (("HOURS" : Str) == ("__classdict__" : Str)) = false ∧ ("HOURS" : Str) ≠ "__name__" := by decide +kernel
theorem nm_HallError : (("HallError" : Str) == ("__debug__" : Str)) = false ∧ (("HallError" : Str) == ("__classdict__" : Str)) = false ∧ ("HallError" : Str) ≠ "__name__" := by decide +kernel
theorem nm_InvalidCorrections : (("InvalidCorrections" : Str) == ("__debug__" : Str)) = false ∧ (("InvalidCorrections" : Str) == ("__classdict__" : Str)) = false ∧ ("InvalidCorrections" : Str) ≠ "__name__" := by decide +kernel
theorem nm_InvalidNumber : (("InvalidNumber" : Str) == ("__debug__" : Str)) = false ∧ (("InvalidNumber" : Str) == ("__classdict__" : Str)) = false ∧ ("InvalidNumber" : Str) ≠ "__name__" := by decide +kernel
theorem nm_MANY : (("MANY" : Str) == ("__debug__" : Str)) = false ∧ (("MANY" : Str) == ("__classdict__" : Str)) = false ∧ ("MANY" : Str) ≠ "__name__" := by decide +kernel
theorem nm_TIME : (("TIME" : Str) == ("__debug__" : Str)) = false ∧ (("TIME" : Str) == ("__classdict__" : Str)) = false ∧ ("TIME" : Str) ≠ "__name__" := by decide +kernel
theorem nm__law_corrections : (("_law_corrections" : Str) == ("__debug__" : Str)) = false ∧ (("_law_corrections" : Str) == ("__classdict__" : Str)) = false ∧ ("_law_corrections" : Str) ≠ "__name__" := by decide +kernel
theorem nm__law_error : (("_law_error" : Str) == ("__debug__" : Str)) = false ∧ (("_law_error" : Str) == ("__classdict__" : Str)) = false ∧ ("_law_error" : Str) ≠ "__name__" := by decide +kernel
theorem nm__law_errors_right : (("_law_errors_right" : Str) == ("__debug__" : Str)) = false ∧ (("_law_errors_right" : Str) == ("__classdict__" : Str)) = false ∧ ("_law_errors_right" : Str) ≠ "__name__" := by decide +kernel
theorem nm__law_great_right : (("_law_great_right" : Str) == ("__debug__" : Str)) = false ∧ (("_law_great_right" : Str) == ("__classdict__" : Str)) = false ∧ ("_law_great_right" : Str) ≠ "__name__" := by decide +kernel
theorem nm__law_hours : (("_law_hours" : Str) == ("__debug__" : Str)) = false ∧ (("_law_hours" : Str) == ("__classdict__" : Str)) = false ∧ ("_law_hours" : Str) ≠ "__name__" := by decide +kernel
theorem nm__law_like : (("_law_like" : Str) == ("__debug__" : Str)) = false ∧ (("_law_like" : Str) == ("__classdict__" : Str)) = false ∧ ("_law_like" : Str) ≠ "__name__" := by decide +kernel
theorem nm__law_right : (("_law_right" : Str) == ("__debug__" : Str)) = false ∧ (("_law_right" : Str) == ("__classdict__" : Str)) = false ∧ ("_law_right" : Str) ≠ "__name__" := by decide +kernel
theorem nm__law_roll : (("_law_roll" : Str) == ("__debug__" : Str)) = false ∧ (("_law_roll" : Str) == ("__classdict__" : Str)) = false ∧ ("_law_roll" : Str) ≠ "__name__" := by decide +kernel
theorem nm__law_some : (("_law_some" : Str) == ("__debug__" : Str)) = false ∧ (("_law_some" : Str) == ("__classdict__" : Str)) = false ∧ ("_law_some" : Str) ≠ "__name__" := by decide +kernel
theorem nm__law_sort : (("_law_sort" : Str) == ("__debug__" : Str)) = false ∧ (("_law_sort" : Str) == ("__classdict__" : Str)) = false ∧ ("_law_sort" : Str) ≠ "__name__" := by decide +kernel
theorem nm__law_stretches : (("_law_stretches" : Str) == ("__debug__" : Str)) = false ∧ (("_law_stretches" : Str) == ("__classdict__" : Str)) = false ∧ ("_law_stretches" : Str) ≠ "__name__" := by decide +kernel
theorem nm__law_table : (("_law_table" : Str) == ("__debug__" : Str)) = false ∧ (("_law_table" : Str) == ("__classdict__" : Str)) = false ∧ ("_law_table" : Str) ≠ "__name__" := by decide +kernel
theorem nm_all : (("all" : Str) == ("__debug__" : Str)) = false ∧ (("all" : Str) == ("__classdict__" : Str)) = false ∧ ("all" : Str) ≠ "__name__" := by decide +kernel
theorem nm_are_corrections : (("are_corrections" : Str) == ("__debug__" : Str)) = false ∧ (("are_corrections" : Str) == ("__classdict__" : Str)) = false ∧ ("are_corrections" : Str) ≠ "__name__" := by decide +kernel
theorem nm_at : (("at" : Str) == ("__debug__" : Str)) = false ∧ (("at" : Str) == ("__classdict__" : Str)) = false ∧ ("at" : Str) ≠ "__name__" := by decide +kernel
theorem nm_before : (("before" : Str) == ("__debug__" : Str)) = false ∧ (("before" : Str) == ("__classdict__" : Str)) = false ∧ ("before" : Str) ≠ "__name__" := by decide +kernel
theorem nm_bool : (("bool" : Str) == ("__debug__" : Str)) = false ∧ (("bool" : Str) == ("__classdict__" : Str)) = false ∧ ("bool" : Str) ≠ "__name__" := by decide +kernel
theorem nm_call : (("call" : Str) == ("__debug__" : Str)) = false ∧ (("call" : Str) == ("__classdict__" : Str)) = false ∧ ("call" : Str) ≠ "__name__" := by decide +kernel
theorem nm_corrections : (("corrections" : Str) == ("__debug__" : Str)) = false ∧ (("corrections" : Str) == ("__classdict__" : Str)) = false ∧ ("corrections" : Str) ≠ "__name__" := by decide +kernel
theorem nm_cup : (("cup" : Str) == ("__debug__" : Str)) = false ∧ (("cup" : Str) == ("__classdict__" : Str)) = false ∧ ("cup" : Str) ≠ "__name__" := by decide +kernel
theorem nm_deep : (("deep" : Str) == ("__debug__" : Str)) = false ∧ (("deep" : Str) == ("__classdict__" : Str)) = false ∧ ("deep" : Str) ≠ "__name__" := by decide +kernel
theorem nm_due : (("due" : Str) == ("__debug__" : Str)) = false ∧ (("due" : Str) == ("__classdict__" : Str)) = false ∧ ("due" : Str) ≠ "__name__" := by decide +kernel
theorem nm_e : (("e" : Str) == ("__debug__" : Str)) = false ∧ (("e" : Str) == ("__classdict__" : Str)) = false ∧ ("e" : Str) ≠ "__name__" := by decide +kernel
theorem nm_first : (("first" : Str) == ("__debug__" : Str)) = false ∧ (("first" : Str) == ("__classdict__" : Str)) = false ∧ ("first" : Str) ≠ "__name__" := by decide +kernel
theorem nm_found : (("found" : Str) == ("__debug__" : Str)) = false ∧ (("found" : Str) == ("__classdict__" : Str)) = false ∧ ("found" : Str) ≠ "__name__" := by decide +kernel
theorem nm_good : (("good" : Str) == ("__debug__" : Str)) = false ∧ (("good" : Str) == ("__classdict__" : Str)) = false ∧ ("good" : Str) ≠ "__name__" := by decide +kernel
theorem nm_high : (("high" : Str) == ("__debug__" : Str)) = false ∧ (("high" : Str) == ("__classdict__" : Str)) = false ∧ ("high" : Str) ≠ "__name__" := by decide +kernel
theorem nm_hour : (("hour" : Str) == ("__debug__" : Str)) = false ∧ (("hour" : Str) == ("__classdict__" : Str)) = false ∧ ("hour" : Str) ≠ "__name__" := by decide +kernel
theorem nm_hours : (("hours" : Str) == ("__debug__" : Str)) = false ∧ (("hours" : Str) == ("__classdict__" : Str)) = false ∧ ("hours" : Str) ≠ "__name__" := by decide +kernel
theorem nm_int : (("int" : Str) == ("__debug__" : Str)) = false ∧ (("int" : Str) == ("__classdict__" : Str)) = false ∧ ("int" : Str) ≠ "__name__" := by decide +kernel
theorem nm_is_correction : (("is_correction" : Str) == ("__debug__" : Str)) = false ∧ (("is_correction" : Str) == ("__classdict__" : Str)) = false ∧ ("is_correction" : Str) ≠ "__name__" := by decide +kernel
theorem nm_is_short : (("is_short" : Str) == ("__debug__" : Str)) = false ∧ (("is_short" : Str) == ("__classdict__" : Str)) = false ∧ ("is_short" : Str) ≠ "__name__" := by decide +kernel
theorem nm_is_tuple_of : (("is_tuple_of" : Str) == ("__debug__" : Str)) = false ∧ (("is_tuple_of" : Str) == ("__classdict__" : Str)) = false ∧ ("is_tuple_of" : Str) ≠ "__name__" := by decide +kernel
theorem nm_is_whole : (("is_whole" : Str) == ("__debug__" : Str)) = false ∧ (("is_whole" : Str) == ("__classdict__" : Str)) = false ∧ ("is_whole" : Str) ≠ "__name__" := by decide +kernel
theorem nm_isinstance : (("isinstance" : Str) == ("__debug__" : Str)) = false ∧ (("isinstance" : Str) == ("__classdict__" : Str)) = false ∧ ("isinstance" : Str) ≠ "__name__" := by decide +kernel
theorem nm_known : (("known" : Str) == ("__debug__" : Str)) = false ∧ (("known" : Str) == ("__classdict__" : Str)) = false ∧ ("known" : Str) ≠ "__name__" := by decide +kernel
theorem nm_known_at : (("known_at" : Str) == ("__debug__" : Str)) = false ∧ (("known_at" : Str) == ("__classdict__" : Str)) = false ∧ ("known_at" : Str) ≠ "__name__" := by decide +kernel
theorem nm_known_table : (("known_table" : Str) == ("__debug__" : Str)) = false ∧ (("known_table" : Str) == ("__classdict__" : Str)) = false ∧ ("known_table" : Str) ≠ "__name__" := by decide +kernel
theorem nm_last : (("last" : Str) == ("__debug__" : Str)) = false ∧ (("last" : Str) == ("__classdict__" : Str)) = false ∧ ("last" : Str) ≠ "__name__" := by decide +kernel
theorem nm_len : (("len" : Str) == ("__debug__" : Str)) = false ∧ (("len" : Str) == ("__classdict__" : Str)) = false ∧ ("len" : Str) ≠ "__name__" := by decide +kernel
theorem nm_length : (("length" : Str) == ("__debug__" : Str)) = false ∧ (("length" : Str) == ("__classdict__" : Str)) = false ∧ ("length" : Str) ≠ "__name__" := by decide +kernel
theorem nm_list : (("list" : Str) == ("__debug__" : Str)) = false ∧ (("list" : Str) == ("__classdict__" : Str)) = false ∧ ("list" : Str) ≠ "__name__" := by decide +kernel
theorem nm_low : (("low" : Str) == ("__debug__" : Str)) = false ∧ (("low" : Str) == ("__classdict__" : Str)) = false ∧ ("low" : Str) ≠ "__name__" := by decide +kernel
theorem nm_many : (("many" : Str) == ("__debug__" : Str)) = false ∧ (("many" : Str) == ("__classdict__" : Str)) = false ∧ ("many" : Str) ≠ "__name__" := by decide +kernel
theorem nm_max : (("max" : Str) == ("__debug__" : Str)) = false ∧ (("max" : Str) == ("__classdict__" : Str)) = false ∧ ("max" : Str) ≠ "__name__" := by decide +kernel
theorem nm_min : (("min" : Str) == ("__debug__" : Str)) = false ∧ (("min" : Str) == ("__classdict__" : Str)) = false ∧ ("min" : Str) ≠ "__name__" := by decide +kernel
theorem nm_more : (("more" : Str) == ("__debug__" : Str)) = false ∧ (("more" : Str) == ("__classdict__" : Str)) = false ∧ ("more" : Str) ≠ "__name__" := by decide +kernel
theorem nm_need_corrections : (("need_corrections" : Str) == ("__debug__" : Str)) = false ∧ (("need_corrections" : Str) == ("__classdict__" : Str)) = false ∧ ("need_corrections" : Str) ≠ "__name__" := by decide +kernel
theorem nm_need_whole : (("need_whole" : Str) == ("__debug__" : Str)) = false ∧ (("need_whole" : Str) == ("__classdict__" : Str)) = false ∧ ("need_whole" : Str) ≠ "__name__" := by decide +kernel
theorem nm_needless : (("needless" : Str) == ("__debug__" : Str)) = false ∧ (("needless" : Str) == ("__classdict__" : Str)) = false ∧ ("needless" : Str) ≠ "__name__" := by decide +kernel
theorem nm_odd : (("odd" : Str) == ("__debug__" : Str)) = false ∧ (("odd" : Str) == ("__classdict__" : Str)) = false ∧ ("odd" : Str) ≠ "__name__" := by decide +kernel
theorem nm_odds : (("odds" : Str) == ("__debug__" : Str)) = false ∧ (("odds" : Str) == ("__classdict__" : Str)) = false ∧ ("odds" : Str) ≠ "__name__" := by decide +kernel
theorem nm_one : (("one" : Str) == ("__debug__" : Str)) = false ∧ (("one" : Str) == ("__classdict__" : Str)) = false ∧ ("one" : Str) ≠ "__name__" := by decide +kernel
theorem nm_other : (("other" : Str) == ("__debug__" : Str)) = false ∧ (("other" : Str) == ("__classdict__" : Str)) = false ∧ ("other" : Str) ≠ "__name__" := by decide +kernel
theorem nm_row : (("row" : Str) == ("__debug__" : Str)) = false ∧ (("row" : Str) == ("__classdict__" : Str)) = false ∧ ("row" : Str) ≠ "__name__" := by decide +kernel
theorem nm_second : (("second" : Str) == ("__debug__" : Str)) = false ∧ (("second" : Str) == ("__classdict__" : Str)) = false ∧ ("second" : Str) ≠ "__name__" := by decide +kernel
theorem nm_some : (("some" : Str) == ("__debug__" : Str)) = false ∧ (("some" : Str) == ("__classdict__" : Str)) = false ∧ ("some" : Str) ≠ "__name__" := by decide +kernel
theorem nm_sort : (("sort" : Str) == ("__debug__" : Str)) = false ∧ (("sort" : Str) == ("__classdict__" : Str)) = false ∧ ("sort" : Str) ≠ "__name__" := by decide +kernel
theorem nm_steps : (("steps" : Str) == ("__debug__" : Str)) = false ∧ (("steps" : Str) == ("__classdict__" : Str)) = false ∧ ("steps" : Str) ≠ "__name__" := by decide +kernel
theorem nm_str : (("str" : Str) == ("__debug__" : Str)) = false ∧ (("str" : Str) == ("__classdict__" : Str)) = false ∧ ("str" : Str) ≠ "__name__" := by decide +kernel
theorem nm_stretches_of : (("stretches_of" : Str) == ("__debug__" : Str)) = false ∧ (("stretches_of" : Str) == ("__classdict__" : Str)) = false ∧ ("stretches_of" : Str) ≠ "__name__" := by decide +kernel
theorem nm_table : (("table" : Str) == ("__debug__" : Str)) = false ∧ (("table" : Str) == ("__classdict__" : Str)) = false ∧ ("table" : Str) ≠ "__name__" := by decide +kernel
theorem nm_table_in : (("table_in" : Str) == ("__debug__" : Str)) = false ∧ (("table_in" : Str) == ("__classdict__" : Str)) = false ∧ ("table_in" : Str) ≠ "__name__" := by decide +kernel
theorem nm_things : (("things" : Str) == ("__debug__" : Str)) = false ∧ (("things" : Str) == ("__classdict__" : Str)) = false ∧ ("things" : Str) ≠ "__name__" := by decide +kernel
theorem nm_time : (("time" : Str) == ("__debug__" : Str)) = false ∧ (("time" : Str) == ("__classdict__" : Str)) = false ∧ ("time" : Str) ≠ "__name__" := by decide +kernel
theorem nm_told : (("told" : Str) == ("__debug__" : Str)) = false ∧ (("told" : Str) == ("__classdict__" : Str)) = false ∧ ("told" : Str) ≠ "__name__" := by decide +kernel
theorem nm_tuple : (("tuple" : Str) == ("__debug__" : Str)) = false ∧ (("tuple" : Str) == ("__classdict__" : Str)) = false ∧ ("tuple" : Str) ≠ "__name__" := by decide +kernel
theorem nm_turn : (("turn" : Str) == ("__debug__" : Str)) = false ∧ (("turn" : Str) == ("__classdict__" : Str)) = false ∧ ("turn" : Str) ≠ "__name__" := by decide +kernel
theorem nm_twice : (("twice" : Str) == ("__debug__" : Str)) = false ∧ (("twice" : Str) == ("__classdict__" : Str)) = false ∧ ("twice" : Str) ≠ "__name__" := by decide +kernel
theorem nm_value : (("value" : Str) == ("__debug__" : Str)) = false ∧ (("value" : Str) == ("__classdict__" : Str)) = false ∧ ("value" : Str) ≠ "__name__" := by decide +kernel
theorem nm_word : (("word" : Str) == ("__debug__" : Str)) = false ∧ (("word" : Str) == ("__classdict__" : Str)) = false ∧ ("word" : Str) ≠ "__name__" := by decide +kernel
theorem nm_words : (("words" : Str) == ("__debug__" : Str)) = false ∧ (("words" : Str) == ("__classdict__" : Str)) = false ∧ ("words" : Str) ≠ "__name__" := by decide +kernel
theorem sub_lt (k j : Nat) (h : sub_ k j = true) : k < 2 := by
  rcases Nat.lt_or_ge k 2 with z | z
  · exact z
  · exfalso
    have e : tbl_.getD k [] = [] := by rw [List.getD_eq_getElem?_getD, List.getElem?_eq_none (show tbl_.length ≤ k from z)]; rfl
    unfold sub_ at h
    rw [e] at h
    cases h
abbrev st_is_whole : Stmt := topS 5
abbrev Nm_is_whole : List Str := ["value", "low", "high"]
theorem sc_is_whole : FnScope Nm_is_whole ["value", "low", "high"] (defScope st_is_whole) := ⟨rfl, rfl, rfl, by decide +kernel, rfl, by decide +kernel, by decide +kernel⟩
abbrev st_is_tuple_of : Stmt := topS 7
abbrev Nm_is_tuple_of : List Str := ["value", "low", "high"]
theorem sc_is_tuple_of : FnScope Nm_is_tuple_of ["value", "low", "high"] (defScope st_is_tuple_of) := ⟨rfl, rfl, rfl, by decide +kernel, rfl, by decide +kernel, by decide +kernel⟩
abbrev st_stretches_of : Stmt := topS 16
abbrev Nm_stretches_of : List Str := ["hours", "found", "hour", "value"]
theorem sc_stretches_of : FnScope Nm_stretches_of ["hours"] (defScope st_stretches_of) := ⟨rfl, rfl, rfl, by decide +kernel, rfl, by decide +kernel, by decide +kernel⟩
abbrev st__law_cup : Stmt := topS 21
abbrev Nm__law_cup : List Str := ["script", "cell"]
theorem sc__law_cup : FnScope Nm__law_cup ["script"] (defScope st__law_cup) := ⟨rfl, rfl, rfl, by decide +kernel, rfl, by decide +kernel, by decide +kernel⟩
abbrev st__law_roll : Stmt := topS 22
abbrev Nm__law_roll : List Str := ["cup", "many", "found", "deep"]
theorem sc__law_roll : FnScope Nm__law_roll ["cup", "many"] (defScope st__law_roll) := ⟨rfl, rfl, rfl, by decide +kernel, rfl, by decide +kernel, by decide +kernel⟩
abbrev st__law_sort : Stmt := topS 24
abbrev Nm__law_sort : List Str := ["value"]
theorem sc__law_sort : FnScope Nm__law_sort ["value"] (defScope st__law_sort) := ⟨rfl, rfl, rfl, by decide +kernel, rfl, by decide +kernel, by decide +kernel⟩
abbrev st__law_error : Stmt := topS 26
abbrev Nm__law_error : List Str := ["call", "e", "some", "word", "good"]
theorem sc__law_error : FnScope Nm__law_error ["call"] (defScope st__law_error) := ⟨rfl, rfl, rfl, by decide +kernel, rfl, by decide +kernel, by decide +kernel⟩
def cs__law_error_0 : Scope := { kind := .function, names := [(PySem.Str.ofString ".0", .«local»), (PySem.Str.ofString "word", .«local»), (PySem.Str.ofString "good", .«local»)], isGenerator := false, isCoroutine := false, more := [] }
def cs__law_error_1 : Scope := { kind := .function, names := [(PySem.Str.ofString ".0", .«local»), (PySem.Str.ofString "word", .«local»), (PySem.Str.ofString "good", .«local»)], isGenerator := false, isCoroutine := false, more := [] }
abbrev st__law_hours : Stmt := topS 28
abbrev Nm__law_hours : List Str := ["corrections", "time", "found", "known", "first", "last", "value", "hour"]
theorem sc__law_hours : FnScope Nm__law_hours ["corrections", "time"] (defScope st__law_hours) := ⟨rfl, rfl, rfl, by decide +kernel, rfl, by decide +kernel, by decide +kernel⟩
abbrev st__law_stretches : Stmt := topS 29
abbrev Nm__law_stretches : List Str := ["hours", "found", "hour", "value", "length", "more"]
theorem sc__law_stretches : FnScope Nm__law_stretches ["hours"] (defScope st__law_stretches) := ⟨rfl, rfl, rfl, by decide +kernel, rfl, by decide +kernel, by decide +kernel⟩
def cs__law_stretches_0 : Scope := { kind := .function, names := [(PySem.Str.ofString ".0", .«local»), (PySem.Str.ofString "more", .«local»), (PySem.Str.ofString "hour", .free), (PySem.Str.ofString "hours", .free), (PySem.Str.ofString "value", .free)], isGenerator := false, isCoroutine := false, more := [] }
abbrev st_need_whole : Stmt := topS 6
abbrev Nm_need_whole : List Str := ["value", "low", "high"]
theorem sc_need_whole : FnScope Nm_need_whole ["value", "low", "high"] (defScope st_need_whole) := ⟨rfl, rfl, rfl, by decide +kernel, rfl, by decide +kernel, by decide +kernel⟩
abbrev st_is_correction : Stmt := topS 12
abbrev Nm_is_correction : List Str := ["value"]
theorem sc_is_correction : FnScope Nm_is_correction ["value"] (defScope st_is_correction) := ⟨rfl, rfl, rfl, by decide +kernel, rfl, by decide +kernel, by decide +kernel⟩
abbrev st_table_in : Stmt := topS 17
abbrev Nm_table_in : List Str := ["corrections", "hours", "found", "at", "known", "first", "last", "value", "row"]
theorem sc_table_in : FnScope Nm_table_in ["corrections"] (defScope st_table_in) := ⟨rfl, rfl, rfl, by decide +kernel, rfl, by decide +kernel, by decide +kernel⟩
abbrev st__law_some : Stmt := topS 23
abbrev Nm__law_some : List Str := ["cup", "things"]
theorem sc__law_some : FnScope Nm__law_some ["cup", "things"] (defScope st__law_some) := ⟨rfl, rfl, rfl, by decide +kernel, rfl, by decide +kernel, by decide +kernel⟩
abbrev st__law_like : Stmt := topS 25
abbrev Nm__law_like : List Str := ["one", "other", "sort", "first", "second"]
theorem sc__law_like : FnScope Nm__law_like ["one", "other"] (defScope st__law_like) := ⟨rfl, rfl, rfl, by decide +kernel, rfl, by decide +kernel, by decide +kernel⟩
def cs__law_like_0 : Scope := { kind := .function, names := [(PySem.Str.ofString ".0", .«local»), (PySem.Str.ofString "first", .«local»), (PySem.Str.ofString "second", .«local»), (PySem.Str.ofString "_law_like", .globalImplicit)], isGenerator := false, isCoroutine := false, more := [] }
abbrev st__law_table : Stmt := topS 30
abbrev Nm__law_table : List Str := ["corrections", "found", "before", "time", "hours", "one"]
theorem sc__law_table : FnScope Nm__law_table ["corrections"] (defScope st__law_table) := ⟨rfl, rfl, rfl, by decide +kernel, rfl, by decide +kernel, by decide +kernel⟩
def cs__law_table_0 : Scope := { kind := .function, names := [(PySem.Str.ofString ".0", .«local»), (PySem.Str.ofString "one", .«local»)], isGenerator := false, isCoroutine := false, more := [] }
abbrev st_are_corrections : Stmt := topS 13
abbrev Nm_are_corrections : List Str := ["value", "one", "other"]
theorem sc_are_corrections : FnScope Nm_are_corrections ["value"] (defScope st_are_corrections) := ⟨rfl, rfl, rfl, by decide +kernel, rfl, by decide +kernel, by decide +kernel⟩
def cs_are_corrections_0 : Scope := { kind := .function, names := [(PySem.Str.ofString ".0", .«local»), (PySem.Str.ofString "one", .«local»), (PySem.Str.ofString "is_correction", .globalImplicit)], isGenerator := false, isCoroutine := false, more := [] }
def cs_are_corrections_1 : Scope := { kind := .function, names := [(PySem.Str.ofString ".0", .«local»), (PySem.Str.ofString "one", .«local»), (PySem.Str.ofString "other", .«local»)], isGenerator := false, isCoroutine := false, more := [] }
abbrev st__law_corrections : Stmt := topS 27
abbrev Nm__law_corrections : List Str := ["cup", "many", "found", "known", "turn", "first", "last"]
theorem sc__law_corrections : FnScope Nm__law_corrections ["cup", "many"] (defScope st__law_corrections) := ⟨rfl, rfl, rfl, by decide +kernel, rfl, by decide +kernel, by decide +kernel⟩
abbrev st_need_corrections : Stmt := topS 14
abbrev Nm_need_corrections : List Str := ["value"]
theorem sc_need_corrections : FnScope Nm_need_corrections ["value"] (defScope st_need_corrections) := ⟨rfl, rfl, rfl, by decide +kernel, rfl, by decide +kernel, by decide +kernel⟩
abbrev st_known_at : Stmt := topS 15
abbrev Nm_known_at : List Str := ["corrections", "time", "hour", "found", "known", "first", "last", "value"]
theorem sc_known_at : FnScope Nm_known_at ["corrections", "time", "hour"] (defScope st_known_at) := ⟨rfl, rfl, rfl, by decide +kernel, rfl, by decide +kernel, by decide +kernel⟩
abbrev st_known_table : Stmt := topS 18
abbrev Nm_known_table : List Str := ["corrections"]
theorem sc_known_table : FnScope Nm_known_table ["corrections"] (defScope st_known_table) := ⟨rfl, rfl, rfl, by decide +kernel, rfl, by decide +kernel, by decide +kernel⟩
abbrev st_needless : Stmt := topS 19
abbrev Nm_needless : List Str := ["corrections", "due", "found", "at"]
theorem sc_needless : FnScope Nm_needless ["corrections"] (defScope st_needless) := ⟨rfl, rfl, rfl, by decide +kernel, rfl, by decide +kernel, by decide +kernel⟩
abbrev st__law_right : Stmt := topS 31
abbrev Nm__law_right : List Str := ["cup", "corrections", "is_short", "table", "turn", "time", "hour", "due", "one", "at"]
theorem sc__law_right : FnScope Nm__law_right ["cup", "corrections", "is_short"] (defScope st__law_right) := ⟨rfl, rfl, rfl, by decide +kernel, rfl, by decide +kernel, by decide +kernel⟩
def cs__law_right_0 : Scope := { kind := .function, names := [(PySem.Str.ofString ".0", .«local»), (PySem.Str.ofString "one", .«local»)], isGenerator := false, isCoroutine := false, more := [] }
def cs__law_right_1 : Scope := { kind := .function, names := [(PySem.Str.ofString ".0", .«local»), (PySem.Str.ofString "one", .«local»), (PySem.Str.ofString "max", .globalImplicit)], isGenerator := false, isCoroutine := false, more := [] }
def cs__law_right_2 : Scope := { kind := .function, names := [(PySem.Str.ofString ".0", .«local»), (PySem.Str.ofString "one", .«local»)], isGenerator := false, isCoroutine := false, more := [] }
def cs__law_right_3 : Scope := { kind := .function, names := [(PySem.Str.ofString ".0", .«local»), (PySem.Str.ofString "one", .«local»)], isGenerator := false, isCoroutine := false, more := [] }
def cs__law_right_4 : Scope := { kind := .function, names := [(PySem.Str.ofString ".0", .«local»), (PySem.Str.ofString "at", .«local»), (PySem.Str.ofString "_law_table", .globalImplicit), (PySem.Str.ofString "corrections", .free), (PySem.Str.ofString "table", .free)], isGenerator := false, isCoroutine := false, more := [] }
abbrev st__law_great_right : Stmt := topS 32
abbrev Nm__law_great_right : List Str := ["cup", "at", "steps", "twice", "table", "turn", "hour"]
theorem sc__law_great_right : FnScope Nm__law_great_right ["cup"] (defScope st__law_great_right) := ⟨rfl, rfl, rfl, by decide +kernel, rfl, by decide +kernel, by decide +kernel⟩
def cs__law_great_right_0 : Scope := { kind := .function, names := [(PySem.Str.ofString ".0", .«local»), (PySem.Str.ofString "turn", .«local»), (PySem.Str.ofString "int", .globalImplicit)], isGenerator := false, isCoroutine := false, more := [] }
def cs__law_great_right_1 : Scope := { kind := .function, names := [(PySem.Str.ofString ".0", .«local»), (PySem.Str.ofString "turn", .«local»), (PySem.Str.ofString "int", .globalImplicit)], isGenerator := false, isCoroutine := false, more := [] }
def cs__law_great_right_2 : Scope := { kind := .function, names := [(PySem.Str.ofString ".0", .«local»), (PySem.Str.ofString "hour", .«local»), (PySem.Str.ofString "int", .globalImplicit)], isGenerator := false, isCoroutine := false, more := [] }
def cs__law_great_right_3 : Scope := { kind := .function, names := [(PySem.Str.ofString ".0", .«local»), (PySem.Str.ofString "turn", .«local»), (PySem.Str.ofString "int", .globalImplicit)], isGenerator := false, isCoroutine := false, more := [] }
abbrev st__law_errors_right : Stmt := topS 33
abbrev Nm__law_errors_right : List Str := ["odds", "odd", "words", "good", "one", "call"]
theorem sc__law_errors_right : FnScope Nm__law_errors_right [] (defScope st__law_errors_right) := ⟨rfl, rfl, rfl, by decide +kernel, rfl, by decide +kernel, by decide +kernel⟩
def cs__law_errors_right_0 : Scope := { kind := .function, names := [(PySem.Str.ofString ".0", .«local»), (PySem.Str.ofString "odd", .«local»), (PySem.Str.ofString "are_corrections", .globalImplicit)], isGenerator := false, isCoroutine := false, more := [] }
def cs__law_errors_right_1 : Scope := { kind := .function, names := [(PySem.Str.ofString ".0", .«local»), (PySem.Str.ofString "one", .«local»), (PySem.Str.ofString "are_corrections", .globalImplicit)], isGenerator := false, isCoroutine := false, more := [] }
def cs__law_errors_right_2 : Scope := { kind := .function, names := [(PySem.Str.ofString ".0", .«local»), (PySem.Str.ofString "call", .cell), (PySem.Str.ofString "_law_error", .globalImplicit), (PySem.Str.ofString "odd", .free)], isGenerator := false, isCoroutine := false, more := [] }
def cs__law_errors_right_3 : Scope := { kind := .function, names := [(PySem.Str.ofString "call", .free), (PySem.Str.ofString "odd", .free)], isGenerator := false, isCoroutine := false, more := [] }
def cs__law_errors_right_4 : Scope := { kind := .function, names := [(PySem.Str.ofString "odd", .free), (PySem.Str.ofString "known_at", .globalImplicit)], isGenerator := false, isCoroutine := false, more := [] }
def cs__law_errors_right_5 : Scope := { kind := .function, names := [(PySem.Str.ofString "odd", .free), (PySem.Str.ofString "known_at", .globalImplicit)], isGenerator := false, isCoroutine := false, more := [] }
def cs__law_errors_right_6 : Scope := { kind := .function, names := [(PySem.Str.ofString ".0", .«local»), (PySem.Str.ofString "odd", .cell), (PySem.Str.ofString "_law_error", .globalImplicit), (PySem.Str.ofString "good", .free)], isGenerator := false, isCoroutine := false, more := [] }
def cs__law_errors_right_7 : Scope := { kind := .function, names := [(PySem.Str.ofString "good", .free), (PySem.Str.ofString "odd", .free), (PySem.Str.ofString "known_at", .globalImplicit)], isGenerator := false, isCoroutine := false, more := [] }
def cs__law_errors_right_8 : Scope := { kind := .function, names := [(PySem.Str.ofString ".0", .«local»), (PySem.Str.ofString "odd", .cell), (PySem.Str.ofString "_law_error", .globalImplicit), (PySem.Str.ofString "good", .free)], isGenerator := false, isCoroutine := false, more := [] }
def cs__law_errors_right_9 : Scope := { kind := .function, names := [(PySem.Str.ofString "good", .free), (PySem.Str.ofString "odd", .free), (PySem.Str.ofString "known_at", .globalImplicit)], isGenerator := false, isCoroutine := false, more := [] }
abbrev st_law : Stmt := topS 34
abbrev Nm_law : List Str := ["script", "cup", "turn", "some", "told", "due"]
theorem sc_law : FnScope Nm_law ["script"] (defScope st_law) := ⟨rfl, rfl, rfl, by decide +kernel, rfl, by decide +kernel, by decide +kernel⟩
def zp (TT : List (Addr × Str)) : Zp := ⟨TT, fun k => (["is_whole", "need_whole", "is_tuple_of", "is_correction", "are_corrections", "need_corrections", "known_at", "stretches_of", "table_in", "known_table", "needless", "_law_cup", "_law_roll", "_law_some", "_law_sort", "_law_like", "_law_error", "_law_corrections", "_law_hours", "_law_stretches", "_law_table", "_law_right", "_law_great_right", "_law_errors_right", "law"] : List Str).getD k Str.empty, fun k => (["InvalidNumber", "InvalidCorrections", "HallError"] : List Str).getD k Str.empty, fun _ => Str.empty, none⟩
structure Tp (K : PySem.W.Frag) (mg : Str → Option Value) : Prop where
  n__ : True
  n_abs : mg "abs" = none
  n_all : mg "all" = none
  n_bool : mg "bool" = none
  n_enumerate : mg "enumerate" = none
  n_int : mg "int" = none
  n_isinstance : mg "isinstance" = none
  n_len : mg "len" = none
  n_list : mg "list" = none
  n_max : mg "max" = none
  n_min : mg "min" = none
  n_range : mg "range" = none
  n_set : mg "set" = none
  n_sorted : mg "sorted" = none
  n_str : mg "str" = none
  n_tuple : mg "tuple" = none
  n_zip : mg "zip" = none
  y_HallError : ∃ C : Addr, mg "HallError" = some (.ref C)
  x_InvalidCorrections : ∃ C, Xc K mg "InvalidCorrections" C
  x_InvalidNumber : ∃ C, Xc K mg "InvalidNumber" C
  k_HOURS : ∃ u, mg "HOURS" = some u ∧ RelV (.int 100) u
  k_MANY : ∃ u, mg "MANY" = some u ∧ RelV (.int 60) u
  k_TIME : ∃ u, mg "TIME" = some u ∧ RelV (.int 1000) u
structure Df (K : PySem.W.Frag) (mg : Str → Option Value) : Prop where
  d_is_whole : ∃ (f : Addr) (fd : FuncData), mg "is_whole" = some (.ref f) ∧ L2.Fun K "is_whole" "is_whole" st_is_whole f fd ∧ L2.Binds K fd ["value", "low", "high"] []
  d_is_tuple_of : ∃ (f : Addr) (fd : FuncData), mg "is_tuple_of" = some (.ref f) ∧ L2.Fun K "is_tuple_of" "is_tuple_of" st_is_tuple_of f fd ∧ L2.Binds K fd ["value", "low", "high"] []
  d_stretches_of : ∃ (f : Addr) (fd : FuncData), mg "stretches_of" = some (.ref f) ∧ L2.Fun K "stretches_of" "stretches_of" st_stretches_of f fd ∧ L2.Binds K fd ["hours"] []
  d__law_cup : ∃ (f : Addr) (fd : FuncData), mg "_law_cup" = some (.ref f) ∧ L2.Fun K "_law_cup" "_law_cup" st__law_cup f fd ∧ L2.Binds K fd ["script"] []
  d__law_roll : ∃ (f : Addr) (fd : FuncData), mg "_law_roll" = some (.ref f) ∧ L2.Fun K "_law_roll" "_law_roll" st__law_roll f fd ∧ L2.Binds K fd ["cup", "many"] []
  d__law_sort : ∃ (f : Addr) (fd : FuncData), mg "_law_sort" = some (.ref f) ∧ L2.Fun K "_law_sort" "_law_sort" st__law_sort f fd ∧ L2.Binds K fd ["value"] []
  d__law_error : ∃ (f : Addr) (fd : FuncData), mg "_law_error" = some (.ref f) ∧ L2.Fun K "_law_error" "_law_error" st__law_error f fd ∧ L2.Binds K fd ["call"] []
  d__law_hours : ∃ (f : Addr) (fd : FuncData), mg "_law_hours" = some (.ref f) ∧ L2.Fun K "_law_hours" "_law_hours" st__law_hours f fd ∧ L2.Binds K fd ["corrections", "time"] []
  d__law_stretches : ∃ (f : Addr) (fd : FuncData), mg "_law_stretches" = some (.ref f) ∧ L2.Fun K "_law_stretches" "_law_stretches" st__law_stretches f fd ∧ L2.Binds K fd ["hours"] []
  d_need_whole : ∃ (f : Addr) (fd : FuncData), mg "need_whole" = some (.ref f) ∧ L2.Fun K "need_whole" "need_whole" st_need_whole f fd ∧ L2.Binds K fd ["value", "low", "high"] []
  d_is_correction : ∃ (f : Addr) (fd : FuncData), mg "is_correction" = some (.ref f) ∧ L2.Fun K "is_correction" "is_correction" st_is_correction f fd ∧ L2.Binds K fd ["value"] []
  d_table_in : ∃ (f : Addr) (fd : FuncData), mg "table_in" = some (.ref f) ∧ L2.Fun K "table_in" "table_in" st_table_in f fd ∧ L2.Binds K fd ["corrections"] []
  d__law_some : ∃ (f : Addr) (fd : FuncData), mg "_law_some" = some (.ref f) ∧ L2.Fun K "_law_some" "_law_some" st__law_some f fd ∧ L2.Binds K fd ["cup", "things"] []
  d__law_like : ∃ (f : Addr) (fd : FuncData), mg "_law_like" = some (.ref f) ∧ L2.Fun K "_law_like" "_law_like" st__law_like f fd ∧ L2.Binds K fd ["one", "other"] []
  d__law_table : ∃ (f : Addr) (fd : FuncData), mg "_law_table" = some (.ref f) ∧ L2.Fun K "_law_table" "_law_table" st__law_table f fd ∧ L2.Binds K fd ["corrections"] []
  d_are_corrections : ∃ (f : Addr) (fd : FuncData), mg "are_corrections" = some (.ref f) ∧ L2.Fun K "are_corrections" "are_corrections" st_are_corrections f fd ∧ L2.Binds K fd ["value"] []
  d__law_corrections : ∃ (f : Addr) (fd : FuncData), mg "_law_corrections" = some (.ref f) ∧ L2.Fun K "_law_corrections" "_law_corrections" st__law_corrections f fd ∧ L2.Binds K fd ["cup", "many"] []
  d_need_corrections : ∃ (f : Addr) (fd : FuncData), mg "need_corrections" = some (.ref f) ∧ L2.Fun K "need_corrections" "need_corrections" st_need_corrections f fd ∧ L2.Binds K fd ["value"] []
  d_known_at : ∃ (f : Addr) (fd : FuncData), mg "known_at" = some (.ref f) ∧ L2.Fun K "known_at" "known_at" st_known_at f fd ∧ L2.Binds K fd ["corrections", "time", "hour"] []
  d_known_table : ∃ (f : Addr) (fd : FuncData), mg "known_table" = some (.ref f) ∧ L2.Fun K "known_table" "known_table" st_known_table f fd ∧ L2.Binds K fd ["corrections"] []
  d_needless : ∃ (f : Addr) (fd : FuncData), mg "needless" = some (.ref f) ∧ L2.Fun K "needless" "needless" st_needless f fd ∧ L2.Binds K fd ["corrections"] []
  d__law_right : ∃ (f : Addr) (fd : FuncData), mg "_law_right" = some (.ref f) ∧ L2.Fun K "_law_right" "_law_right" st__law_right f fd ∧ L2.Binds K fd ["cup", "corrections", "is_short"] []
  d__law_great_right : ∃ (f : Addr) (fd : FuncData), mg "_law_great_right" = some (.ref f) ∧ L2.Fun K "_law_great_right" "_law_great_right" st__law_great_right f fd ∧ L2.Binds K fd ["cup"] []
def lamQ (x : Str) (st : Stmt) : Str := (envOfC x (defScope st) 0 0 .none).qual ++ "<lambda>"
structure Lms (base : Heap) (K : PySem.W.Frag) (mg : Str → Option Value) (TT : List (Addr × Str)) : Prop where
  l__ : True
  l__law_errors_right : ∃ (f : Addr) (fd : FuncData) (c Pt : Addr), mg "_law_errors_right" = some (.ref f) ∧ FunC K "_law_errors_right" st__law_errors_right f fd c ∧ L2.Binds K fd [] [] ∧ TabB base mg c Pt ∧ (Pt, lamQ "_law_errors_right" st__law_errors_right) ∈ TT ∧ ∀ p ∈ TT, p.1 = Pt → p.2 = lamQ "_law_errors_right" st__law_errors_right
section
variable {P : Program} {w : World} {K : PySem.W.Frag} {mg : Str → Option Value} {base : Heap} {TT : List (Addr × Str)}
theorem ok_is_whole (T : Tp K mg) (Dd : Df K mg) (S : XcM K mg (zp TT) sub_ 2 3) (Lm : Lms base K mg TT) : FnD P w K mg base (zp TT) 1 "is_whole" 3 sem_is_whole := by
  obtain ⟨f, fd, hm, F, hb⟩ := Dd.d_is_whole
  refine fnD (k := 0) (Nm := Nm_is_whole) F sc_is_whole hm hb rfl (SemLe.refl _ _) (den := den_is_whole) fun cdv A outer s H E N hr => ?_
  exact pssd_one (psd_ret (pd_and (pd_callB cd_isi (by rfl) T.n_isinstance boot_isinstance nm_isinstance.2.2 nm_isinstance.1 (pda_cons (pd_var (i := 0) rfl (.inl rfl) nm_value.1 nm_value.2.1) (pda_cons (pd_ty (by rfl) T.n_int (boot_int) nm_int.2.2 nm_int.1 rfl) (pda_nil)))) (pd_and (pd_notV (pd_callB cd_isi (by rfl) T.n_isinstance boot_isinstance nm_isinstance.2.2 nm_isinstance.1 (pda_cons (pd_var (i := 0) rfl (.inl rfl) nm_value.1 nm_value.2.1) (pda_cons (pd_ty (by rfl) T.n_bool (boot_bool) nm_bool.2.2 nm_bool.1 rfl) (pda_nil))))) (pd_one (pd_chain od_le od_le (pd_var (i := 1) rfl (.inl rfl) nm_low.1 nm_low.2.1) (pd_var (i := 0) rfl (.inl rfl) nm_value.1 nm_value.2.1) (pd_var (i := 2) rfl (.inl rfl) nm_high.1 nm_high.2.1))))))
theorem ok_is_tuple_of (T : Tp K mg) (Dd : Df K mg) (S : XcM K mg (zp TT) sub_ 2 3) (Lm : Lms base K mg TT) : FnD P w K mg base (zp TT) 1 "is_tuple_of" 3 sem_is_tuple_of := by
  obtain ⟨f, fd, hm, F, hb⟩ := Dd.d_is_tuple_of
  refine fnD (k := 0) (Nm := Nm_is_tuple_of) F sc_is_tuple_of hm hb rfl (SemLe.refl _ _) (den := den_is_tuple_of) fun cdv A outer s H E N hr => ?_
  exact pssd_one (psd_ret (pd_and (pd_callB cd_isi (by rfl) T.n_isinstance boot_isinstance nm_isinstance.2.2 nm_isinstance.1 (pda_cons (pd_var (i := 0) rfl (.inl rfl) nm_value.1 nm_value.2.1) (pda_cons (pd_ty (by rfl) T.n_tuple (boot_tuple) nm_tuple.2.2 nm_tuple.1 rfl) (pda_nil)))) (pd_one (pd_chain od_le od_le (pd_var (i := 1) rfl (.inl rfl) nm_low.1 nm_low.2.1) (pd_callB cd_len (by rfl) T.n_len boot_len nm_len.2.2 nm_len.1 (pda_cons (pd_var (i := 0) rfl (.inl rfl) nm_value.1 nm_value.2.1) (pda_nil))) (pd_var (i := 2) rfl (.inl rfl) nm_high.1 nm_high.2.1)))))
theorem ok_stretches_of (T : Tp K mg) (Dd : Df K mg) (S : XcM K mg (zp TT) sub_ 2 3) (Lm : Lms base K mg TT) : FnD P w K mg base (zp TT) 1 "stretches_of" 1 sem_stretches_of := by
  obtain ⟨f, fd, hm, F, hb⟩ := Dd.d_stretches_of
  refine fnD (k := 0) (Nm := Nm_stretches_of) F sc_stretches_of hm hb rfl (SemLe.refl _ _) (den := den_stretches_of) fun cdv A outer s H E N hr => ?_
  exact pssd_cons (psd_own (i := 1) sc_stretches_of.nd rfl (.inl rfl) (pdo_lst (pda_nil)) rfl (.inr rfl)) (
  pssd_cons (psd_for (is := [2, 3]) (passes_of rfl) rfl (pdi_enumA (by rfl) T.n_enumerate (pda_cons (pd_var (i := 0) rfl (.inl rfl) nm_hours.1 nm_hours.2.1) (pda_nil))) (pgd_tup rfl (pgsd_cons (pgd_name (i := 2) sc_stretches_of.nd rfl (.inl rfl) (.inr rfl)) (pgsd_cons (pgd_name (i := 3) sc_stretches_of.nd rfl (.inl rfl) (.inr rfl)) (pgsd_nil))) rfl) (pssd_one (psd_if (pdw_pt (pdw_and (pdt_cmp od_notN (pd_var (i := 3) rfl (.inl rfl) nm_value.1 nm_value.2.1) (pd_non) (nomark _)) (pdw_and (pdt_cmp (od_ne hr.units) (pd_var (i := 1) rfl (.inl rfl) nm_found.1 nm_found.2.1) (pdo_pd (pdo_lst (pda_nil)) dLst_lst) (nomark _)) (pdw_and (pdt_cmp (od_eq hr.units) (pd_ix xd_ix (pd_ix xd_ix (pd_var (i := 1) rfl (.inl rfl) nm_found.1 nm_found.2.1) (pd_un ud_neg (pd_int))) (pd_int)) (pd_bin od_subA (pd_var (i := 2) rfl (.inl rfl) nm_hour.1 nm_hour.2.1) (pd_int)) (nomark _)) (pdw_and1 (pdt_cmp (od_eq hr.units) (pd_ix xd_ix (pd_ix xd_ix (pd_var (i := 1) rfl (.inl rfl) nm_found.1 nm_found.2.1) (pd_un ud_neg (pd_int))) (pd_int)) (pd_var (i := 3) rfl (.inl rfl) nm_value.1 nm_value.2.1) (nomark _))))))) (pssd_one (psd_put (i := 1) rfl (.inl rfl) nm_found.1 nm_found.2.1 (pd_un ud_neg (pd_int)) (pd_tup (pda_cons (pd_ix xd_ix (pd_ix xd_ix (pd_var (i := 1) rfl (.inl rfl) nm_found.1 nm_found.2.1) (pd_un ud_neg (pd_int))) (pd_int)) (pda_cons (pd_var (i := 2) rfl (.inl rfl) nm_hour.1 nm_hour.2.1) (pda_cons (pd_var (i := 3) rfl (.inl rfl) nm_value.1 nm_value.2.1) (pda_nil))))))) (pssd_one (psd_if (pdt_cmp od_notN (pd_var (i := 3) rfl (.inl rfl) nm_value.1 nm_value.2.1) (pd_non) (nomark _)) (pssd_one (psd_app (i := 1) rfl (.inl rfl) nm_found.1 nm_found.2.1 (pda_cons (pd_tup (pda_cons (pd_var (i := 2) rfl (.inl rfl) nm_hour.1 nm_hour.2.1) (pda_cons (pd_var (i := 2) rfl (.inl rfl) nm_hour.1 nm_hour.2.1) (pda_cons (pd_var (i := 3) rfl (.inl rfl) nm_value.1 nm_value.2.1) (pda_nil))))) (pda_nil)))) (pssd_nil)))))) (
  pssd_one (psd_ret (pd_callTy cd_tuple (by rfl) T.n_tuple boot_tuple nm_tuple.2.2 nm_tuple.1 (pda_cons (pd_var (i := 1) rfl (.inl rfl) nm_found.1 nm_found.2.1) (pda_nil))))))
theorem ok__law_cup (T : Tp K mg) {f : Addr} {fd : FuncData} (F : L2.Fun K "_law_cup" "_law_cup" st__law_cup f fd) : FnOk P w K mg base (L2N.CX P w) 1 f fd ["script"] (spCup K) := by
  refine okN F sc__law_cup (fun vs H Q E h => ?_) (fun cdv A outer s H vs Q E hr h => ?_)
  · obtain ⟨a, ns, rfl, _⟩ := h
    rfl
  · obtain ⟨a, ns, rfl, hS, hlen, q⟩ := h
    refine ⟨_, pss_cons (ps_set (i := 1) sc__law_cup.nd rfl (.inl rfl) (pe_callB call_abs (by rfl) T.n_abs boot_abs (pa_cons (pe_ix ix_list (pe_op op_cat (pe_callTy call_list_of (by rfl) T.n_list boot_list (pa_cons (pe_var (i := 0) rfl (.inl rfl)) pa_nil)) (pe_lst (pa_cons pe_int pa_nil))) pe_int (fun _ _ => rfl)) pa_nil)))
      (pss_one (ps_ret (pe_lst (pa_cons (pe_ifExp (pt_cmpR op_ge (pe_var (i := 1) rfl (.inl rfl)) (pe_op op_pow pe_int pe_int) (nomark _)) (pe_op op_fdiv (pe_var (i := 1) rfl (.inl rfl)) pe_int) pe_int)
        (pa_cons (pe_op op_add (pe_op op_mod (pe_callTy call_int1 (by rfl) T.n_int boot_int (pa_cons (pe_op op_add (pe_op op_mul (pe_var (i := 1) rfl (.inl rfl)) pe_int) pe_int) pa_nil)) pe_int) pe_int) pa_nil))))), ?_⟩
    exact cup_made hS hlen q
theorem ok__law_roll (T : Tp K mg) (Dd : Df K mg) (S : XcM K mg (zp TT) sub_ 2 3) (Lm : Lms base K mg TT) : FnD P w K mg base (zp TT) 1 "_law_roll" 2 sem__law_roll := by
  obtain ⟨f, fd, hm, F, hb⟩ := Dd.d__law_roll
  refine fnD (k := 0) (Nm := Nm__law_roll) F sc__law_roll hm hb rfl (SemLe.refl _ _) (den := den__law_roll) fun cdv A outer s H E N hr => ?_
  exact pssd_cons (psd_if (pdt_cmp od_gt (pd_cup (i := 0) (k := 0) rfl (.inl rfl) nm_cup.1 nm_cup.2.1 (by decide)) (pd_int) (nomark _)) (pssd_cons (psd_set (i := 2) sc__law_roll.nd rfl (.inl rfl) (pd_bin od_mod (pd_callTy cd_int (by rfl) T.n_int boot_int nm_int.2.2 nm_int.1 (pda_cons (pd_cup (i := 0) (k := 0) rfl (.inl rfl) nm_cup.1 nm_cup.2.1 (by decide)) (pda_nil))) (pd_var (i := 1) rfl (.inl rfl) nm_many.1 nm_many.2.1)) rfl (.inr rfl)) (
  pssd_cons (psd_cup (i := 0) (k := 0) rfl (.inl rfl) nm_cup.1 nm_cup.2.1 (by decide) (pd_bin od_fdiv (pd_cup (i := 0) (k := 0) rfl (.inl rfl) nm_cup.1 nm_cup.2.1 (by decide)) (pd_var (i := 1) rfl (.inl rfl) nm_many.1 nm_many.2.1))) (
  pssd_one (psd_ret (pd_var (i := 2) rfl (.inl rfl) nm_found.1 nm_found.2.1))))) (pssd_nil)) (
  pssd_cons (psd_cup (i := 0) (k := 1) rfl (.inl rfl) nm_cup.1 nm_cup.2.1 (by decide) (pd_bin od_mod (pd_callTy cd_int (by rfl) T.n_int boot_int nm_int.2.2 nm_int.1 (pda_cons (pd_bin od_addA (pd_bin od_mulA (pd_cup (i := 0) (k := 1) rfl (.inl rfl) nm_cup.1 nm_cup.2.1 (by decide)) (pd_int)) (pd_int)) (pda_nil))) (pd_int))) (
  pssd_cons (psd_set (i := 3) sc__law_roll.nd rfl (.inl rfl) (pd_bin od_mod (pd_callTy cd_int (by rfl) T.n_int boot_int nm_int.2.2 nm_int.1 (pda_cons (pd_bin od_mulA (pd_cup (i := 0) (k := 1) rfl (.inl rfl) nm_cup.1 nm_cup.2.1 (by decide)) (pd_bin od_addA (pd_cup (i := 0) (k := 1) rfl (.inl rfl) nm_cup.1 nm_cup.2.1 (by decide)) (pd_int))) (pda_nil))) (pd_int)) rfl (.inr rfl)) (
  pssd_one (psd_ret (pd_bin od_mod (pd_callTy cd_int (by rfl) T.n_int boot_int nm_int.2.2 nm_int.1 (pda_cons (pd_bin od_fdiv (pd_var (i := 3) rfl (.inl rfl) nm_deep.1 nm_deep.2.1) (pd_int)) (pda_nil))) (pd_var (i := 1) rfl (.inl rfl) nm_many.1 nm_many.2.1))))))
theorem ok__law_sort (T : Tp K mg) (Dd : Df K mg) (S : XcM K mg (zp TT) sub_ 2 3) (Lm : Lms base K mg TT) : FnD P w K mg base (zp TT) 1 "_law_sort" 1 sem__law_sort := by
  obtain ⟨f, fd, hm, F, hb⟩ := Dd.d__law_sort
  refine fnD (k := 0) (Nm := Nm__law_sort) F sc__law_sort hm hb rfl (SemLe.refl _ _) (den := den__law_sort) fun cdv A outer s H E N hr => ?_
  exact pssd_cons (psd_if (pdw_pt (pdw_or (pdt_cmp od_isN (pd_var (i := 0) rfl (.inl rfl) nm_value.1 nm_value.2.1) (pd_non) (nomark _)) (pdw_or1 (pdt_e (pd_callB cd_isi (by rfl) T.n_isinstance boot_isinstance nm_isinstance.2.2 nm_isinstance.1 (pda_cons (pd_var (i := 0) rfl (.inl rfl) nm_value.1 nm_value.2.1) (pda_cons (pd_ty (by rfl) T.n_bool (boot_bool) nm_bool.2.2 nm_bool.1 rfl) (pda_nil)))))))) (pssd_one (psd_ret (pd_if (pdt_cmp od_isN (pd_var (i := 0) rfl (.inl rfl) nm_value.1 nm_value.2.1) (pd_non) (nomark _)) (pd_int) (pd_int)))) (pssd_nil)) (
  pssd_cons (psd_if (pdw_pt (pdw_or (pdt_e (pd_callB cd_isi (by rfl) T.n_isinstance boot_isinstance nm_isinstance.2.2 nm_isinstance.1 (pda_cons (pd_var (i := 0) rfl (.inl rfl) nm_value.1 nm_value.2.1) (pda_cons (pd_ty (by rfl) T.n_int (boot_int) nm_int.2.2 nm_int.1 rfl) (pda_nil))))) (pdw_or1 (pdt_e (pd_callB cd_isi (by rfl) T.n_isinstance boot_isinstance nm_isinstance.2.2 nm_isinstance.1 (pda_cons (pd_var (i := 0) rfl (.inl rfl) nm_value.1 nm_value.2.1) (pda_cons (pd_ty (by rfl) T.n_str (boot_str) nm_str.2.2 nm_str.1 rfl) (pda_nil)))))))) (pssd_one (psd_ret (pd_if (pdt_e (pd_callB cd_isi (by rfl) T.n_isinstance boot_isinstance nm_isinstance.2.2 nm_isinstance.1 (pda_cons (pd_var (i := 0) rfl (.inl rfl) nm_value.1 nm_value.2.1) (pda_cons (pd_ty (by rfl) T.n_int (boot_int) nm_int.2.2 nm_int.1 rfl) (pda_nil))))) (pd_int) (pd_int)))) (pssd_nil)) (
  pssd_one (psd_ret (pd_if (pdt_e (pd_callB cd_isi (by rfl) T.n_isinstance boot_isinstance nm_isinstance.2.2 nm_isinstance.1 (pda_cons (pd_var (i := 0) rfl (.inl rfl) nm_value.1 nm_value.2.1) (pda_cons (pd_ty (by rfl) T.n_tuple (boot_tuple) nm_tuple.2.2 nm_tuple.1 rfl) (pda_nil))))) (pd_int) (pd_if (pdt_e (pd_callB cd_isi (by rfl) T.n_isinstance boot_isinstance nm_isinstance.2.2 nm_isinstance.1 (pda_cons (pd_var (i := 0) rfl (.inl rfl) nm_value.1 nm_value.2.1) (pda_cons (pd_ty (by rfl) T.n_list (boot_list) nm_list.2.2 nm_list.1 rfl) (pda_nil))))) (pd_int) (pd_int))))))
theorem get__law_error (T : Tp K mg) (Dd : Df K mg) (S : XcM K mg (zp TT) sub_ 2 3) (Lm : Lms base K mg TT) : GetD K mg (zp TT) "_law_error" "call" sem__law_error := by
  obtain ⟨g, fd, hm, F, hb⟩ := Dd.d__law_error
  obtain ⟨oc, od, kV, doc, pm, an, cdv, ct, osl, rfl, lk, hcd⟩ := F.ex
  obtain ⟨C_HallError, y_HallError⟩ := T.y_HallError
  obtain ⟨C_InvalidCorrections, x_InvalidCorrections⟩ := T.x_InvalidCorrections
  obtain ⟨C_InvalidNumber, x_InvalidNumber⟩ := T.x_InvalidNumber
  refine ⟨g, _, _, _, _, kV, doc, pm, cdv, ct, oc, an, od, osl, Nm__law_error, hm, F.kp, lk, hcd, hb, sc__law_error, rfl, .inl rfl, fun X hK hmg q => ?_⟩
  subst hK hmg
  exact gets_try (n := 5) (ie := 1) (fun _ => rfl) (fun _ => rfl) sc__law_error.nd rfl (by decide) (fun _ _ => rfl) (fun _ _ => rfl) nm_HallError.1 y_HallError (catch_ofM S (by decide) y_HallError fun k hk => sub_lt k _ hk)
    (fun N s H a C oe pn x_ hx hC zn hf room => by
      have hlt := sub_lt _ _ hx
      exact pssd_cons (psd_set (i := 2) sc__law_error.nd rfl (.inl rfl) (pdo_pd (pdo_lst (pda_cons (pd_tup (pda_cons (pd_str) (pda_cons (pd_isxM (i := 1) (k := 1) S hlt (by decide) hC zn hf (by rfl) T.n_isinstance rfl (.inl rfl) nm_e.1 nm_e.2.1 (by rfl) x_InvalidCorrections.gm rfl nm_InvalidCorrections.1) (pda_nil)))) (pda_cons (pd_tup (pda_cons (pd_str) (pda_cons (pd_isxM (i := 1) (k := 0) S hlt (by decide) hC zn hf (by rfl) T.n_isinstance rfl (.inl rfl) nm_e.1 nm_e.2.1 (by rfl) x_InvalidNumber.gm rfl nm_InvalidNumber.1) (pda_nil)))) (pda_nil)))) dLst_lst) rfl (.inr rfl)) (
  pssd_one (psd_ret (pd_bin od_addA (pd_join (pda_cons (pdo_pd (pdoX_lc (own := [("word", 3), ("good", 4)]) (is := [3, 4]) (hot_suite zn hf) sc__law_error.nd (pix_lst (pd_var (i := 2) rfl (.inl rfl) nm_some.1 nm_some.2.1)) (blkOk_by (N := Nm__law_error) (sc := (defScope st__law_error)) (by decide +kernel)) (fun s H C cl fp HB => pgd_tupX HB (pgsd_cons (pgd_name (i := 3) sc__law_error.nd rfl (.inl rfl) (.inr rfl)) (pgsd_cons (pgd_name (i := 4) sc__law_error.nd rfl (.inl rfl) (.inr rfl)) (pgsd_nil))) rfl) (fun s H C cl fp HB => pts_one (pdt_e (pd_var (i := 4) rfl (.inl rfl) nm_good.1 nm_good.2.1))) (fun s H C cl fp HB => pd_var (i := 3) rfl (.inl rfl) nm_word.1 nm_word.2.1) (by decide)) dComp_lst) (pda_nil))) (pd_str)))))
    (fun N s H => pssd_one (psd_ret (pd_str)))
theorem ok__law_hours (T : Tp K mg) (Dd : Df K mg) (S : XcM K mg (zp TT) sub_ 2 3) (Lm : Lms base K mg TT) : FnD P w K mg base (zp TT) 1 "_law_hours" 2 sem__law_hours := by
  obtain ⟨f, fd, hm, F, hb⟩ := Dd.d__law_hours
  refine fnD (k := 0) (Nm := Nm__law_hours) F sc__law_hours hm hb rfl (SemLe.refl _ _) (den := den__law_hours) fun cdv A outer s H E N hr => ?_
  exact pssd_cons (psd_own (i := 2) sc__law_hours.nd rfl (.inl rfl) (pdo_bin odo_rep (pdo_pd (pdo_lst (pda_cons (pd_non) (pda_nil))) dLst_lst) (pd_int)) rfl (.inr rfl)) (
  pssd_cons (psd_for (is := [3, 4, 5, 6]) (passes_of rfl) rfl (pdi_seq (pd_var (i := 0) rfl (.inl rfl) nm_corrections.1 nm_corrections.2.1)) (pgd_tup rfl (pgsd_cons (pgd_name (i := 3) sc__law_hours.nd rfl (.inl rfl) (.inr rfl)) (pgsd_cons (pgd_name (i := 4) sc__law_hours.nd rfl (.inl rfl) (.inr rfl)) (pgsd_cons (pgd_name (i := 5) sc__law_hours.nd rfl (.inl rfl) (.inr rfl)) (pgsd_cons (pgd_name (i := 6) sc__law_hours.nd rfl (.inl rfl) (.inr rfl)) (pgsd_nil))))) rfl) (pssd_one (psd_for (is := [7]) (passes_of rfl) rfl (pdi_rng2 (by rfl) T.n_range (pda_cons (pd_var (i := 4) rfl (.inl rfl) nm_first.1 nm_first.2.1) (pda_cons (pd_bin od_addA (pd_var (i := 5) rfl (.inl rfl) nm_last.1 nm_last.2.1) (pd_int)) (pda_nil)))) (pgd_name (i := 7) sc__law_hours.nd rfl (.inl rfl) (.inr rfl)) (pssd_one (psd_put (i := 2) rfl (.inl rfl) nm_found.1 nm_found.2.1 (pd_var (i := 7) rfl (.inl rfl) nm_hour.1 nm_hour.2.1) (pd_if (pdt_cmp od_le (pd_var (i := 3) rfl (.inl rfl) nm_known.1 nm_known.2.1) (pd_var (i := 1) rfl (.inl rfl) nm_time.1 nm_time.2.1) (nomark _)) (pd_var (i := 6) rfl (.inl rfl) nm_value.1 nm_value.2.1) (pd_ix xd_ix (pd_var (i := 2) rfl (.inl rfl) nm_found.1 nm_found.2.1) (pd_var (i := 7) rfl (.inl rfl) nm_hour.1 nm_hour.2.1)))))))) (
  pssd_one (psd_ret (pd_var (i := 2) rfl (.inl rfl) nm_found.1 nm_found.2.1))))
theorem ok__law_stretches (T : Tp K mg) (Dd : Df K mg) (S : XcM K mg (zp TT) sub_ 2 3) (Lm : Lms base K mg TT) : FnD P w K mg base (zp TT) 1 "_law_stretches" 1 sem__law_stretches := by
  obtain ⟨f, fd, hm, F, hb⟩ := Dd.d__law_stretches
  refine fnD (k := 0) (Nm := Nm__law_stretches) F sc__law_stretches hm hb rfl (SemLe.refl _ _) (den := den__law_stretches) fun cdv A outer s H E N hr => ?_
  exact pssd_cons (psd_own (i := 1) sc__law_stretches.nd rfl (.inl rfl) (pdo_lst (pda_nil)) rfl (.inr rfl)) (
  pssd_cons (psd_for (is := [2, 3]) (passes_of rfl) rfl (pdi_enumA (by rfl) T.n_enumerate (pda_cons (pd_var (i := 0) rfl (.inr (.inl rfl)) nm_hours.1 nm_hours.2.1) (pda_nil))) (pgd_tup rfl (pgsd_cons (pgd_name (i := 2) sc__law_stretches.nd rfl (.inr rfl) (.inl rfl)) (pgsd_cons (pgd_name (i := 3) sc__law_stretches.nd rfl (.inr rfl) (.inl rfl)) (pgsd_nil))) rfl) (pssd_one (psd_if (pdw_pt (pdw_and (pdt_cmp od_notN (pd_var (i := 3) rfl (.inr (.inl rfl)) nm_value.1 nm_value.2.1) (pd_non) (nomark _)) (pdw_and1 (pdw_pt (pdw_or (pdt_cmp (od_eq hr.units) (pd_var (i := 2) rfl (.inr (.inl rfl)) nm_hour.1 nm_hour.2.1) (pd_int) (nomark _)) (pdw_or1 (pdt_cmp (od_ne hr.units) (pd_ix xd_ix (pd_var (i := 0) rfl (.inr (.inl rfl)) nm_hours.1 nm_hours.2.1) (pd_bin od_subA (pd_var (i := 2) rfl (.inr (.inl rfl)) nm_hour.1 nm_hour.2.1) (pd_int))) (pd_var (i := 3) rfl (.inr (.inl rfl)) nm_value.1 nm_value.2.1) (nomark _)))))))) (pssd_cons (psd_set (i := 4) sc__law_stretches.nd rfl (.inl rfl) (pd_callB cd_len (by rfl) T.n_len boot_len nm_len.2.2 nm_len.1 (pda_cons (pdo_pd (pdo_lc (own := [("more", 5)]) (is := [5]) rfl sc__law_stretches.nd (pdi_rng2 (by rfl) T.n_range (pda_cons (pd_var (i := 2) rfl (.inr (.inl rfl)) nm_hour.1 nm_hour.2.1) (pda_cons (pd_int) (pda_nil)))) (blkOk_by (N := Nm__law_stretches) (sc := (defScope st__law_stretches)) (by decide +kernel)) (fun s H C cl fp => pgd_name (i := 5) sc__law_stretches.nd rfl (.inl rfl) (.inr rfl)) (fun s H C cl fp => pts_one (pdt_cmp (od_eq hr.units) (pd_sl sd_any (pd_var (i := 0) rfl (by first | exact .inr (.inl rfl) | exact .inr (.inr rfl)) nm_hours.1 nm_hours.2.1) (pdp_some (pd_var (i := 2) rfl (by first | exact .inr (.inl rfl) | exact .inr (.inr rfl)) nm_hour.1 nm_hour.2.1)) (pdp_some (pd_bin od_addA (pd_var (i := 5) rfl (.inl rfl) nm_more.1 nm_more.2.1) (pd_int)))) (pd_bin od_mulA (pdo_pd (pdo_lst (pda_cons (pd_var (i := 3) rfl (by first | exact .inr (.inl rfl) | exact .inr (.inr rfl)) nm_value.1 nm_value.2.1) (pda_nil))) dLst_lst) (pd_bin od_subA (pd_bin od_addA (pd_var (i := 5) rfl (.inl rfl) nm_more.1 nm_more.2.1) (pd_int)) (pd_var (i := 2) rfl (by first | exact .inr (.inl rfl) | exact .inr (.inr rfl)) nm_hour.1 nm_hour.2.1))) (nomark _))) (fun s H C cl fp => pd_int) (by decide)) dComp_lst) (pda_nil))) rfl (.inr rfl)) (
  pssd_one (psd_app (i := 1) rfl (.inl rfl) nm_found.1 nm_found.2.1 (pda_cons (pd_tup (pda_cons (pd_var (i := 2) rfl (.inr (.inl rfl)) nm_hour.1 nm_hour.2.1) (pda_cons (pd_bin od_subA (pd_bin od_addA (pd_var (i := 2) rfl (.inr (.inl rfl)) nm_hour.1 nm_hour.2.1) (pd_var (i := 4) rfl (.inl rfl) nm_length.1 nm_length.2.1)) (pd_int)) (pda_cons (pd_var (i := 3) rfl (.inr (.inl rfl)) nm_value.1 nm_value.2.1) (pda_nil))))) (pda_nil))))) (pssd_nil)))) (
  pssd_one (psd_ret (pd_callTy cd_tuple (by rfl) T.n_tuple boot_tuple nm_tuple.2.2 nm_tuple.1 (pda_cons (pd_var (i := 1) rfl (.inl rfl) nm_found.1 nm_found.2.1) (pda_nil))))))
theorem ok_need_whole (T : Tp K mg) (Dd : Df K mg) (S : XcM K mg (zp TT) sub_ 2 3) (Lm : Lms base K mg TT) : FnD P w K mg base (zp TT) 2 "need_whole" 3 sem_need_whole := by
  obtain ⟨f, fd, hm, F, hb⟩ := Dd.d_need_whole
  refine fnD (k := 1) (Nm := Nm_need_whole) F sc_need_whole hm hb rfl (SemLe.refl _ _) (den := den_need_whole) fun cdv A outer s H E N hr => ?_
  exact pssd_one (psd_if (pdt_not (pdt_e (pd_call (ok_is_whole T Dd S Lm) (hr.mono (by decide)) (by rfl) (L2N.takes_of rfl rfl rfl rfl) (pda_cons (pd_var (i := 0) rfl (.inl rfl) nm_value.1 nm_value.2.1) (pda_cons (pd_var (i := 1) rfl (.inl rfl) nm_low.1 nm_low.2.1) (pda_cons (pd_var (i := 2) rfl (.inl rfl) nm_high.1 nm_high.2.1) (pda_nil)))) rfl nm_is_whole.1))) (pssd_one ((T.x_InvalidNumber).elim fun _ z => psd_raise rfl (L2N.takes_of rfl rfl rfl rfl) z (by rfl) rfl nm_InvalidNumber.1)) (pssd_nil))
theorem ok_is_correction (T : Tp K mg) (Dd : Df K mg) (S : XcM K mg (zp TT) sub_ 2 3) (Lm : Lms base K mg TT) : FnD P w K mg base (zp TT) 2 "is_correction" 1 sem_is_correction := by
  obtain ⟨f, fd, hm, F, hb⟩ := Dd.d_is_correction
  refine fnD (k := 1) (Nm := Nm_is_correction) F sc_is_correction hm hb rfl (SemLe.refl _ _) (den := den_is_correction) fun cdv A outer s H E N hr => ?_
  exact pssd_cons (psd_if (pdw_pt (pdw_or (pdt_not (pdt_e (pd_call (ok_is_tuple_of T Dd S Lm) (hr.mono (by decide)) (by rfl) (L2N.takes_of rfl rfl rfl rfl) (pda_cons (pd_var (i := 0) rfl (.inl rfl) nm_value.1 nm_value.2.1) (pda_cons (pd_int) (pda_cons (pd_int) (pda_nil)))) rfl nm_is_tuple_of.1))) (pdw_or (pdt_not (pdt_e (pd_call (ok_is_whole T Dd S Lm) (hr.mono (by decide)) (by rfl) (L2N.takes_of rfl rfl rfl rfl) (pda_cons (pd_ix xd_ix (pd_var (i := 0) rfl (.inl rfl) nm_value.1 nm_value.2.1) (pd_int)) (pda_cons (pd_int) (pda_cons (pd_gk (by rfl) T.k_TIME (fun _ _ => .int _) nm_TIME.1) (pda_nil)))) rfl nm_is_whole.1))) (pdw_or1 (pdt_not (pdt_e (pd_call (ok_is_whole T Dd S Lm) (hr.mono (by decide)) (by rfl) (L2N.takes_of rfl rfl rfl rfl) (pda_cons (pd_ix xd_ix (pd_var (i := 0) rfl (.inl rfl) nm_value.1 nm_value.2.1) (pd_int)) (pda_cons (pd_int) (pda_cons (pd_bin od_subA (pd_gk (by rfl) T.k_HOURS (fun _ _ => .int _) nm_HOURS.1) (pd_int)) (pda_nil)))) rfl nm_is_whole.1))))))) (pssd_one (psd_ret (pd_bl))) (pssd_nil)) (
  pssd_one (psd_ret (pd_and (pd_call (ok_is_whole T Dd S Lm) (hr.mono (by decide)) (by rfl) (L2N.takes_of rfl rfl rfl rfl) (pda_cons (pd_ix xd_ix (pd_var (i := 0) rfl (.inl rfl) nm_value.1 nm_value.2.1) (pd_int)) (pda_cons (pd_ix xd_ix (pd_var (i := 0) rfl (.inl rfl) nm_value.1 nm_value.2.1) (pd_int)) (pda_cons (pd_bin od_subA (pd_gk (by rfl) T.k_HOURS (fun _ _ => .int _) nm_HOURS.1) (pd_int)) (pda_nil)))) rfl nm_is_whole.1) (pd_one (pd_call (ok_is_whole T Dd S Lm) (hr.mono (by decide)) (by rfl) (L2N.takes_of rfl rfl rfl rfl) (pda_cons (pd_ix xd_ix (pd_var (i := 0) rfl (.inl rfl) nm_value.1 nm_value.2.1) (pd_int)) (pda_cons (pd_int) (pda_cons (pd_int) (pda_nil)))) rfl nm_is_whole.1)))))
theorem ok_table_in (T : Tp K mg) (Dd : Df K mg) (S : XcM K mg (zp TT) sub_ 2 3) (Lm : Lms base K mg TT) : FnD P w K mg base (zp TT) 2 "table_in" 1 sem_table_in := by
  obtain ⟨f, fd, hm, F, hb⟩ := Dd.d_table_in
  refine fnD (k := 1) (Nm := Nm_table_in) F sc_table_in hm hb rfl (SemLe.refl _ _) (den := den_table_in) fun cdv A outer s H E N hr => ?_
  exact pssd_cons (psd_par2 rfl sc_table_in.nd rfl rfl (by decide) rfl rfl (pdm_val (pd_bin od_mulA (pdo_pd (pdo_lst (pda_cons (pd_non) (pda_nil))) dLst_lst) (pd_gk (by rfl) T.k_HOURS (fun _ _ => .int _) nm_HOURS.1)) (pdm_new (pdo_lst (pda_nil)) dLst_lst (pdm_nil))) rfl) (
  pssd_cons (psd_for (is := [3, 4, 5, 6, 7]) (passes_of rfl) rfl (pdi_enumA (by rfl) T.n_enumerate (pda_cons (pd_var (i := 0) rfl (.inl rfl) nm_corrections.1 nm_corrections.2.1) (pda_nil))) (pgd_tup rfl (pgsd_cons (pgd_name (i := 3) sc_table_in.nd rfl (.inl rfl) (.inr rfl)) (pgsd_cons (pgd_tup rfl (pgsd_cons (pgd_name (i := 4) sc_table_in.nd rfl (.inl rfl) (.inr rfl)) (pgsd_cons (pgd_name (i := 5) sc_table_in.nd rfl (.inl rfl) (.inr rfl)) (pgsd_cons (pgd_name (i := 6) sc_table_in.nd rfl (.inl rfl) (.inr rfl)) (pgsd_cons (pgd_name (i := 7) sc_table_in.nd rfl (.inl rfl) (.inr rfl)) (pgsd_nil))))) rfl) (pgsd_nil))) rfl) (pssd_cons (psd_set (i := 1) sc_table_in.nd rfl (.inl rfl) (pd_bin od_addA (pd_bin od_addA (pd_sl sd_any (pd_var (i := 1) rfl (.inl rfl) nm_hours.1 nm_hours.2.1) pdp_none (pdp_some (pd_var (i := 5) rfl (.inl rfl) nm_first.1 nm_first.2.1))) (pd_bin od_mulA (pdo_pd (pdo_lst (pda_cons (pd_var (i := 7) rfl (.inl rfl) nm_value.1 nm_value.2.1) (pda_nil))) dLst_lst) (pd_bin od_subA (pd_bin od_addA (pd_var (i := 6) rfl (.inl rfl) nm_last.1 nm_last.2.1) (pd_int)) (pd_var (i := 5) rfl (.inl rfl) nm_first.1 nm_first.2.1)))) (pd_sl sd_any (pd_var (i := 1) rfl (.inl rfl) nm_hours.1 nm_hours.2.1) (pdp_some (pd_bin od_addA (pd_var (i := 6) rfl (.inl rfl) nm_last.1 nm_last.2.1) (pd_int))) pdp_none)) rfl (.inr rfl)) (
  pssd_one (psd_if (pdw_pt (pdw_or (pdt_cmp (od_eq hr.units) (pd_bin od_addA (pd_var (i := 3) rfl (.inl rfl) nm_at.1 nm_at.2.1) (pd_int)) (pd_callB cd_len (by rfl) T.n_len boot_len nm_len.2.2 nm_len.1 (pda_cons (pd_var (i := 0) rfl (.inl rfl) nm_corrections.1 nm_corrections.2.1) (pda_nil))) (nomark _)) (pdw_or1 (pdt_cmp od_gt (pd_ix xd_ix (pd_ix xd_ix (pd_var (i := 0) rfl (.inl rfl) nm_corrections.1 nm_corrections.2.1) (pd_bin od_addA (pd_var (i := 3) rfl (.inl rfl) nm_at.1 nm_at.2.1) (pd_int))) (pd_int)) (pd_var (i := 4) rfl (.inl rfl) nm_known.1 nm_known.2.1) (nomark _))))) (pssd_cons (psd_set (i := 8) sc_table_in.nd rfl (.inl rfl) (pd_call (ok_stretches_of T Dd S Lm) (hr.mono (by decide)) (by rfl) (L2N.takes_of rfl rfl rfl rfl) (pda_cons (pd_var (i := 1) rfl (.inl rfl) nm_hours.1 nm_hours.2.1) (pda_nil)) rfl nm_stretches_of.1) rfl (.inr rfl)) (
  pssd_one (psd_if (pdt_cmp (od_ne hr.units) (pd_var (i := 8) rfl (.inl rfl) nm_row.1 nm_row.2.1) (pd_if (pdt_cmp (od_ne hr.units) (pd_var (i := 2) rfl (.inl rfl) nm_found.1 nm_found.2.1) (pdo_pd (pdo_lst (pda_nil)) dLst_lst) (nomark _)) (pd_ix xd_ix (pd_ix xd_ix (pd_var (i := 2) rfl (.inl rfl) nm_found.1 nm_found.2.1) (pd_un ud_neg (pd_int))) (pd_int)) (pd_tup (pda_nil))) (nomark _)) (pssd_one (psd_app (i := 2) rfl (.inl rfl) nm_found.1 nm_found.2.1 (pda_cons (pd_tup (pda_cons (pd_var (i := 4) rfl (.inl rfl) nm_known.1 nm_known.2.1) (pda_cons (pd_var (i := 8) rfl (.inl rfl) nm_row.1 nm_row.2.1) (pda_nil)))) (pda_nil)))) (pssd_nil)))) (pssd_nil))))) (
  pssd_one (psd_ret (pd_callTy cd_tuple (by rfl) T.n_tuple boot_tuple nm_tuple.2.2 nm_tuple.1 (pda_cons (pd_var (i := 2) rfl (.inl rfl) nm_found.1 nm_found.2.1) (pda_nil))))))
theorem ok__law_some (T : Tp K mg) (Dd : Df K mg) (S : XcM K mg (zp TT) sub_ 2 3) (Lm : Lms base K mg TT) : FnD P w K mg base (zp TT) 2 "_law_some" 2 sem__law_some := by
  obtain ⟨f, fd, hm, F, hb⟩ := Dd.d__law_some
  refine fnD (k := 1) (Nm := Nm__law_some) F sc__law_some hm hb rfl (SemLe.refl _ _) (den := den__law_some) fun cdv A outer s H E N hr => ?_
  exact pssd_one (psd_ret (pd_ix xd_ix (pd_var (i := 1) rfl (.inl rfl) nm_things.1 nm_things.2.1) (pd_call (ok__law_roll T Dd S Lm) (hr.mono (by decide)) (by rfl) (L2N.takes_of rfl rfl rfl rfl) (pda_cons (pd_var (i := 0) rfl (.inl rfl) nm_cup.1 nm_cup.2.1) (pda_cons (pd_callB cd_len (by rfl) T.n_len boot_len nm_len.2.2 nm_len.1 (pda_cons (pd_var (i := 1) rfl (.inl rfl) nm_things.1 nm_things.2.1) (pda_nil))) (pda_nil))) rfl nm__law_roll.1)))
theorem ok__law_like (T : Tp K mg) (Dd : Df K mg) (S : XcM K mg (zp TT) sub_ 2 3) (Lm : Lms base K mg TT) : ∀ k : Nat, FnD P w K mg base (zp TT) (1 + k) "_law_like" 2 (sem__law_like k)
  | 0 => by
    obtain ⟨f, fd, hm, F, hb⟩ := Dd.d__law_like
    exact fnD_none F sc__law_like hm hb rfl
  | k + 1 => by
    have Fself := ok__law_like T Dd S Lm k
    obtain ⟨f, fd, hm, F, hb⟩ := Dd.d__law_like
    refine fnD (k := 1 + k) (Nm := Nm__law_like) F sc__law_like hm hb rfl (SemLe.refl _ _) (den := den__law_like (sem__law_like k)) fun cdv A outer s H E N hr => ?_
    exact pssd_cons (psd_set (i := 2) sc__law_like.nd rfl (.inl rfl) (pd_call (ok__law_sort T Dd S Lm) (hr.mono (by omega)) (by rfl) (L2N.takes_of rfl rfl rfl rfl) (pda_cons (pd_var (i := 1) rfl (.inl rfl) nm_other.1 nm_other.2.1) (pda_nil)) rfl nm__law_sort.1) rfl (.inr rfl)) (
  pssd_cons (psd_if (pdw_pt (pdw_or (pdt_cmp (od_ne hr.units) (pd_call (ok__law_sort T Dd S Lm) (hr.mono (by omega)) (by rfl) (L2N.takes_of rfl rfl rfl rfl) (pda_cons (pd_var (i := 0) rfl (.inl rfl) nm_one.1 nm_one.2.1) (pda_nil)) rfl nm__law_sort.1) (pd_var (i := 2) rfl (.inl rfl) nm_sort.1 nm_sort.2.1) (nomark _)) (pdw_or1 (pdt_cmp (od_eq hr.units) (pd_var (i := 2) rfl (.inl rfl) nm_sort.1 nm_sort.2.1) (pd_int) (nomark _))))) (pssd_one (psd_ret (pd_bl))) (pssd_nil)) (
  pssd_cons (psd_if (pdt_cmp (od_mem (units65 hr)) (pd_var (i := 2) rfl (.inl rfl) nm_sort.1 nm_sort.2.1) (pd_tup (pda_cons (pd_int) (pda_cons (pd_int) (pda_nil)))) (by rfl)) (pssd_one (psd_ret (pd_and (pd_cmp (od_eq hr.units) (pd_callB cd_len (by rfl) T.n_len boot_len nm_len.2.2 nm_len.1 (pda_cons (pd_var (i := 0) rfl (.inl rfl) nm_one.1 nm_one.2.1) (pda_nil))) (pd_callB cd_len (by rfl) T.n_len boot_len nm_len.2.2 nm_len.1 (pda_cons (pd_var (i := 1) rfl (.inl rfl) nm_other.1 nm_other.2.1) (pda_nil))) (nomark _)) (pd_one (pd_cmp (od_eq hr.units) (pdo_pd (pdo_lc (own := [("first", 3), ("second", 4)]) (is := [3, 4]) rfl sc__law_like.nd (pdi_zip2A (by rfl) T.n_zip (pda_cons (pd_var (i := 0) rfl (.inl rfl) nm_one.1 nm_one.2.1) (pda_cons (pd_var (i := 1) rfl (.inl rfl) nm_other.1 nm_other.2.1) (pda_nil)))) (blkOk_by (N := Nm__law_like) (sc := (defScope st__law_like)) (by decide +kernel)) (fun s H C cl fp => pgd_tup rfl (pgsd_cons (pgd_name (i := 3) sc__law_like.nd rfl (.inl rfl) (.inr rfl)) (pgsd_cons (pgd_name (i := 4) sc__law_like.nd rfl (.inl rfl) (.inr rfl)) (pgsd_nil))) rfl) (fun s H C cl fp => pts_one (pdt_not (pdt_e (pd_call Fself (hr.mono (by omega)) (by rfl) takesN0 (pda_cons (pd_var (i := 3) rfl (.inl rfl) nm_first.1 nm_first.2.1) (pda_cons (pd_var (i := 4) rfl (.inl rfl) nm_second.1 nm_second.2.1) (pda_nil))) rfl nm__law_like.1)))) (fun s H C cl fp => pd_int) (by decide)) dComp_lst) (pdo_pd (pdo_lst (pda_nil)) dLst_lst) (nomark _)))))) (pssd_nil)) (
  pssd_one (psd_ret (pd_cmp (od_eq hr.units) (pd_var (i := 0) rfl (.inl rfl) nm_one.1 nm_one.2.1) (pd_var (i := 1) rfl (.inl rfl) nm_other.1 nm_other.2.1) (nomark _))))))
theorem ok__law_table (T : Tp K mg) (Dd : Df K mg) (S : XcM K mg (zp TT) sub_ 2 3) (Lm : Lms base K mg TT) : FnD P w K mg base (zp TT) 2 "_law_table" 1 sem__law_table := by
  obtain ⟨f, fd, hm, F, hb⟩ := Dd.d__law_table
  refine fnD (k := 1) (Nm := Nm__law_table) F sc__law_table hm hb rfl (SemLe.refl _ _) (den := den__law_table) fun cdv A outer s H E N hr => ?_
  exact pssd_cons (psd_par2 rfl sc__law_table.nd rfl rfl (by decide) rfl rfl (pdm_new (pdo_lst (pda_nil)) dLst_lst (pdm_val (pd_bin od_mulA (pdo_pd (pdo_lst (pda_cons (pd_non) (pda_nil))) dLst_lst) (pd_int)) (pdm_nil))) rfl) (
  pssd_cons (psd_for (is := [3]) (passes_of rfl) rfl (pdi_seq (pdo_pd (pdo_sortSet rfl T.n_sorted T.n_set (pdo_pd (pdo_lc (own := [("one", 5)]) (is := [5]) rfl sc__law_table.nd (pdi_seq (pd_var (i := 0) rfl (.inl rfl) nm_corrections.1 nm_corrections.2.1)) (blkOk_by (N := Nm__law_table) (sc := (defScope st__law_table)) (by decide +kernel)) (fun s H C cl fp => pgd_name (i := 5) sc__law_table.nd rfl (.inl rfl) (.inr rfl)) (fun s H C cl fp => pts_yes) (fun s H C cl fp => pd_ix xd_ix (pd_var (i := 5) rfl (.inl rfl) nm_one.1 nm_one.2.1) (pd_int)) (by decide)) dComp_lst)) (dO1_lst sortSet_lst))) (pgd_name (i := 3) sc__law_table.nd rfl (.inl rfl) (.inr rfl)) (pssd_cons (psd_set (i := 4) sc__law_table.nd rfl (.inl rfl) (pd_call (ok__law_hours T Dd S Lm) (hr.mono (by decide)) (by rfl) (L2N.takes_of rfl rfl rfl rfl) (pda_cons (pd_var (i := 0) rfl (.inl rfl) nm_corrections.1 nm_corrections.2.1) (pda_cons (pd_var (i := 3) rfl (.inl rfl) nm_time.1 nm_time.2.1) (pda_nil))) rfl nm__law_hours.1) rfl (.inr rfl)) (
  pssd_cons (psd_if (pdt_cmp (od_ne hr.units) (pd_var (i := 4) rfl (.inl rfl) nm_hours.1 nm_hours.2.1) (pd_var (i := 2) rfl (.inl rfl) nm_before.1 nm_before.2.1) (nomark _)) (pssd_one (psd_app (i := 1) rfl (.inl rfl) nm_found.1 nm_found.2.1 (pda_cons (pd_tup (pda_cons (pd_var (i := 3) rfl (.inl rfl) nm_time.1 nm_time.2.1) (pda_cons (pd_call (ok__law_stretches T Dd S Lm) (hr.mono (by decide)) (by rfl) (L2N.takes_of rfl rfl rfl rfl) (pda_cons (pd_var (i := 4) rfl (.inl rfl) nm_hours.1 nm_hours.2.1) (pda_nil)) rfl nm__law_stretches.1) (pda_nil)))) (pda_nil)))) (pssd_nil)) (
  pssd_one (psd_set (i := 2) sc__law_table.nd rfl (.inl rfl) (pd_var (i := 4) rfl (.inl rfl) nm_hours.1 nm_hours.2.1) rfl (.inr rfl)))))) (
  pssd_one (psd_ret (pd_callTy cd_tuple (by rfl) T.n_tuple boot_tuple nm_tuple.2.2 nm_tuple.1 (pda_cons (pd_var (i := 1) rfl (.inl rfl) nm_found.1 nm_found.2.1) (pda_nil))))))
theorem ok_are_corrections (T : Tp K mg) (Dd : Df K mg) (S : XcM K mg (zp TT) sub_ 2 3) (Lm : Lms base K mg TT) : FnD P w K mg base (zp TT) 3 "are_corrections" 1 sem_are_corrections := by
  obtain ⟨f, fd, hm, F, hb⟩ := Dd.d_are_corrections
  refine fnD (k := 2) (Nm := Nm_are_corrections) F sc_are_corrections hm hb rfl (SemLe.refl _ _) (den := den_are_corrections) fun cdv A outer s H E N hr => ?_
  exact pssd_cons (psd_if (pdw_pt (pdw_or (pdt_not (pdt_e (pd_call (ok_is_tuple_of T Dd S Lm) (hr.mono (by decide)) (by rfl) (L2N.takes_of rfl rfl rfl rfl) (pda_cons (pd_var (i := 0) rfl (.inl rfl) nm_value.1 nm_value.2.1) (pda_cons (pd_int) (pda_cons (pd_gk (by rfl) T.k_MANY (fun _ _ => .int _) nm_MANY.1) (pda_nil)))) rfl nm_is_tuple_of.1))) (pdw_or1 (pdt_not (pdt_e (pd_callB (cd_all rfl) (by rfl) T.n_all boot_all nm_all.2.2 nm_all.1 (pda_cons (pdo_pd (pdo_lc (own := [("one", 1)]) (is := [1]) rfl sc_are_corrections.nd (pdi_seq (pd_var (i := 0) rfl (.inl rfl) nm_value.1 nm_value.2.1)) (blkOk_by (N := Nm_are_corrections) (sc := (defScope st_are_corrections)) (by decide +kernel)) (fun s H C cl fp => pgd_name (i := 1) sc_are_corrections.nd rfl (.inl rfl) (.inr rfl)) (fun s H C cl fp => pts_yes) (fun s H C cl fp => pd_call (ok_is_correction T Dd S Lm) (hr.mono (by decide)) (by rfl) takesN0 (pda_cons (pd_var (i := 1) rfl (.inl rfl) nm_one.1 nm_one.2.1) (pda_nil)) rfl nm_is_correction.1) (by decide)) dComp_lst) (pda_nil)))))))) (pssd_one (psd_ret (pd_bl))) (pssd_nil)) (
  pssd_one (psd_ret (pd_callB (cd_all rfl) (by rfl) T.n_all boot_all nm_all.2.2 nm_all.1 (pda_cons (pdo_pd (pdo_lc (own := [("one", 1), ("other", 2)]) (is := [1, 2]) rfl sc_are_corrections.nd (pdi_zip2A (by rfl) T.n_zip (pda_cons (pd_var (i := 0) rfl (.inl rfl) nm_value.1 nm_value.2.1) (pda_cons (pd_sl sd_any (pd_var (i := 0) rfl (.inl rfl) nm_value.1 nm_value.2.1) (pdp_some (pd_int)) pdp_none) (pda_nil)))) (blkOk_by (N := Nm_are_corrections) (sc := (defScope st_are_corrections)) (by decide +kernel)) (fun s H C cl fp => pgd_tup rfl (pgsd_cons (pgd_name (i := 1) sc_are_corrections.nd rfl (.inl rfl) (.inr rfl)) (pgsd_cons (pgd_name (i := 2) sc_are_corrections.nd rfl (.inl rfl) (.inr rfl)) (pgsd_nil))) rfl) (fun s H C cl fp => pts_yes) (fun s H C cl fp => pd_cmp od_le (pd_ix xd_ix (pd_var (i := 1) rfl (.inl rfl) nm_one.1 nm_one.2.1) (pd_int)) (pd_ix xd_ix (pd_var (i := 2) rfl (.inl rfl) nm_other.1 nm_other.2.1) (pd_int)) (nomark _)) (by decide)) dComp_lst) (pda_nil)))))
theorem ok__law_corrections (T : Tp K mg) (Dd : Df K mg) (S : XcM K mg (zp TT) sub_ 2 3) (Lm : Lms base K mg TT) : FnD P w K mg base (zp TT) 3 "_law_corrections" 2 sem__law_corrections := by
  obtain ⟨f, fd, hm, F, hb⟩ := Dd.d__law_corrections
  refine fnD (k := 2) (Nm := Nm__law_corrections) F sc__law_corrections hm hb rfl (SemLe.refl _ _) (den := den__law_corrections) fun cdv A outer s H E N hr => ?_
  exact pssd_cons (psd_par2 rfl sc__law_corrections.nd rfl rfl (by decide) rfl rfl (pdm_val (pd_tup (pda_nil)) (pdm_val (pd_call (ok__law_some T Dd S Lm) (hr.mono (by decide)) (by rfl) (L2N.takes_of rfl rfl rfl rfl) (pda_cons (pd_var (i := 0) rfl (.inl rfl) nm_cup.1 nm_cup.2.1) (pda_cons (pdo_pd (pdo_lst (pda_cons (pd_int) (pda_cons (pd_int) (pda_cons (pd_int) (pda_nil))))) dLst_lst) (pda_nil))) rfl nm__law_some.1) (pdm_nil))) rfl) (
  pssd_cons (psd_for (is := [4]) (passes_of rfl) rfl (pdi_rng1 (by rfl) T.n_range (pda_cons (pd_call (ok__law_roll T Dd S Lm) (hr.mono (by decide)) (by rfl) (L2N.takes_of rfl rfl rfl rfl) (pda_cons (pd_var (i := 0) rfl (.inl rfl) nm_cup.1 nm_cup.2.1) (pda_cons (pd_bin od_addA (pd_var (i := 1) rfl (.inl rfl) nm_many.1 nm_many.2.1) (pd_int)) (pda_nil))) rfl nm__law_roll.1) (pda_nil))) (pgd_name (i := 4) sc__law_corrections.nd rfl (.inl rfl) (.inr rfl)) (pssd_cons (psd_set (i := 5) sc__law_corrections.nd rfl (.inl rfl) (pd_call (ok__law_some T Dd S Lm) (hr.mono (by decide)) (by rfl) (L2N.takes_of rfl rfl rfl rfl) (pda_cons (pd_var (i := 0) rfl (.inl rfl) nm_cup.1 nm_cup.2.1) (pda_cons (pdo_pd (pdo_lst (pda_cons (pd_int) (pda_cons (pd_int) (pda_cons (pd_int) (pda_cons (pd_int) (pda_cons (pd_call (ok__law_roll T Dd S Lm) (hr.mono (by decide)) (by rfl) (L2N.takes_of rfl rfl rfl rfl) (pda_cons (pd_var (i := 0) rfl (.inl rfl) nm_cup.1 nm_cup.2.1) (pda_cons (pd_int) (pda_nil))) rfl nm__law_roll.1) (pda_nil))))))) dLst_lst) (pda_nil))) rfl nm__law_some.1) rfl (.inr rfl)) (
  pssd_cons (psd_set (i := 6) sc__law_corrections.nd rfl (.inl rfl) (pd_callB (cd_min2 rfl) (by rfl) T.n_min boot_min nm_min.2.2 nm_min.1 (pda_cons (pd_int) (pda_cons (pd_bin od_addA (pd_var (i := 5) rfl (.inl rfl) nm_first.1 nm_first.2.1) (pd_call (ok__law_some T Dd S Lm) (hr.mono (by decide)) (by rfl) (L2N.takes_of rfl rfl rfl rfl) (pda_cons (pd_var (i := 0) rfl (.inl rfl) nm_cup.1 nm_cup.2.1) (pda_cons (pdo_pd (pdo_lst (pda_cons (pd_int) (pda_cons (pd_int) (pda_cons (pd_int) (pda_cons (pd_int) (pda_cons (pd_int) (pda_nil))))))) dLst_lst) (pda_nil))) rfl nm__law_some.1)) (pda_nil)))) rfl (.inr rfl)) (
  pssd_cons (psd_set (i := 2) sc__law_corrections.nd rfl (.inl rfl) (pd_bin od_addA (pd_var (i := 2) rfl (.inl rfl) nm_found.1 nm_found.2.1) (pd_tup (pda_cons (pd_tup (pda_cons (pd_var (i := 3) rfl (.inl rfl) nm_known.1 nm_known.2.1) (pda_cons (pd_var (i := 5) rfl (.inl rfl) nm_first.1 nm_first.2.1) (pda_cons (pd_var (i := 6) rfl (.inl rfl) nm_last.1 nm_last.2.1) (pda_cons (pd_call (ok__law_some T Dd S Lm) (hr.mono (by decide)) (by rfl) (L2N.takes_of rfl rfl rfl rfl) (pda_cons (pd_var (i := 0) rfl (.inl rfl) nm_cup.1 nm_cup.2.1) (pda_cons (pdo_pd (pdo_lst (pda_cons (pd_int) (pda_cons (pd_int) (pda_cons (pd_int) (pda_cons (pd_int) (pda_nil)))))) dLst_lst) (pda_nil))) rfl nm__law_some.1) (pda_nil)))))) (pda_nil)))) rfl (.inr rfl)) (
  pssd_one (psd_set (i := 3) sc__law_corrections.nd rfl (.inl rfl) (pd_callB (cd_min2 rfl) (by rfl) T.n_min boot_min nm_min.2.2 nm_min.1 (pda_cons (pd_int) (pda_cons (pd_bin od_addA (pd_var (i := 3) rfl (.inl rfl) nm_known.1 nm_known.2.1) (pd_call (ok__law_some T Dd S Lm) (hr.mono (by decide)) (by rfl) (L2N.takes_of rfl rfl rfl rfl) (pda_cons (pd_var (i := 0) rfl (.inl rfl) nm_cup.1 nm_cup.2.1) (pda_cons (pdo_pd (pdo_lst (pda_cons (pd_int) (pda_cons (pd_int) (pda_cons (pd_int) (pda_cons (pd_int) (pda_cons (pd_int) (pda_nil))))))) dLst_lst) (pda_nil))) rfl nm__law_some.1)) (pda_nil)))) rfl (.inr rfl))))))) (
  pssd_one (psd_ret (pd_var (i := 2) rfl (.inl rfl) nm_found.1 nm_found.2.1))))
theorem ok_need_corrections (T : Tp K mg) (Dd : Df K mg) (S : XcM K mg (zp TT) sub_ 2 3) (Lm : Lms base K mg TT) : FnD P w K mg base (zp TT) 4 "need_corrections" 1 sem_need_corrections := by
  obtain ⟨f, fd, hm, F, hb⟩ := Dd.d_need_corrections
  refine fnD (k := 3) (Nm := Nm_need_corrections) F sc_need_corrections hm hb rfl (SemLe.refl _ _) (den := den_need_corrections) fun cdv A outer s H E N hr => ?_
  exact pssd_one (psd_if (pdt_not (pdt_e (pd_call (ok_are_corrections T Dd S Lm) (hr.mono (by decide)) (by rfl) (L2N.takes_of rfl rfl rfl rfl) (pda_cons (pd_var (i := 0) rfl (.inl rfl) nm_value.1 nm_value.2.1) (pda_nil)) rfl nm_are_corrections.1))) (pssd_one ((T.x_InvalidCorrections).elim fun _ z => psd_raise rfl (L2N.takes_of rfl rfl rfl rfl) z (by rfl) rfl nm_InvalidCorrections.1)) (pssd_nil))
theorem ok_known_at (T : Tp K mg) (Dd : Df K mg) (S : XcM K mg (zp TT) sub_ 2 3) (Lm : Lms base K mg TT) : FnD P w K mg base (zp TT) 5 "known_at" 3 sem_known_at := by
  obtain ⟨f, fd, hm, F, hb⟩ := Dd.d_known_at
  refine fnD (k := 4) (Nm := Nm_known_at) F sc_known_at hm hb rfl (SemLe.refl _ _) (den := den_known_at) fun cdv A outer s H E N hr => ?_
  exact pssd_cons (psd_expr (pd_call (ok_need_corrections T Dd S Lm) (hr.mono (by decide)) (by rfl) (L2N.takes_of rfl rfl rfl rfl) (pda_cons (pd_var (i := 0) rfl (.inl rfl) nm_corrections.1 nm_corrections.2.1) (pda_nil)) rfl nm_need_corrections.1)) (
  pssd_cons (psd_expr (pd_call (ok_need_whole T Dd S Lm) (hr.mono (by decide)) (by rfl) (L2N.takes_of rfl rfl rfl rfl) (pda_cons (pd_var (i := 1) rfl (.inl rfl) nm_time.1 nm_time.2.1) (pda_cons (pd_int) (pda_cons (pd_gk (by rfl) T.k_TIME (fun _ _ => .int _) nm_TIME.1) (pda_nil)))) rfl nm_need_whole.1)) (
  pssd_cons (psd_expr (pd_call (ok_need_whole T Dd S Lm) (hr.mono (by decide)) (by rfl) (L2N.takes_of rfl rfl rfl rfl) (pda_cons (pd_var (i := 2) rfl (.inl rfl) nm_hour.1 nm_hour.2.1) (pda_cons (pd_int) (pda_cons (pd_bin od_subA (pd_gk (by rfl) T.k_HOURS (fun _ _ => .int _) nm_HOURS.1) (pd_int)) (pda_nil)))) rfl nm_need_whole.1)) (
  pssd_cons (psd_set (i := 3) sc_known_at.nd rfl (.inl rfl) (pd_non) rfl (.inr rfl)) (
  pssd_cons (psd_for (is := [4, 5, 6, 7]) (passes_of rfl) rfl (pdi_seq (pd_var (i := 0) rfl (.inl rfl) nm_corrections.1 nm_corrections.2.1)) (pgd_tup rfl (pgsd_cons (pgd_name (i := 4) sc_known_at.nd rfl (.inl rfl) (.inr rfl)) (pgsd_cons (pgd_name (i := 5) sc_known_at.nd rfl (.inl rfl) (.inr rfl)) (pgsd_cons (pgd_name (i := 6) sc_known_at.nd rfl (.inl rfl) (.inr rfl)) (pgsd_cons (pgd_name (i := 7) sc_known_at.nd rfl (.inl rfl) (.inr rfl)) (pgsd_nil))))) rfl) (pssd_one (psd_if (pdw_pt (pdw_and (pdt_cmp od_le (pd_var (i := 4) rfl (.inl rfl) nm_known.1 nm_known.2.1) (pd_var (i := 1) rfl (.inl rfl) nm_time.1 nm_time.2.1) (nomark _)) (pdw_and1 (pdt_chain od_le od_le (pd_var (i := 5) rfl (.inl rfl) nm_first.1 nm_first.2.1) (pd_var (i := 2) rfl (.inl rfl) nm_hour.1 nm_hour.2.1) (pd_var (i := 6) rfl (.inl rfl) nm_last.1 nm_last.2.1))))) (pssd_one (psd_set (i := 3) sc_known_at.nd rfl (.inl rfl) (pd_var (i := 7) rfl (.inl rfl) nm_value.1 nm_value.2.1) rfl (.inr rfl))) (pssd_nil)))) (
  pssd_one (psd_ret (pd_var (i := 3) rfl (.inl rfl) nm_found.1 nm_found.2.1)))))))
theorem ok_known_table (T : Tp K mg) (Dd : Df K mg) (S : XcM K mg (zp TT) sub_ 2 3) (Lm : Lms base K mg TT) : FnD P w K mg base (zp TT) 5 "known_table" 1 sem_known_table := by
  obtain ⟨f, fd, hm, F, hb⟩ := Dd.d_known_table
  refine fnD (k := 4) (Nm := Nm_known_table) F sc_known_table hm hb rfl (SemLe.refl _ _) (den := den_known_table) fun cdv A outer s H E N hr => ?_
  exact pssd_cons (psd_expr (pd_call (ok_need_corrections T Dd S Lm) (hr.mono (by decide)) (by rfl) (L2N.takes_of rfl rfl rfl rfl) (pda_cons (pd_var (i := 0) rfl (.inl rfl) nm_corrections.1 nm_corrections.2.1) (pda_nil)) rfl nm_need_corrections.1)) (
  pssd_one (psd_ret (pd_call (ok_table_in T Dd S Lm) (hr.mono (by decide)) (by rfl) (L2N.takes_of rfl rfl rfl rfl) (pda_cons (pd_var (i := 0) rfl (.inl rfl) nm_corrections.1 nm_corrections.2.1) (pda_nil)) rfl nm_table_in.1)))
theorem ok_needless (T : Tp K mg) (Dd : Df K mg) (S : XcM K mg (zp TT) sub_ 2 3) (Lm : Lms base K mg TT) : FnD P w K mg base (zp TT) 5 "needless" 1 sem_needless := by
  obtain ⟨f, fd, hm, F, hb⟩ := Dd.d_needless
  refine fnD (k := 4) (Nm := Nm_needless) F sc_needless hm hb rfl (SemLe.refl _ _) (den := den_needless) fun cdv A outer s H E N hr => ?_
  exact pssd_cons (psd_expr (pd_call (ok_need_corrections T Dd S Lm) (hr.mono (by decide)) (by rfl) (L2N.takes_of rfl rfl rfl rfl) (pda_cons (pd_var (i := 0) rfl (.inl rfl) nm_corrections.1 nm_corrections.2.1) (pda_nil)) rfl nm_need_corrections.1)) (
  pssd_cons (psd_par2 rfl sc_needless.nd rfl rfl (by decide) rfl rfl (pdm_val (pd_call (ok_table_in T Dd S Lm) (hr.mono (by decide)) (by rfl) (L2N.takes_of rfl rfl rfl rfl) (pda_cons (pd_var (i := 0) rfl (.inl rfl) nm_corrections.1 nm_corrections.2.1) (pda_nil)) rfl nm_table_in.1) (pdm_new (pdo_lst (pda_nil)) dLst_lst (pdm_nil))) rfl) (
  pssd_cons (psd_for (is := [3]) (passes_of rfl) rfl (pdi_rng1 (by rfl) T.n_range (pda_cons (pd_callB cd_len (by rfl) T.n_len boot_len nm_len.2.2 nm_len.1 (pda_cons (pd_var (i := 0) rfl (.inl rfl) nm_corrections.1 nm_corrections.2.1) (pda_nil))) (pda_nil))) (pgd_name (i := 3) sc_needless.nd rfl (.inl rfl) (.inr rfl)) (pssd_one (psd_if (pdt_cmp (od_eq hr.units) (pd_call (ok_table_in T Dd S Lm) (hr.mono (by decide)) (by rfl) (L2N.takes_of rfl rfl rfl rfl) (pda_cons (pd_bin od_addA (pd_sl sd_any (pd_var (i := 0) rfl (.inl rfl) nm_corrections.1 nm_corrections.2.1) pdp_none (pdp_some (pd_var (i := 3) rfl (.inl rfl) nm_at.1 nm_at.2.1))) (pd_sl sd_any (pd_var (i := 0) rfl (.inl rfl) nm_corrections.1 nm_corrections.2.1) (pdp_some (pd_bin od_addA (pd_var (i := 3) rfl (.inl rfl) nm_at.1 nm_at.2.1) (pd_int))) pdp_none)) (pda_nil)) rfl nm_table_in.1) (pd_var (i := 1) rfl (.inl rfl) nm_due.1 nm_due.2.1) (nomark _)) (pssd_one (psd_app (i := 2) rfl (.inl rfl) nm_found.1 nm_found.2.1 (pda_cons (pd_var (i := 3) rfl (.inl rfl) nm_at.1 nm_at.2.1) (pda_nil)))) (pssd_nil)))) (
  pssd_one (psd_ret (pd_callTy cd_tuple (by rfl) T.n_tuple boot_tuple nm_tuple.2.2 nm_tuple.1 (pda_cons (pd_var (i := 2) rfl (.inl rfl) nm_found.1 nm_found.2.1) (pda_nil)))))))
theorem ok__law_right (T : Tp K mg) (Dd : Df K mg) (S : XcM K mg (zp TT) sub_ 2 3) (Lm : Lms base K mg TT) : FnD P w K mg base (zp TT) 43 "_law_right" 3 sem__law_right := by
  obtain ⟨f, fd, hm, F, hb⟩ := Dd.d__law_right
  refine fnD (k := 42) (Nm := Nm__law_right) F sc__law_right hm hb rfl (SemLe.refl _ _) (den := den__law_right) fun cdv A outer s H E N hr => ?_
  exact pssd_cons (psd_set (i := 3) sc__law_right.nd rfl (.inr rfl) (pd_call (ok__law_table T Dd S Lm) (hr.mono (by decide)) (by rfl) (L2N.takes_of rfl rfl rfl rfl) (pda_cons (pd_var (i := 1) rfl (.inr (.inl rfl)) nm_corrections.1 nm_corrections.2.1) (pda_nil)) rfl nm__law_table.1) rfl (.inl rfl)) (
  pssd_cons (psd_if (pdt_not (pdt_e (pd_call (ok__law_like T Dd S Lm 40) (hr.mono (by decide)) (by rfl) (L2N.takes_of rfl rfl rfl rfl) (pda_cons (pdo_pd (pdo_lst (pda_cons (pd_call (ok_are_corrections T Dd S Lm) (hr.mono (by decide)) (by rfl) (L2N.takes_of rfl rfl rfl rfl) (pda_cons (pd_var (i := 1) rfl (.inr (.inl rfl)) nm_corrections.1 nm_corrections.2.1) (pda_nil)) rfl nm_are_corrections.1) (pda_cons (pd_call (ok_known_table T Dd S Lm) (hr.mono (by decide)) (by rfl) (L2N.takes_of rfl rfl rfl rfl) (pda_cons (pd_var (i := 1) rfl (.inr (.inl rfl)) nm_corrections.1 nm_corrections.2.1) (pda_nil)) rfl nm_known_table.1) (pda_nil)))) dLst_lst) (pda_cons (pdo_pd (pdo_lst (pda_cons (pd_bl) (pda_cons (pd_var (i := 3) rfl (.inr (.inl rfl)) nm_table.1 nm_table.2.1) (pda_nil)))) dLst_lst) (pda_nil))) rfl nm__law_like.1))) (pssd_one (psd_ret (pd_bl))) (pssd_nil)) (
  pssd_cons (psd_for (is := [4]) (passes_of rfl) rfl (pdi_rng1 (by rfl) T.n_range (pda_cons (pd_int) (pda_nil))) (pgd_name (i := 4) sc__law_right.nd rfl (.inl rfl) (.inr rfl)) (pssd_cons (psd_set (i := 5) sc__law_right.nd rfl (.inl rfl) (pd_call (ok__law_some T Dd S Lm) (hr.mono (by decide)) (by rfl) (L2N.takes_of rfl rfl rfl rfl) (pda_cons (pd_var (i := 0) rfl (.inl rfl) nm_cup.1 nm_cup.2.1) (pda_cons (pd_bin od_addA (pd_bin od_addA (pdo_pd (pdo_lst (pda_cons (pd_int) (pda_cons (pd_int) (pda_cons (pd_call (ok__law_roll T Dd S Lm) (hr.mono (by decide)) (by rfl) (L2N.takes_of rfl rfl rfl rfl) (pda_cons (pd_var (i := 0) rfl (.inl rfl) nm_cup.1 nm_cup.2.1) (pda_cons (pd_int) (pda_nil))) rfl nm__law_roll.1) (pda_nil))))) dLst_lst) (pdo_pd (pdo_lc (own := [("one", 8)]) (is := [8]) rfl sc__law_right.nd (pdi_seq (pd_var (i := 1) rfl (.inr (.inl rfl)) nm_corrections.1 nm_corrections.2.1)) (blkOk_by (N := Nm__law_right) (sc := (defScope st__law_right)) (by decide +kernel)) (fun s H C cl fp => pgd_name (i := 8) sc__law_right.nd rfl (.inl rfl) (.inr rfl)) (fun s H C cl fp => pts_yes) (fun s H C cl fp => pd_ix xd_ix (pd_var (i := 8) rfl (.inl rfl) nm_one.1 nm_one.2.1) (pd_int)) (by decide)) dComp_lst)) (pdo_pd (pdo_lc (own := [("one", 8)]) (is := [8]) rfl sc__law_right.nd (pdi_seq (pd_var (i := 1) rfl (.inr (.inl rfl)) nm_corrections.1 nm_corrections.2.1)) (blkOk_by (N := Nm__law_right) (sc := (defScope st__law_right)) (by decide +kernel)) (fun s H C cl fp => pgd_name (i := 8) sc__law_right.nd rfl (.inl rfl) (.inr rfl)) (fun s H C cl fp => pts_yes) (fun s H C cl fp => pd_callB (cd_max2 rfl) (by rfl) T.n_max boot_max nm_max.2.2 nm_max.1 (pda_cons (pd_int) (pda_cons (pd_bin od_subA (pd_ix xd_ix (pd_var (i := 8) rfl (.inl rfl) nm_one.1 nm_one.2.1) (pd_int)) (pd_int)) (pda_nil)))) (by decide)) dComp_lst)) (pda_nil))) rfl nm__law_some.1) rfl (.inr rfl)) (
  pssd_cons (psd_set (i := 6) sc__law_right.nd rfl (.inl rfl) (pd_call (ok__law_some T Dd S Lm) (hr.mono (by decide)) (by rfl) (L2N.takes_of rfl rfl rfl rfl) (pda_cons (pd_var (i := 0) rfl (.inl rfl) nm_cup.1 nm_cup.2.1) (pda_cons (pd_bin od_addA (pd_bin od_addA (pdo_pd (pdo_lst (pda_cons (pd_int) (pda_cons (pd_int) (pda_cons (pd_call (ok__law_roll T Dd S Lm) (hr.mono (by decide)) (by rfl) (L2N.takes_of rfl rfl rfl rfl) (pda_cons (pd_var (i := 0) rfl (.inl rfl) nm_cup.1 nm_cup.2.1) (pda_cons (pd_int) (pda_nil))) rfl nm__law_roll.1) (pda_nil))))) dLst_lst) (pdo_pd (pdo_lc (own := [("one", 8)]) (is := [8]) rfl sc__law_right.nd (pdi_seq (pd_var (i := 1) rfl (.inr (.inl rfl)) nm_corrections.1 nm_corrections.2.1)) (blkOk_by (N := Nm__law_right) (sc := (defScope st__law_right)) (by decide +kernel)) (fun s H C cl fp => pgd_name (i := 8) sc__law_right.nd rfl (.inl rfl) (.inr rfl)) (fun s H C cl fp => pts_yes) (fun s H C cl fp => pd_ix xd_ix (pd_var (i := 8) rfl (.inl rfl) nm_one.1 nm_one.2.1) (pd_int)) (by decide)) dComp_lst)) (pdo_pd (pdo_lc (own := [("one", 8)]) (is := [8]) rfl sc__law_right.nd (pdi_seq (pd_var (i := 1) rfl (.inr (.inl rfl)) nm_corrections.1 nm_corrections.2.1)) (blkOk_by (N := Nm__law_right) (sc := (defScope st__law_right)) (by decide +kernel)) (fun s H C cl fp => pgd_name (i := 8) sc__law_right.nd rfl (.inl rfl) (.inr rfl)) (fun s H C cl fp => pts_yes) (fun s H C cl fp => pd_ix xd_ix (pd_var (i := 8) rfl (.inl rfl) nm_one.1 nm_one.2.1) (pd_int)) (by decide)) dComp_lst)) (pda_nil))) rfl nm__law_some.1) rfl (.inr rfl)) (
  pssd_one (psd_if (pdt_not (pdt_e (pd_call (ok__law_like T Dd S Lm 40) (hr.mono (by decide)) (by rfl) (L2N.takes_of rfl rfl rfl rfl) (pda_cons (pd_call (ok_known_at T Dd S Lm) (hr.mono (by decide)) (by rfl) (L2N.takes_of rfl rfl rfl rfl) (pda_cons (pd_var (i := 1) rfl (.inr (.inl rfl)) nm_corrections.1 nm_corrections.2.1) (pda_cons (pd_var (i := 5) rfl (.inl rfl) nm_time.1 nm_time.2.1) (pda_cons (pd_var (i := 6) rfl (.inl rfl) nm_hour.1 nm_hour.2.1) (pda_nil)))) rfl nm_known_at.1) (pda_cons (pd_ix xd_ix (pd_call (ok__law_hours T Dd S Lm) (hr.mono (by decide)) (by rfl) (L2N.takes_of rfl rfl rfl rfl) (pda_cons (pd_var (i := 1) rfl (.inr (.inl rfl)) nm_corrections.1 nm_corrections.2.1) (pda_cons (pd_var (i := 5) rfl (.inl rfl) nm_time.1 nm_time.2.1) (pda_nil))) rfl nm__law_hours.1) (pd_var (i := 6) rfl (.inl rfl) nm_hour.1 nm_hour.2.1)) (pda_nil))) rfl nm__law_like.1))) (pssd_one (psd_ret (pd_bl))) (pssd_nil)))))) (
  pssd_cons (psd_if (pdt_not (pdt_e (pd_var (i := 2) rfl (.inl rfl) nm_is_short.1 nm_is_short.2.1))) (pssd_one (psd_ret (pd_bl))) (pssd_nil)) (
  pssd_cons (psd_set (i := 7) sc__law_right.nd rfl (.inl rfl) (pd_callTy cd_tuple (by rfl) T.n_tuple boot_tuple nm_tuple.2.2 nm_tuple.1 (pda_cons (pdo_pd (pdo_lc (own := [("at", 9)]) (is := [9]) rfl sc__law_right.nd (pdi_rng1 (by rfl) T.n_range (pda_cons (pd_callB cd_len (by rfl) T.n_len boot_len nm_len.2.2 nm_len.1 (pda_cons (pd_var (i := 1) rfl (.inr (.inl rfl)) nm_corrections.1 nm_corrections.2.1) (pda_nil))) (pda_nil))) (blkOk_by (N := Nm__law_right) (sc := (defScope st__law_right)) (by decide +kernel)) (fun s H C cl fp => pgd_name (i := 9) sc__law_right.nd rfl (.inl rfl) (.inr rfl)) (fun s H C cl fp => pts_one (pdt_cmp (od_eq hr.units) (pd_call (ok__law_table T Dd S Lm) (hr.mono (by decide)) (by rfl) takesN0 (pda_cons (pd_bin od_addA (pd_sl sd_any (pd_var (i := 1) rfl (by first | exact .inr (.inl rfl) | exact .inr (.inr rfl)) nm_corrections.1 nm_corrections.2.1) pdp_none (pdp_some (pd_var (i := 9) rfl (.inl rfl) nm_at.1 nm_at.2.1))) (pd_sl sd_any (pd_var (i := 1) rfl (by first | exact .inr (.inl rfl) | exact .inr (.inr rfl)) nm_corrections.1 nm_corrections.2.1) (pdp_some (pd_bin od_addA (pd_var (i := 9) rfl (.inl rfl) nm_at.1 nm_at.2.1) (pd_int))) pdp_none)) (pda_nil)) rfl nm__law_table.1) (pd_var (i := 3) rfl (by first | exact .inr (.inl rfl) | exact .inr (.inr rfl)) nm_table.1 nm_table.2.1) (nomark _))) (fun s H C cl fp => pd_var (i := 9) rfl (.inl rfl) nm_at.1 nm_at.2.1) (by decide)) dComp_lst) (pda_nil))) rfl (.inr rfl)) (
  pssd_cons (psd_if (pdt_not (pdt_e (pd_call (ok__law_like T Dd S Lm 40) (hr.mono (by decide)) (by rfl) (L2N.takes_of rfl rfl rfl rfl) (pda_cons (pd_call (ok_needless T Dd S Lm) (hr.mono (by decide)) (by rfl) (L2N.takes_of rfl rfl rfl rfl) (pda_cons (pd_var (i := 1) rfl (.inr (.inl rfl)) nm_corrections.1 nm_corrections.2.1) (pda_nil)) rfl nm_needless.1) (pda_cons (pd_var (i := 7) rfl (.inl rfl) nm_due.1 nm_due.2.1) (pda_nil))) rfl nm__law_like.1))) (pssd_one (psd_ret (pd_bl))) (pssd_nil)) (
  pssd_one (psd_ret (pd_or (pd_cmp (od_eq hr.units) (pd_var (i := 7) rfl (.inl rfl) nm_due.1 nm_due.2.1) (pd_tup (pda_nil)) (nomark _)) (pd_one (pd_cmp (od_eq hr.units) (pd_call (ok_known_table T Dd S Lm) (hr.mono (by decide)) (by rfl) (L2N.takes_of rfl rfl rfl rfl) (pda_cons (pd_bin od_addA (pd_sl sd_any (pd_var (i := 1) rfl (.inr (.inl rfl)) nm_corrections.1 nm_corrections.2.1) pdp_none (pdp_some (pd_ix xd_ix (pd_var (i := 7) rfl (.inl rfl) nm_due.1 nm_due.2.1) (pd_int)))) (pd_sl sd_any (pd_var (i := 1) rfl (.inr (.inl rfl)) nm_corrections.1 nm_corrections.2.1) (pdp_some (pd_bin od_addA (pd_ix xd_ix (pd_var (i := 7) rfl (.inl rfl) nm_due.1 nm_due.2.1) (pd_int)) (pd_int))) pdp_none)) (pda_nil)) rfl nm_known_table.1) (pd_var (i := 3) rfl (.inr (.inl rfl)) nm_table.1 nm_table.2.1) (nomark _)))))))))))
theorem ok__law_great_right (T : Tp K mg) (Dd : Df K mg) (S : XcM K mg (zp TT) sub_ 2 3) (Lm : Lms base K mg TT) : FnD P w K mg base (zp TT) 6 "_law_great_right" 1 sem__law_great_right := by
  obtain ⟨f, fd, hm, F, hb⟩ := Dd.d__law_great_right
  refine fnD (k := 5) (Nm := Nm__law_great_right) F sc__law_great_right hm hb rfl (SemLe.refl _ _) (den := den__law_great_right) fun cdv A outer s H E N hr => ?_
  exact pssd_cons (psd_set (i := 1) sc__law_great_right.nd rfl (.inl rfl) (pd_call (ok__law_roll T Dd S Lm) (hr.mono (by decide)) (by rfl) (L2N.takes_of rfl rfl rfl rfl) (pda_cons (pd_var (i := 0) rfl (.inl rfl) nm_cup.1 nm_cup.2.1) (pda_cons (pd_int) (pda_nil))) rfl nm__law_roll.1) rfl (.inr rfl)) (
  pssd_cons (psd_set (i := 2) sc__law_great_right.nd rfl (.inl rfl) (pd_callTy cd_tuple (by rfl) T.n_tuple boot_tuple nm_tuple.2.2 nm_tuple.1 (pda_cons (pdo_pd (pdo_lc (own := [("turn", 5)]) (is := [5]) rfl sc__law_great_right.nd (pdi_rng1 (by rfl) T.n_range (pda_cons (pd_int) (pda_nil))) (blkOk_by (N := Nm__law_great_right) (sc := (defScope st__law_great_right)) (by decide +kernel)) (fun s H C cl fp => pgd_name (i := 5) sc__law_great_right.nd rfl (.inl rfl) (.inr rfl)) (fun s H C cl fp => pts_yes) (fun s H C cl fp => pd_tup (pda_cons (pd_bin od_mulA (pd_int) (pd_var (i := 5) rfl (.inl rfl) nm_turn.1 nm_turn.2.1)) (pda_cons (pd_var (i := 5) rfl (.inl rfl) nm_turn.1 nm_turn.2.1) (pda_cons (pd_int) (pda_cons (pd_bin od_mod (pd_callTy cd_int (by rfl) T.n_int boot_int nm_int.2.2 nm_int.1 (pda_cons (pd_var (i := 5) rfl (.inl rfl) nm_turn.1 nm_turn.2.1) (pda_nil))) (pd_int)) (pda_nil)))))) (by decide)) dComp_lst) (pda_nil))) rfl (.inr rfl)) (
  pssd_cons (psd_set (i := 3) sc__law_great_right.nd rfl (.inl rfl) (pd_callTy cd_tuple (by rfl) T.n_tuple boot_tuple nm_tuple.2.2 nm_tuple.1 (pda_cons (pdo_pd (pdo_lc (own := [("turn", 5)]) (is := [5]) rfl sc__law_great_right.nd (pdi_rng1 (by rfl) T.n_range (pda_cons (pd_int) (pda_nil))) (blkOk_by (N := Nm__law_great_right) (sc := (defScope st__law_great_right)) (by decide +kernel)) (fun s H C cl fp => pgd_name (i := 5) sc__law_great_right.nd rfl (.inl rfl) (.inr rfl)) (fun s H C cl fp => pts_yes) (fun s H C cl fp => pd_tup (pda_cons (pd_bin od_fdiv (pd_callTy cd_int (by rfl) T.n_int boot_int nm_int.2.2 nm_int.1 (pda_cons (pd_var (i := 5) rfl (.inl rfl) nm_turn.1 nm_turn.2.1) (pda_nil))) (pd_int)) (pda_cons (pd_int) (pda_cons (pd_int) (pda_cons (pd_bin od_mod (pd_callTy cd_int (by rfl) T.n_int boot_int nm_int.2.2 nm_int.1 (pda_cons (pd_bin od_fdiv (pd_var (i := 5) rfl (.inl rfl) nm_turn.1 nm_turn.2.1) (pd_int)) (pda_nil))) (pd_int)) (pda_nil)))))) (by decide)) dComp_lst) (pda_nil))) rfl (.inr rfl)) (
  pssd_cons (psd_set (i := 4) sc__law_great_right.nd rfl (.inl rfl) (pd_call (ok_known_table T Dd S Lm) (hr.mono (by decide)) (by rfl) (L2N.takes_of rfl rfl rfl rfl) (pda_cons (pd_var (i := 2) rfl (.inl rfl) nm_steps.1 nm_steps.2.1) (pda_nil)) rfl nm_known_table.1) rfl (.inr rfl)) (
  pssd_cons (psd_if (pdw_pt (pdw_or (pdt_cmp (od_ne hr.units) (pd_callB cd_len (by rfl) T.n_len boot_len nm_len.2.2 nm_len.1 (pda_cons (pd_var (i := 4) rfl (.inl rfl) nm_table.1 nm_table.2.1) (pda_nil))) (pd_int) (nomark _)) (pdw_or (pdt_cmp (od_ne hr.units) (pd_ix xd_ix (pd_var (i := 4) rfl (.inl rfl) nm_table.1 nm_table.2.1) (pd_un ud_neg (pd_int))) (pd_tup (pda_cons (pd_int) (pda_cons (pd_bin od_addA (pd_callTy cd_tuple (by rfl) T.n_tuple boot_tuple nm_tuple.2.2 nm_tuple.1 (pda_cons (pdo_pd (pdo_lc (own := [("hour", 6)]) (is := [6]) rfl sc__law_great_right.nd (pdi_rng1 (by rfl) T.n_range (pda_cons (pd_int) (pda_nil))) (blkOk_by (N := Nm__law_great_right) (sc := (defScope st__law_great_right)) (by decide +kernel)) (fun s H C cl fp => pgd_name (i := 6) sc__law_great_right.nd rfl (.inl rfl) (.inr rfl)) (fun s H C cl fp => pts_yes) (fun s H C cl fp => pd_tup (pda_cons (pd_var (i := 6) rfl (.inl rfl) nm_hour.1 nm_hour.2.1) (pda_cons (pd_var (i := 6) rfl (.inl rfl) nm_hour.1 nm_hour.2.1) (pda_cons (pd_bin od_mod (pd_callTy cd_int (by rfl) T.n_int boot_int nm_int.2.2 nm_int.1 (pda_cons (pd_var (i := 6) rfl (.inl rfl) nm_hour.1 nm_hour.2.1) (pda_nil))) (pd_int)) (pda_nil))))) (by decide)) dComp_lst) (pda_nil))) (pd_tup (pda_cons (pd_tup (pda_cons (pd_int) (pda_cons (pd_int) (pda_cons (pd_int) (pda_nil))))) (pda_nil)))) (pda_nil)))) (nomark _)) (pdw_or1 (pdt_cmp (od_ne hr.units) (pd_call (ok_needless T Dd S Lm) (hr.mono (by decide)) (by rfl) (L2N.takes_of rfl rfl rfl rfl) (pda_cons (pd_var (i := 2) rfl (.inl rfl) nm_steps.1 nm_steps.2.1) (pda_nil)) rfl nm_needless.1) (pd_tup (pda_nil)) (nomark _)))))) (pssd_one (psd_ret (pd_bl))) (pssd_nil)) (
  pssd_cons (psd_if (pdw_pt (pdw_or (pdt_cmp (od_ne hr.units) (pd_call (ok_known_at T Dd S Lm) (hr.mono (by decide)) (by rfl) (L2N.takes_of rfl rfl rfl rfl) (pda_cons (pd_var (i := 2) rfl (.inl rfl) nm_steps.1 nm_steps.2.1) (pda_cons (pd_bin od_addA (pd_bin od_mulA (pd_int) (pd_var (i := 1) rfl (.inl rfl) nm_at.1 nm_at.2.1)) (pd_int)) (pda_cons (pd_bin od_addA (pd_var (i := 1) rfl (.inl rfl) nm_at.1 nm_at.2.1) (pd_int)) (pda_nil)))) rfl nm_known_at.1) (pd_bin od_mod (pd_callTy cd_int (by rfl) T.n_int boot_int nm_int.2.2 nm_int.1 (pda_cons (pd_var (i := 1) rfl (.inl rfl) nm_at.1 nm_at.2.1) (pda_nil))) (pd_int)) (nomark _)) (pdw_or1 (pdt_cmp (od_ne hr.units) (pd_call (ok_known_at T Dd S Lm) (hr.mono (by decide)) (by rfl) (L2N.takes_of rfl rfl rfl rfl) (pda_cons (pd_var (i := 2) rfl (.inl rfl) nm_steps.1 nm_steps.2.1) (pda_cons (pd_bin od_addA (pd_bin od_mulA (pd_int) (pd_var (i := 1) rfl (.inl rfl) nm_at.1 nm_at.2.1)) (pd_int)) (pda_cons (pd_bin od_addA (pd_var (i := 1) rfl (.inl rfl) nm_at.1 nm_at.2.1) (pd_int)) (pda_nil)))) rfl nm_known_at.1) (pd_bin od_mod (pd_callTy cd_int (by rfl) T.n_int boot_int nm_int.2.2 nm_int.1 (pda_cons (pd_bin od_addA (pd_var (i := 1) rfl (.inl rfl) nm_at.1 nm_at.2.1) (pd_int)) (pda_nil))) (pd_int)) (nomark _))))) (pssd_one (psd_ret (pd_bl))) (pssd_nil)) (
  pssd_cons (psd_if (pdw_pt (pdw_or (pdt_cmp (od_ne hr.units) (pd_call (ok_known_table T Dd S Lm) (hr.mono (by decide)) (by rfl) (L2N.takes_of rfl rfl rfl rfl) (pda_cons (pd_var (i := 3) rfl (.inl rfl) nm_twice.1 nm_twice.2.1) (pda_nil)) rfl nm_known_table.1) (pd_callTy cd_tuple (by rfl) T.n_tuple boot_tuple nm_tuple.2.2 nm_tuple.1 (pda_cons (pdo_pd (pdo_lc (own := [("turn", 5)]) (is := [5]) rfl sc__law_great_right.nd (pdi_rng1 (by rfl) T.n_range (pda_cons (pd_int) (pda_nil))) (blkOk_by (N := Nm__law_great_right) (sc := (defScope st__law_great_right)) (by decide +kernel)) (fun s H C cl fp => pgd_name (i := 5) sc__law_great_right.nd rfl (.inl rfl) (.inr rfl)) (fun s H C cl fp => pts_yes) (fun s H C cl fp => pd_tup (pda_cons (pd_var (i := 5) rfl (.inl rfl) nm_turn.1 nm_turn.2.1) (pda_cons (pd_tup (pda_cons (pd_tup (pda_cons (pd_int) (pda_cons (pd_int) (pda_cons (pd_bin od_mod (pd_callTy cd_int (by rfl) T.n_int boot_int nm_int.2.2 nm_int.1 (pda_cons (pd_var (i := 5) rfl (.inl rfl) nm_turn.1 nm_turn.2.1) (pda_nil))) (pd_int)) (pda_nil))))) (pda_nil))) (pda_nil)))) (by decide)) dComp_lst) (pda_nil))) (nomark _)) (pdw_or1 (pdt_cmp (od_ne hr.units) (pd_call (ok_needless T Dd S Lm) (hr.mono (by decide)) (by rfl) (L2N.takes_of rfl rfl rfl rfl) (pda_cons (pd_var (i := 3) rfl (.inl rfl) nm_twice.1 nm_twice.2.1) (pda_nil)) rfl nm_needless.1) (pd_tupleRng1 rfl T.n_tuple T.n_range (pd_int)) (nomark _))))) (pssd_one (psd_ret (pd_bl))) (pssd_nil)) (
  pssd_one (psd_ret (pd_cmp (od_eq hr.units) (pd_call (ok_known_table T Dd S Lm) (hr.mono (by decide)) (by rfl) (L2N.takes_of rfl rfl rfl rfl) (pda_cons (pd_bin od_mulA (pd_tup (pda_cons (pd_tup (pda_cons (pd_int) (pda_cons (pd_int) (pda_cons (pd_int) (pda_cons (pd_int) (pda_nil)))))) (pda_nil))) (pd_int)) (pda_nil)) rfl nm_known_table.1) (pd_tup (pda_cons (pd_tup (pda_cons (pd_int) (pda_cons (pd_tup (pda_cons (pd_tup (pda_cons (pd_int) (pda_cons (pd_int) (pda_cons (pd_int) (pda_nil))))) (pda_nil))) (pda_nil)))) (pda_nil))) (nomark _))))))))))
theorem ok__law_errors_right (T : Tp K mg) (Dd : Df K mg) (S : XcM K mg (zp TT) sub_ 2 3) (Lm : Lms base K mg TT) : FnD P w K mg base (zp TT) 8 "_law_errors_right" 0 sem__law_errors_right := by
  obtain ⟨f, fd, cF, Pt, hm, F, hb, tabs, inT, uniq⟩ := Lm.l__law_errors_right
  refine fnDc (k := 7) (Nm := Nm__law_errors_right) F sc__law_errors_right hm hb rfl (SemLe.refl _ _) (den := den__law_errors_right) fun A outer s H E N hr => ?_
  exact pssd_cons (psd_set (i := 3) sc__law_errors_right.nd rfl (.inr rfl) (pd_tup (pda_cons (pd_int) (pda_cons (pd_int) (pda_cons (pd_int) (pda_cons (pd_int) (pda_nil)))))) rfl (.inl rfl)) (
  pssd_cons (psd_set (i := 0) sc__law_errors_right.nd rfl (.inl rfl) (pdo_pd (pdo_lst (pda_cons (pd_non) (pda_cons (pdo_pd (pdo_lst (pda_cons (pd_var (i := 3) rfl (.inr (.inl rfl)) nm_good.1 nm_good.2.1) (pda_nil))) dLst_lst) (pda_cons (pd_bin od_mulA (pd_tup (pda_cons (pd_var (i := 3) rfl (.inr (.inl rfl)) nm_good.1 nm_good.2.1) (pda_nil))) (pd_int)) (pda_cons (pd_tup (pda_cons (pd_sl sd_any (pd_var (i := 3) rfl (.inr (.inl rfl)) nm_good.1 nm_good.2.1) pdp_none (pdp_some (pd_int))) (pda_nil))) (pda_cons (pd_tup (pda_cons (pd_bin od_addA (pd_var (i := 3) rfl (.inr (.inl rfl)) nm_good.1 nm_good.2.1) (pd_tup (pda_cons (pd_int) (pda_nil)))) (pda_nil))) (pda_cons (pd_tup (pda_cons (pd_callTy (calldo cdo_list) (by rfl) T.n_list boot_list nm_list.2.2 nm_list.1 (pda_cons (pd_var (i := 3) rfl (.inr (.inl rfl)) nm_good.1 nm_good.2.1) (pda_nil))) (pda_nil))) (pda_cons (pd_tup (pda_cons (pd_tup (pda_cons (pd_int) (pda_cons (pd_int) (pda_cons (pd_int) (pda_cons (pd_int) (pda_nil)))))) (pda_cons (pd_var (i := 3) rfl (.inr (.inl rfl)) nm_good.1 nm_good.2.1) (pda_nil)))) (pda_cons (pd_tup (pda_cons (pd_tup (pda_cons (pd_int) (pda_cons (pd_int) (pda_cons (pd_int) (pda_cons (pd_int) (pda_nil)))))) (pda_nil))) (pda_cons (pd_tup (pda_cons (pd_tup (pda_cons (pd_un ud_neg (pd_int)) (pda_cons (pd_int) (pda_cons (pd_int) (pda_cons (pd_int) (pda_nil)))))) (pda_nil))) (pda_cons (pd_tup (pda_cons (pd_tup (pda_cons (pd_int) (pda_cons (pd_int) (pda_cons (pd_int) (pda_cons (pd_int) (pda_nil)))))) (pda_nil))) (pda_cons (pd_tup (pda_cons (pd_tup (pda_cons (pd_int) (pda_cons (pd_int) (pda_cons (pd_int) (pda_cons (pd_int) (pda_nil)))))) (pda_nil))) (pda_nil))))))))))))) dLst_lst) rfl (.inr rfl)) (
  pssd_cons (psd_set (i := 0) sc__law_errors_right.nd rfl (.inl rfl) (pd_bin od_addA (pd_var (i := 0) rfl (.inl rfl) nm_odds.1 nm_odds.2.1) (pdo_pd (pdo_lst (pda_cons (pd_tup (pda_cons (pd_tup (pda_cons (pd_int) (pda_cons (pd_un ud_neg (pd_int)) (pda_cons (pd_int) (pda_cons (pd_int) (pda_nil)))))) (pda_nil))) (pda_cons (pd_tup (pda_cons (pd_tup (pda_cons (pd_int) (pda_cons (pd_int) (pda_cons (pd_int) (pda_cons (pd_int) (pda_nil)))))) (pda_nil))) (pda_cons (pd_tup (pda_cons (pd_tup (pda_cons (pd_int) (pda_cons (pd_int) (pda_cons (pd_int) (pda_cons (pd_un ud_neg (pd_int)) (pda_nil)))))) (pda_nil))) (pda_cons (pd_tup (pda_cons (pd_tup (pda_cons (pd_int) (pda_cons (pd_int) (pda_cons (pd_int) (pda_cons (pd_bl) (pda_nil)))))) (pda_nil))) (pda_cons (pd_tup (pda_cons (pd_tup (pda_cons (pd_bl) (pda_cons (pd_int) (pda_cons (pd_int) (pda_cons (pd_int) (pda_nil)))))) (pda_nil))) (pda_cons (pd_tup (pda_cons (pd_tup (pda_cons (pd_int) (pda_cons (pd_int) (pda_cons (pd_non) (pda_cons (pd_int) (pda_nil)))))) (pda_nil))) (pda_cons (pd_var (i := 3) rfl (.inr (.inl rfl)) nm_good.1 nm_good.2.1) (pda_nil))))))))) dLst_lst)) rfl (.inr rfl)) (
  pssd_cons (psd_if (pdw_pt (pdw_or (pdt_cmp (od_ne hr.units) (pdo_pd (pdo_lc (own := [("odd", 1)]) (is := [1]) rfl sc__law_errors_right.nd (pdi_seq (pd_var (i := 0) rfl (.inl rfl) nm_odds.1 nm_odds.2.1)) (blkOk_by (N := Nm__law_errors_right) (sc := (defScope st__law_errors_right)) (by decide +kernel)) (fun s H C cl fp => pgd_name (i := 1) sc__law_errors_right.nd rfl (.inl rfl) (.inr rfl)) (fun s H C cl fp => pts_one (pdt_cmp od_notB (pd_call (ok_are_corrections T Dd S Lm) (hr.mono (by decide)) (by rfl) takesN0 (pda_cons (pd_var (i := 1) rfl (.inl rfl) nm_odd.1 nm_odd.2.1) (pda_nil)) rfl nm_are_corrections.1) (pd_bl) (nomark _))) (fun s H C cl fp => pd_var (i := 1) rfl (.inl rfl) nm_odd.1 nm_odd.2.1) (by decide)) dComp_lst) (pdo_pd (pdo_lst (pda_nil)) dLst_lst) (nomark _)) (pdw_or1 (pdt_cmp (od_ne hr.units) (pdo_pd (pdo_lc (own := [("one", 4)]) (is := [4]) rfl sc__law_errors_right.nd (pdi_seq (pd_tup (pda_cons (pd_tup (pda_nil)) (pda_cons (pd_bin od_mulA (pd_tup (pda_cons (pd_var (i := 3) rfl (.inr (.inl rfl)) nm_good.1 nm_good.2.1) (pda_nil))) (pd_int)) (pda_cons (pd_tup (pda_cons (pd_tup (pda_cons (pd_int) (pda_cons (pd_int) (pda_cons (pd_int) (pda_cons (pd_int) (pda_nil)))))) (pda_nil))) (pda_nil)))))) (blkOk_by (N := Nm__law_errors_right) (sc := (defScope st__law_errors_right)) (by decide +kernel)) (fun s H C cl fp => pgd_name (i := 4) sc__law_errors_right.nd rfl (.inl rfl) (.inr rfl)) (fun s H C cl fp => pts_yes) (fun s H C cl fp => pd_call (ok_are_corrections T Dd S Lm) (hr.mono (by decide)) (by rfl) takesN0 (pda_cons (pd_var (i := 4) rfl (.inl rfl) nm_one.1 nm_one.2.1) (pda_nil)) rfl nm_are_corrections.1) (by decide)) dComp_lst) (pd_bin od_mulA (pdo_pd (pdo_lst (pda_cons (pd_bl) (pda_nil))) dLst_lst) (pd_int)) (nomark _))))) (pssd_one (psd_ret (pd_bl))) (pssd_nil)) (
  pssd_cons (psd_own (i := 2) sc__law_errors_right.nd rfl (.inl rfl) (pdo_lst (pda_nil)) rfl (.inr rfl)) (
  pssd_cons (psd_for (is := [1]) (passes_of rfl) rfl (pdi_seq (pd_sl sd_any (pd_var (i := 0) rfl (.inl rfl) nm_odds.1 nm_odds.2.1) pdp_none (pdp_some (pd_int)))) (pgd_name (i := 1) sc__law_errors_right.nd rfl (.inr rfl) (.inl rfl)) (pssd_cons (psd_own (i := 2) sc__law_errors_right.nd rfl (.inl rfl) (pdo_bin odo_cat (pd_var (i := 2) rfl (.inl rfl) nm_words.1 nm_words.2.1) (pdo_pd (pdo_lc (own := [("call", 5)]) (is := [5]) rfl sc__law_errors_right.nd (pdi_seq (pd_tup (pda_cons (pd_fnv (k := 9) (ok_known_table T Dd S Lm) (by rfl) rfl nm_known_table.1) (pda_cons (pd_fnv (k := 10) (ok_needless T Dd S Lm) (by rfl) rfl nm_needless.1) (pda_nil))))) (blkOk_by (N := Nm__law_errors_right) (sc := (defScope st__law_errors_right)) (by decide +kernel)) (fun s H C cl fp => pgd_name (i := 5) sc__law_errors_right.nd rfl (.inr rfl) (.inl rfl)) (fun s H C cl fp => pts_yes) (fun s H C cl fp => pd_lam (k := 5) (get__law_error T Dd S Lm) (by rfl) tabs rfl inT uniq (hr.mono (by decide)) (lamS_by (sc := (relS cs__law_errors_right_2 (defScope st__law_errors_right))) (scope := cs__law_errors_right_3) (by decide +kernel)) rfl (fun _ _ _ _ _ => rfl) (fun A outer s H E f c' hrl => pd_callV (i := 5) (lev := 5) rfl (by first | exact .inr (.inl rfl) | exact .inr (.inr rfl)) nm_call.1 nm_call.2.1 (fun k sem q => by
      try dsimp only at q
      split at q
      · rename_i e; subst e; cases q; exact (ok_known_table T Dd S Lm).up (k' := 5) (by decide)
      split at q
      · rename_i e; subst e; cases q; exact (ok_needless T Dd S Lm).up (k' := 5) (by decide)
      cases q) (hrl.mono (by decide)) (L2N.takes_of rfl rfl rfl rfl) (pda_cons (pd_var (i := 1) rfl (by first | exact .inr (.inl rfl) | exact .inr (.inr rfl)) nm_odd.1 nm_odd.2.1) (pda_nil)) rfl) nm__law_error.1 nm_call.1 nm_call.2.1) (by decide)) dComp_lst)) rfl (.inr rfl)) (
  pssd_one (psd_app (i := 2) rfl (.inl rfl) nm_words.1 nm_words.2.1 (pda_cons (pd_lam (k := 5) (get__law_error T Dd S Lm) (by rfl) tabs rfl inT uniq (hr.mono (by decide)) (lamS_by (sc := (defScope st__law_errors_right)) (scope := cs__law_errors_right_4) (by decide +kernel)) rfl (fun _ _ _ _ _ => rfl) (fun A outer s H E f c' hrl => pd_call (ok_known_at T Dd S Lm) (hrl.mono (by decide)) (by rfl) (L2N.takes_of rfl rfl rfl rfl) (pda_cons (pd_var (i := 1) rfl (by first | exact .inr (.inl rfl) | exact .inr (.inr rfl)) nm_odd.1 nm_odd.2.1) (pda_cons (pd_non) (pda_cons (pd_non) (pda_nil)))) rfl nm_known_at.1) nm__law_error.1 nm_call.1 nm_call.2.1) (pda_nil)))))) (
  pssd_cons (psd_own (i := 2) sc__law_errors_right.nd rfl (.inl rfl) (pdo_bin odo_cat (pd_var (i := 2) rfl (.inl rfl) nm_words.1 nm_words.2.1) (pdo_pd (pdo_lc (own := [("odd", 1)]) (is := [1]) rfl sc__law_errors_right.nd (pdi_seq (pd_tup (pda_cons (pd_non) (pda_cons (pd_un ud_neg (pd_int)) (pda_cons (pd_int) (pda_cons (pd_bl) (pda_nil))))))) (blkOk_by (N := Nm__law_errors_right) (sc := (defScope st__law_errors_right)) (by decide +kernel)) (fun s H C cl fp => pgd_name (i := 1) sc__law_errors_right.nd rfl (.inr rfl) (.inl rfl)) (fun s H C cl fp => pts_yes) (fun s H C cl fp => pd_lam (k := 5) (get__law_error T Dd S Lm) (by rfl) tabs rfl inT uniq (hr.mono (by decide)) (lamS_by (sc := (relS cs__law_errors_right_6 (defScope st__law_errors_right))) (scope := cs__law_errors_right_7) (by decide +kernel)) rfl (fun _ _ _ _ _ => rfl) (fun A outer s H E f c' hrl => pd_call (ok_known_at T Dd S Lm) (hrl.mono (by decide)) (by rfl) (L2N.takes_of rfl rfl rfl rfl) (pda_cons (pd_tup (pda_cons (pd_var (i := 3) rfl (by first | exact .inr (.inl rfl) | exact .inr (.inr rfl)) nm_good.1 nm_good.2.1) (pda_nil))) (pda_cons (pd_var (i := 1) rfl (by first | exact .inr (.inl rfl) | exact .inr (.inr rfl)) nm_odd.1 nm_odd.2.1) (pda_cons (pd_non) (pda_nil)))) rfl nm_known_at.1) nm__law_error.1 nm_call.1 nm_call.2.1) (by decide)) dComp_lst)) rfl (.inr rfl)) (
  pssd_cons (psd_own (i := 2) sc__law_errors_right.nd rfl (.inl rfl) (pdo_bin odo_cat (pd_var (i := 2) rfl (.inl rfl) nm_words.1 nm_words.2.1) (pdo_pd (pdo_lc (own := [("odd", 1)]) (is := [1]) rfl sc__law_errors_right.nd (pdi_seq (pd_tup (pda_cons (pd_non) (pda_cons (pd_un ud_neg (pd_int)) (pda_cons (pd_int) (pda_cons (pd_bl) (pda_cons (pd_str) (pda_nil)))))))) (blkOk_by (N := Nm__law_errors_right) (sc := (defScope st__law_errors_right)) (by decide +kernel)) (fun s H C cl fp => pgd_name (i := 1) sc__law_errors_right.nd rfl (.inr rfl) (.inl rfl)) (fun s H C cl fp => pts_yes) (fun s H C cl fp => pd_lam (k := 5) (get__law_error T Dd S Lm) (by rfl) tabs rfl inT uniq (hr.mono (by decide)) (lamS_by (sc := (relS cs__law_errors_right_8 (defScope st__law_errors_right))) (scope := cs__law_errors_right_9) (by decide +kernel)) rfl (fun _ _ _ _ _ => rfl) (fun A outer s H E f c' hrl => pd_call (ok_known_at T Dd S Lm) (hrl.mono (by decide)) (by rfl) (L2N.takes_of rfl rfl rfl rfl) (pda_cons (pd_tup (pda_cons (pd_var (i := 3) rfl (by first | exact .inr (.inl rfl) | exact .inr (.inr rfl)) nm_good.1 nm_good.2.1) (pda_nil))) (pda_cons (pd_int) (pda_cons (pd_var (i := 1) rfl (by first | exact .inr (.inl rfl) | exact .inr (.inr rfl)) nm_odd.1 nm_odd.2.1) (pda_nil)))) rfl nm_known_at.1) nm__law_error.1 nm_call.1 nm_call.2.1) (by decide)) dComp_lst)) rfl (.inr rfl)) (
  pssd_one (psd_ret (pd_cmp (od_eq hr.units) (pd_var (i := 2) rfl (.inl rfl) nm_words.1 nm_words.2.1) (pd_bin od_addA (pd_bin od_mulA (pdo_pd (pdo_lst (pda_cons (pd_str) (pda_nil))) dLst_lst) (pd_int)) (pd_bin od_mulA (pdo_pd (pdo_lst (pda_cons (pd_str) (pda_nil))) dLst_lst) (pd_int))) (nomark _)))))))))))
theorem ok_law (T : Tp K mg) (Dd : Df K mg) (S : XcM K mg (zp TT) sub_ 2 3) (Lm : Lms base K mg TT) {f : Addr} {fd : FuncData} (F : L2.Fun K "law" "law" st_law f fd) (hden : ∀ ns : List Int, ∃ c, run_law (cup0 ns) = .rt (.bl true) c) : FnOk P w K mg base (L2N.CX P w) 44 f fd ["script"] (spLaw K TT) := by
  obtain ⟨fC, fdC, mC, FC, bC⟩ := Dd.d__law_cup
  refine okN (k := 43) F sc_law (fun vs H Q E h => ?_) (fun cdv A outer s H vs Q E hr h => ?_)
  · obtain ⟨a, ns, rfl, _⟩ := h
    rfl
  · obtain ⟨a, ns, rfl, hT, hS, hlen, q⟩ := h
    exact law_start (X := cxOf (L2N.CX P w) P w K mg base Nm_law "law" (defScope st_law) f cdv A outer s H E) (Z := zp TT) (σ := L2.start Nm_law [.ref a]) (Q := Q) (rest := (defBody st_law).tail) (W := fun cls d _ H => E cls d H) (n := 6) (i := 1) (ok__law_cup T FC) mC FC.kp bC (hr.mono (by decide)) sc_law.nd rfl rfl (by decide) (by decide) (.inl rfl) (.inl rfl) (.inr rfl) (by rfl)
      (fun N => pssd_cons (psd_for (is := [2]) (passes_of rfl) rfl (pdi_rng1 (by rfl) T.n_range (pda_cons (pd_int) (pda_nil))) (pgd_name (i := 2) sc_law.nd rfl (.inl rfl) (.inr rfl)) (pssd_one (psd_if (pdt_not (pdt_e (pd_call (ok__law_right T Dd S Lm) (hr.mono (by decide)) (by rfl) (L2N.takes_of rfl rfl rfl rfl) (pda_cons (pd_var (i := 1) rfl (.inl rfl) nm_cup.1 nm_cup.2.1) (pda_cons (pd_call (ok__law_corrections T Dd S Lm) (hr.mono (by decide)) (by rfl) (L2N.takes_of rfl rfl rfl rfl) (pda_cons (pd_var (i := 1) rfl (.inl rfl) nm_cup.1 nm_cup.2.1) (pda_cons (pd_int) (pda_nil))) rfl nm__law_corrections.1) (pda_cons (pd_bl) (pda_nil)))) rfl nm__law_right.1))) (pssd_one (psd_ret (pd_bl))) (pssd_nil)))) (
  pssd_cons (psd_if (pdt_not (pdt_e (pd_call (ok__law_right T Dd S Lm) (hr.mono (by decide)) (by rfl) (L2N.takes_of rfl rfl rfl rfl) (pda_cons (pd_var (i := 1) rfl (.inl rfl) nm_cup.1 nm_cup.2.1) (pda_cons (pd_call (ok__law_corrections T Dd S Lm) (hr.mono (by decide)) (by rfl) (L2N.takes_of rfl rfl rfl rfl) (pda_cons (pd_var (i := 1) rfl (.inl rfl) nm_cup.1 nm_cup.2.1) (pda_cons (pd_int) (pda_nil))) rfl nm__law_corrections.1) (pda_cons (pd_bl) (pda_nil)))) rfl nm__law_right.1))) (pssd_one (psd_ret (pd_bl))) (pssd_nil)) (
  pssd_cons (psd_set (i := 3) sc_law.nd rfl (.inl rfl) (pd_tup (pda_cons (pd_tup (pda_cons (pd_int) (pda_cons (pd_int) (pda_cons (pd_int) (pda_cons (pd_int) (pda_nil)))))) (pda_cons (pd_tup (pda_cons (pd_int) (pda_cons (pd_int) (pda_cons (pd_int) (pda_cons (pd_int) (pda_nil)))))) (pda_cons (pd_tup (pda_cons (pd_int) (pda_cons (pd_int) (pda_cons (pd_int) (pda_cons (pd_int) (pda_nil)))))) (pda_cons (pd_tup (pda_cons (pd_int) (pda_cons (pd_int) (pda_cons (pd_int) (pda_cons (pd_int) (pda_nil)))))) (pda_nil)))))) rfl (.inr rfl)) (
  pssd_cons (psd_set (i := 4) sc_law.nd rfl (.inl rfl) (pdo_pd (pdo_lst (pda_cons (pd_call (ok_known_at T Dd S Lm) (hr.mono (by decide)) (by rfl) (L2N.takes_of rfl rfl rfl rfl) (pda_cons (pd_var (i := 3) rfl (.inl rfl) nm_some.1 nm_some.2.1) (pda_cons (pd_int) (pda_cons (pd_int) (pda_nil)))) rfl nm_known_at.1) (pda_cons (pd_call (ok_known_at T Dd S Lm) (hr.mono (by decide)) (by rfl) (L2N.takes_of rfl rfl rfl rfl) (pda_cons (pd_var (i := 3) rfl (.inl rfl) nm_some.1 nm_some.2.1) (pda_cons (pd_int) (pda_cons (pd_int) (pda_nil)))) rfl nm_known_at.1) (pda_cons (pd_call (ok_known_at T Dd S Lm) (hr.mono (by decide)) (by rfl) (L2N.takes_of rfl rfl rfl rfl) (pda_cons (pd_var (i := 3) rfl (.inl rfl) nm_some.1 nm_some.2.1) (pda_cons (pd_int) (pda_cons (pd_int) (pda_nil)))) rfl nm_known_at.1) (pda_cons (pd_call (ok_needless T Dd S Lm) (hr.mono (by decide)) (by rfl) (L2N.takes_of rfl rfl rfl rfl) (pda_cons (pd_var (i := 3) rfl (.inl rfl) nm_some.1 nm_some.2.1) (pda_nil)) rfl nm_needless.1) (pda_cons (pd_call (ok_known_table T Dd S Lm) (hr.mono (by decide)) (by rfl) (L2N.takes_of rfl rfl rfl rfl) (pda_cons (pd_var (i := 3) rfl (.inl rfl) nm_some.1 nm_some.2.1) (pda_nil)) rfl nm_known_table.1) (pda_cons (pd_call (ok_known_table T Dd S Lm) (hr.mono (by decide)) (by rfl) (L2N.takes_of rfl rfl rfl rfl) (pda_cons (pd_tup (pda_nil)) (pda_nil)) rfl nm_known_table.1) (pda_cons (pd_call (ok_needless T Dd S Lm) (hr.mono (by decide)) (by rfl) (L2N.takes_of rfl rfl rfl rfl) (pda_cons (pd_tup (pda_nil)) (pda_nil)) rfl nm_needless.1) (pda_nil))))))))) dLst_lst) rfl (.inr rfl)) (
  pssd_cons (psd_set (i := 5) sc_law.nd rfl (.inl rfl) (pdo_pd (pdo_lst (pda_cons (pd_non) (pda_cons (pd_int) (pda_cons (pd_int) (pda_cons (pd_tup (pda_cons (pd_int) (pda_nil))) (pda_cons (pd_tup (pda_cons (pd_tup (pda_cons (pd_int) (pda_cons (pd_tup (pda_cons (pd_tup (pda_cons (pd_int) (pda_cons (pd_int) (pda_cons (pd_int) (pda_nil))))) (pda_nil))) (pda_nil)))) (pda_cons (pd_tup (pda_cons (pd_int) (pda_cons (pd_tup (pda_cons (pd_tup (pda_cons (pd_int) (pda_cons (pd_int) (pda_cons (pd_int) (pda_nil))))) (pda_cons (pd_tup (pda_cons (pd_int) (pda_cons (pd_int) (pda_cons (pd_int) (pda_nil))))) (pda_cons (pd_tup (pda_cons (pd_int) (pda_cons (pd_int) (pda_cons (pd_int) (pda_nil))))) (pda_cons (pd_tup (pda_cons (pd_int) (pda_cons (pd_int) (pda_cons (pd_int) (pda_nil))))) (pda_cons (pd_tup (pda_cons (pd_int) (pda_cons (pd_int) (pda_cons (pd_int) (pda_nil))))) (pda_nil))))))) (pda_nil)))) (pda_nil)))) (pda_cons (pd_tup (pda_nil)) (pda_cons (pd_tup (pda_nil)) (pda_nil))))))))) dLst_lst) rfl (.inr rfl)) (
  pssd_cons (psd_if (pdt_not (pdt_e (pd_call (ok__law_like T Dd S Lm 40) (hr.mono (by decide)) (by rfl) (L2N.takes_of rfl rfl rfl rfl) (pda_cons (pd_var (i := 4) rfl (.inl rfl) nm_told.1 nm_told.2.1) (pda_cons (pd_var (i := 5) rfl (.inl rfl) nm_due.1 nm_due.2.1) (pda_nil))) rfl nm__law_like.1))) (pssd_one (psd_ret (pd_bl))) (pssd_nil)) (
  pssd_cons (psd_if (pdw_pt (pdw_or (pdt_cmp (od_ne hr.units) (pd_call (ok_known_at T Dd S Lm) (hr.mono (by decide)) (by rfl) (L2N.takes_of rfl rfl rfl rfl) (pda_cons (pd_var (i := 3) rfl (.inl rfl) nm_some.1 nm_some.2.1) (pda_cons (pd_int) (pda_cons (pd_int) (pda_nil)))) rfl nm_known_at.1) (pd_int) (nomark _)) (pdw_or1 (pdt_cmp (od_ne hr.units) (pd_call (ok_known_table T Dd S Lm) (hr.mono (by decide)) (by rfl) (L2N.takes_of rfl rfl rfl rfl) (pda_cons (pd_tup (pda_cons (pd_tup (pda_cons (pd_int) (pda_cons (pd_int) (pda_cons (pd_int) (pda_cons (pd_int) (pda_nil)))))) (pda_nil))) (pda_nil)) rfl nm_known_table.1) (pd_tup (pda_cons (pd_tup (pda_cons (pd_int) (pda_cons (pd_tup (pda_cons (pd_tup (pda_cons (pd_int) (pda_cons (pd_int) (pda_cons (pd_int) (pda_nil))))) (pda_nil))) (pda_nil)))) (pda_nil))) (nomark _))))) (pssd_one (psd_ret (pd_bl))) (pssd_nil)) (
  pssd_one (psd_ret (pd_and (pd_call0 (ok__law_errors_right T Dd S Lm) (hr.mono (by decide)) (by rfl) (L2N.takes_of rfl rfl rfl rfl) nm__law_errors_right.1) (pd_one (pd_or (pd_cmp od_gt (pd_call (ok__law_roll T Dd S Lm) (hr.mono (by decide)) (by rfl) (L2N.takes_of rfl rfl rfl rfl) (pda_cons (pd_var (i := 1) rfl (.inl rfl) nm_cup.1 nm_cup.2.1) (pda_cons (pd_int) (pda_nil))) rfl nm__law_roll.1) (pd_int) (nomark _)) (pd_one (pd_call (ok__law_great_right T Dd S Lm) (hr.mono (by decide)) (by rfl) (L2N.takes_of rfl rfl rfl rfl) (pda_cons (pd_var (i := 1) rfl (.inl rfl) nm_cup.1 nm_cup.2.1) (pda_nil)) rfl nm__law_great_right.1)))))))))))))) hden rfl rfl rfl hT hS hlen q
end
end K77

set_option Elab.async false
set_option linter.all false
set_option maxRecDepth 100000
set_option maxHeartbeats 4000000
set_option autoImplicit false
namespace K77
open PySem PySem.Spec PyProof.Rows L2 LamX DL
theorem all_mk {l : PySem.W.OpenLaw} {w : World} {K : PySem.W.Frag} {h : Heap} {mg : Str → Option Value} {fa : Addr} (X : K.In h) (G : h.Ns mainGlobals mg) (hfa : mg "law" = some (.ref fa))
    (tab : ∀ t ∈ (["_law_errors_right"] : List Str), ∀ c P, PySem.W.tabIn K t = some (c, P) → PySem.W.CodeHd h c P ∧ h.get? P = some { cls := .none, data := .fields #[] })
    {f_is_whole : Addr} {oc_is_whole kV_is_whole dc_is_whole pm_is_whole ct_is_whole cd_is_whole : Value} {od_is_whole an_is_whole : Option Addr} {sl_is_whole : Array (Option Value)}
    {f_is_tuple_of : Addr} {oc_is_tuple_of kV_is_tuple_of dc_is_tuple_of pm_is_tuple_of ct_is_tuple_of cd_is_tuple_of : Value} {od_is_tuple_of an_is_tuple_of : Option Addr} {sl_is_tuple_of : Array (Option Value)}
    {f_stretches_of : Addr} {oc_stretches_of kV_stretches_of dc_stretches_of pm_stretches_of ct_stretches_of cd_stretches_of : Value} {od_stretches_of an_stretches_of : Option Addr} {sl_stretches_of : Array (Option Value)}
    {f__law_cup : Addr} {oc__law_cup kV__law_cup dc__law_cup pm__law_cup ct__law_cup cd__law_cup : Value} {od__law_cup an__law_cup : Option Addr} {sl__law_cup : Array (Option Value)}
    {f__law_roll : Addr} {oc__law_roll kV__law_roll dc__law_roll pm__law_roll ct__law_roll cd__law_roll : Value} {od__law_roll an__law_roll : Option Addr} {sl__law_roll : Array (Option Value)}
    {f__law_sort : Addr} {oc__law_sort kV__law_sort dc__law_sort pm__law_sort ct__law_sort cd__law_sort : Value} {od__law_sort an__law_sort : Option Addr} {sl__law_sort : Array (Option Value)}
    {f__law_error : Addr} {oc__law_error kV__law_error dc__law_error pm__law_error ct__law_error cd__law_error : Value} {od__law_error an__law_error : Option Addr} {sl__law_error : Array (Option Value)}
    {f__law_hours : Addr} {oc__law_hours kV__law_hours dc__law_hours pm__law_hours ct__law_hours cd__law_hours : Value} {od__law_hours an__law_hours : Option Addr} {sl__law_hours : Array (Option Value)}
    {f__law_stretches : Addr} {oc__law_stretches kV__law_stretches dc__law_stretches pm__law_stretches ct__law_stretches cd__law_stretches : Value} {od__law_stretches an__law_stretches : Option Addr} {sl__law_stretches : Array (Option Value)}
    {f_need_whole : Addr} {oc_need_whole kV_need_whole dc_need_whole pm_need_whole ct_need_whole cd_need_whole : Value} {od_need_whole an_need_whole : Option Addr} {sl_need_whole : Array (Option Value)}
    {f_is_correction : Addr} {oc_is_correction kV_is_correction dc_is_correction pm_is_correction ct_is_correction cd_is_correction : Value} {od_is_correction an_is_correction : Option Addr} {sl_is_correction : Array (Option Value)}
    {f_table_in : Addr} {oc_table_in kV_table_in dc_table_in pm_table_in ct_table_in cd_table_in : Value} {od_table_in an_table_in : Option Addr} {sl_table_in : Array (Option Value)}
    {f__law_some : Addr} {oc__law_some kV__law_some dc__law_some pm__law_some ct__law_some cd__law_some : Value} {od__law_some an__law_some : Option Addr} {sl__law_some : Array (Option Value)}
    {f__law_like : Addr} {oc__law_like kV__law_like dc__law_like pm__law_like ct__law_like cd__law_like : Value} {od__law_like an__law_like : Option Addr} {sl__law_like : Array (Option Value)}
    {f__law_table : Addr} {oc__law_table kV__law_table dc__law_table pm__law_table ct__law_table cd__law_table : Value} {od__law_table an__law_table : Option Addr} {sl__law_table : Array (Option Value)}
    {f_are_corrections : Addr} {oc_are_corrections kV_are_corrections dc_are_corrections pm_are_corrections ct_are_corrections cd_are_corrections : Value} {od_are_corrections an_are_corrections : Option Addr} {sl_are_corrections : Array (Option Value)}
    {f__law_corrections : Addr} {oc__law_corrections kV__law_corrections dc__law_corrections pm__law_corrections ct__law_corrections cd__law_corrections : Value} {od__law_corrections an__law_corrections : Option Addr} {sl__law_corrections : Array (Option Value)}
    {f_need_corrections : Addr} {oc_need_corrections kV_need_corrections dc_need_corrections pm_need_corrections ct_need_corrections cd_need_corrections : Value} {od_need_corrections an_need_corrections : Option Addr} {sl_need_corrections : Array (Option Value)}
    {f_known_at : Addr} {oc_known_at kV_known_at dc_known_at pm_known_at ct_known_at cd_known_at : Value} {od_known_at an_known_at : Option Addr} {sl_known_at : Array (Option Value)}
    {f_known_table : Addr} {oc_known_table kV_known_table dc_known_table pm_known_table ct_known_table cd_known_table : Value} {od_known_table an_known_table : Option Addr} {sl_known_table : Array (Option Value)}
    {f_needless : Addr} {oc_needless kV_needless dc_needless pm_needless ct_needless cd_needless : Value} {od_needless an_needless : Option Addr} {sl_needless : Array (Option Value)}
    {f__law_right : Addr} {oc__law_right kV__law_right dc__law_right pm__law_right ct__law_right cd__law_right : Value} {od__law_right an__law_right : Option Addr} {sl__law_right : Array (Option Value)}
    {f__law_great_right : Addr} {oc__law_great_right kV__law_great_right dc__law_great_right pm__law_great_right ct__law_great_right cd__law_great_right : Value} {od__law_great_right an__law_great_right : Option Addr} {sl__law_great_right : Array (Option Value)}
    {f__law_errors_right : Addr} {oc__law_errors_right kV__law_errors_right dc__law_errors_right pm__law_errors_right ct__law_errors_right : Value} {od__law_errors_right an__law_errors_right : Option Addr} {sl__law_errors_right : Array (Option Value)}
    {c__law_errors_right P__law_errors_right : Addr}
    {ce__law_errors_right : Value} {cx__law_errors_right : Option Addr} {cv__law_errors_right : Array Value} {cs__law_errors_right : Array (Option Value)}
    {f_law : Addr} {oc_law kV_law dc_law pm_law ct_law cd_law : Value} {od_law an_law : Option Addr} {sl_law : Array (Option Value)}
    {C_InvalidNumber : Addr}
    {C_InvalidCorrections : Addr}
    {C_HallError : Addr}
    {tk_HOURS : Tok}
    {tk_MANY : Tok}
    {tk_TIME : Tok}
    (a_is_whole : PySem.W.nsIn K mainGlobals "is_whole" = some (some (.ref f_is_whole)))
    (l_is_whole : K.lookup f_is_whole = some ⟨oc_is_whole, od_is_whole, .func (PySem.W.fnOf "is_whole" "is_whole" (defArgs st_is_whole) (defBody st_is_whole) (defScope st_is_whole) .none kV_is_whole dc_is_whole pm_is_whole an_is_whole cd_is_whole ct_is_whole), sl_is_whole⟩)
    (b_is_whole : PySem.W.codeIn K cd_is_whole "is_whole" = true)
    (k_is_whole : PySem.W.keepIn K (.ref f_is_whole) = true)
    (a_is_tuple_of : PySem.W.nsIn K mainGlobals "is_tuple_of" = some (some (.ref f_is_tuple_of)))
    (l_is_tuple_of : K.lookup f_is_tuple_of = some ⟨oc_is_tuple_of, od_is_tuple_of, .func (PySem.W.fnOf "is_tuple_of" "is_tuple_of" (defArgs st_is_tuple_of) (defBody st_is_tuple_of) (defScope st_is_tuple_of) .none kV_is_tuple_of dc_is_tuple_of pm_is_tuple_of an_is_tuple_of cd_is_tuple_of ct_is_tuple_of), sl_is_tuple_of⟩)
    (b_is_tuple_of : PySem.W.codeIn K cd_is_tuple_of "is_tuple_of" = true)
    (k_is_tuple_of : PySem.W.keepIn K (.ref f_is_tuple_of) = true)
    (a_stretches_of : PySem.W.nsIn K mainGlobals "stretches_of" = some (some (.ref f_stretches_of)))
    (l_stretches_of : K.lookup f_stretches_of = some ⟨oc_stretches_of, od_stretches_of, .func (PySem.W.fnOf "stretches_of" "stretches_of" (defArgs st_stretches_of) (defBody st_stretches_of) (defScope st_stretches_of) .none kV_stretches_of dc_stretches_of pm_stretches_of an_stretches_of cd_stretches_of ct_stretches_of), sl_stretches_of⟩)
    (b_stretches_of : PySem.W.codeIn K cd_stretches_of "stretches_of" = true)
    (k_stretches_of : PySem.W.keepIn K (.ref f_stretches_of) = true)
    (a__law_cup : PySem.W.nsIn K mainGlobals "_law_cup" = some (some (.ref f__law_cup)))
    (l__law_cup : K.lookup f__law_cup = some ⟨oc__law_cup, od__law_cup, .func (PySem.W.fnOf "_law_cup" "_law_cup" (defArgs st__law_cup) (defBody st__law_cup) (defScope st__law_cup) .none kV__law_cup dc__law_cup pm__law_cup an__law_cup cd__law_cup ct__law_cup), sl__law_cup⟩)
    (b__law_cup : PySem.W.codeIn K cd__law_cup "_law_cup" = true)
    (k__law_cup : PySem.W.keepIn K (.ref f__law_cup) = true)
    (a__law_roll : PySem.W.nsIn K mainGlobals "_law_roll" = some (some (.ref f__law_roll)))
    (l__law_roll : K.lookup f__law_roll = some ⟨oc__law_roll, od__law_roll, .func (PySem.W.fnOf "_law_roll" "_law_roll" (defArgs st__law_roll) (defBody st__law_roll) (defScope st__law_roll) .none kV__law_roll dc__law_roll pm__law_roll an__law_roll cd__law_roll ct__law_roll), sl__law_roll⟩)
    (b__law_roll : PySem.W.codeIn K cd__law_roll "_law_roll" = true)
    (k__law_roll : PySem.W.keepIn K (.ref f__law_roll) = true)
    (a__law_sort : PySem.W.nsIn K mainGlobals "_law_sort" = some (some (.ref f__law_sort)))
    (l__law_sort : K.lookup f__law_sort = some ⟨oc__law_sort, od__law_sort, .func (PySem.W.fnOf "_law_sort" "_law_sort" (defArgs st__law_sort) (defBody st__law_sort) (defScope st__law_sort) .none kV__law_sort dc__law_sort pm__law_sort an__law_sort cd__law_sort ct__law_sort), sl__law_sort⟩)
    (b__law_sort : PySem.W.codeIn K cd__law_sort "_law_sort" = true)
    (k__law_sort : PySem.W.keepIn K (.ref f__law_sort) = true)
    (a__law_error : PySem.W.nsIn K mainGlobals "_law_error" = some (some (.ref f__law_error)))
    (l__law_error : K.lookup f__law_error = some ⟨oc__law_error, od__law_error, .func (PySem.W.fnOf "_law_error" "_law_error" (defArgs st__law_error) (defBody st__law_error) (defScope st__law_error) .none kV__law_error dc__law_error pm__law_error an__law_error cd__law_error ct__law_error), sl__law_error⟩)
    (b__law_error : PySem.W.codeIn K cd__law_error "_law_error" = true)
    (k__law_error : PySem.W.keepIn K (.ref f__law_error) = true)
    (a__law_hours : PySem.W.nsIn K mainGlobals "_law_hours" = some (some (.ref f__law_hours)))
    (l__law_hours : K.lookup f__law_hours = some ⟨oc__law_hours, od__law_hours, .func (PySem.W.fnOf "_law_hours" "_law_hours" (defArgs st__law_hours) (defBody st__law_hours) (defScope st__law_hours) .none kV__law_hours dc__law_hours pm__law_hours an__law_hours cd__law_hours ct__law_hours), sl__law_hours⟩)
    (b__law_hours : PySem.W.codeIn K cd__law_hours "_law_hours" = true)
    (k__law_hours : PySem.W.keepIn K (.ref f__law_hours) = true)
    (a__law_stretches : PySem.W.nsIn K mainGlobals "_law_stretches" = some (some (.ref f__law_stretches)))
    (l__law_stretches : K.lookup f__law_stretches = some ⟨oc__law_stretches, od__law_stretches, .func (PySem.W.fnOf "_law_stretches" "_law_stretches" (defArgs st__law_stretches) (defBody st__law_stretches) (defScope st__law_stretches) .none kV__law_stretches dc__law_stretches pm__law_stretches an__law_stretches cd__law_stretches ct__law_stretches), sl__law_stretches⟩)
    (b__law_stretches : PySem.W.codeIn K cd__law_stretches "_law_stretches" = true)
    (k__law_stretches : PySem.W.keepIn K (.ref f__law_stretches) = true)
    (a_need_whole : PySem.W.nsIn K mainGlobals "need_whole" = some (some (.ref f_need_whole)))
    (l_need_whole : K.lookup f_need_whole = some ⟨oc_need_whole, od_need_whole, .func (PySem.W.fnOf "need_whole" "need_whole" (defArgs st_need_whole) (defBody st_need_whole) (defScope st_need_whole) .none kV_need_whole dc_need_whole pm_need_whole an_need_whole cd_need_whole ct_need_whole), sl_need_whole⟩)
    (b_need_whole : PySem.W.codeIn K cd_need_whole "need_whole" = true)
    (k_need_whole : PySem.W.keepIn K (.ref f_need_whole) = true)
    (a_is_correction : PySem.W.nsIn K mainGlobals "is_correction" = some (some (.ref f_is_correction)))
    (l_is_correction : K.lookup f_is_correction = some ⟨oc_is_correction, od_is_correction, .func (PySem.W.fnOf "is_correction" "is_correction" (defArgs st_is_correction) (defBody st_is_correction) (defScope st_is_correction) .none kV_is_correction dc_is_correction pm_is_correction an_is_correction cd_is_correction ct_is_correction), sl_is_correction⟩)
    (b_is_correction : PySem.W.codeIn K cd_is_correction "is_correction" = true)
    (k_is_correction : PySem.W.keepIn K (.ref f_is_correction) = true)
    (a_table_in : PySem.W.nsIn K mainGlobals "table_in" = some (some (.ref f_table_in)))
    (l_table_in : K.lookup f_table_in = some ⟨oc_table_in, od_table_in, .func (PySem.W.fnOf "table_in" "table_in" (defArgs st_table_in) (defBody st_table_in) (defScope st_table_in) .none kV_table_in dc_table_in pm_table_in an_table_in cd_table_in ct_table_in), sl_table_in⟩)
    (b_table_in : PySem.W.codeIn K cd_table_in "table_in" = true)
    (k_table_in : PySem.W.keepIn K (.ref f_table_in) = true)
    (a__law_some : PySem.W.nsIn K mainGlobals "_law_some" = some (some (.ref f__law_some)))
    (l__law_some : K.lookup f__law_some = some ⟨oc__law_some, od__law_some, .func (PySem.W.fnOf "_law_some" "_law_some" (defArgs st__law_some) (defBody st__law_some) (defScope st__law_some) .none kV__law_some dc__law_some pm__law_some an__law_some cd__law_some ct__law_some), sl__law_some⟩)
    (b__law_some : PySem.W.codeIn K cd__law_some "_law_some" = true)
    (k__law_some : PySem.W.keepIn K (.ref f__law_some) = true)
    (a__law_like : PySem.W.nsIn K mainGlobals "_law_like" = some (some (.ref f__law_like)))
    (l__law_like : K.lookup f__law_like = some ⟨oc__law_like, od__law_like, .func (PySem.W.fnOf "_law_like" "_law_like" (defArgs st__law_like) (defBody st__law_like) (defScope st__law_like) .none kV__law_like dc__law_like pm__law_like an__law_like cd__law_like ct__law_like), sl__law_like⟩)
    (b__law_like : PySem.W.codeIn K cd__law_like "_law_like" = true)
    (k__law_like : PySem.W.keepIn K (.ref f__law_like) = true)
    (a__law_table : PySem.W.nsIn K mainGlobals "_law_table" = some (some (.ref f__law_table)))
    (l__law_table : K.lookup f__law_table = some ⟨oc__law_table, od__law_table, .func (PySem.W.fnOf "_law_table" "_law_table" (defArgs st__law_table) (defBody st__law_table) (defScope st__law_table) .none kV__law_table dc__law_table pm__law_table an__law_table cd__law_table ct__law_table), sl__law_table⟩)
    (b__law_table : PySem.W.codeIn K cd__law_table "_law_table" = true)
    (k__law_table : PySem.W.keepIn K (.ref f__law_table) = true)
    (a_are_corrections : PySem.W.nsIn K mainGlobals "are_corrections" = some (some (.ref f_are_corrections)))
    (l_are_corrections : K.lookup f_are_corrections = some ⟨oc_are_corrections, od_are_corrections, .func (PySem.W.fnOf "are_corrections" "are_corrections" (defArgs st_are_corrections) (defBody st_are_corrections) (defScope st_are_corrections) .none kV_are_corrections dc_are_corrections pm_are_corrections an_are_corrections cd_are_corrections ct_are_corrections), sl_are_corrections⟩)
    (b_are_corrections : PySem.W.codeIn K cd_are_corrections "are_corrections" = true)
    (k_are_corrections : PySem.W.keepIn K (.ref f_are_corrections) = true)
    (a__law_corrections : PySem.W.nsIn K mainGlobals "_law_corrections" = some (some (.ref f__law_corrections)))
    (l__law_corrections : K.lookup f__law_corrections = some ⟨oc__law_corrections, od__law_corrections, .func (PySem.W.fnOf "_law_corrections" "_law_corrections" (defArgs st__law_corrections) (defBody st__law_corrections) (defScope st__law_corrections) .none kV__law_corrections dc__law_corrections pm__law_corrections an__law_corrections cd__law_corrections ct__law_corrections), sl__law_corrections⟩)
    (b__law_corrections : PySem.W.codeIn K cd__law_corrections "_law_corrections" = true)
    (k__law_corrections : PySem.W.keepIn K (.ref f__law_corrections) = true)
    (a_need_corrections : PySem.W.nsIn K mainGlobals "need_corrections" = some (some (.ref f_need_corrections)))
    (l_need_corrections : K.lookup f_need_corrections = some ⟨oc_need_corrections, od_need_corrections, .func (PySem.W.fnOf "need_corrections" "need_corrections" (defArgs st_need_corrections) (defBody st_need_corrections) (defScope st_need_corrections) .none kV_need_corrections dc_need_corrections pm_need_corrections an_need_corrections cd_need_corrections ct_need_corrections), sl_need_corrections⟩)
    (b_need_corrections : PySem.W.codeIn K cd_need_corrections "need_corrections" = true)
    (k_need_corrections : PySem.W.keepIn K (.ref f_need_corrections) = true)
    (a_known_at : PySem.W.nsIn K mainGlobals "known_at" = some (some (.ref f_known_at)))
    (l_known_at : K.lookup f_known_at = some ⟨oc_known_at, od_known_at, .func (PySem.W.fnOf "known_at" "known_at" (defArgs st_known_at) (defBody st_known_at) (defScope st_known_at) .none kV_known_at dc_known_at pm_known_at an_known_at cd_known_at ct_known_at), sl_known_at⟩)
    (b_known_at : PySem.W.codeIn K cd_known_at "known_at" = true)
    (k_known_at : PySem.W.keepIn K (.ref f_known_at) = true)
    (a_known_table : PySem.W.nsIn K mainGlobals "known_table" = some (some (.ref f_known_table)))
    (l_known_table : K.lookup f_known_table = some ⟨oc_known_table, od_known_table, .func (PySem.W.fnOf "known_table" "known_table" (defArgs st_known_table) (defBody st_known_table) (defScope st_known_table) .none kV_known_table dc_known_table pm_known_table an_known_table cd_known_table ct_known_table), sl_known_table⟩)
    (b_known_table : PySem.W.codeIn K cd_known_table "known_table" = true)
    (k_known_table : PySem.W.keepIn K (.ref f_known_table) = true)
    (a_needless : PySem.W.nsIn K mainGlobals "needless" = some (some (.ref f_needless)))
    (l_needless : K.lookup f_needless = some ⟨oc_needless, od_needless, .func (PySem.W.fnOf "needless" "needless" (defArgs st_needless) (defBody st_needless) (defScope st_needless) .none kV_needless dc_needless pm_needless an_needless cd_needless ct_needless), sl_needless⟩)
    (b_needless : PySem.W.codeIn K cd_needless "needless" = true)
    (k_needless : PySem.W.keepIn K (.ref f_needless) = true)
    (a__law_right : PySem.W.nsIn K mainGlobals "_law_right" = some (some (.ref f__law_right)))
    (l__law_right : K.lookup f__law_right = some ⟨oc__law_right, od__law_right, .func (PySem.W.fnOf "_law_right" "_law_right" (defArgs st__law_right) (defBody st__law_right) (defScope st__law_right) .none kV__law_right dc__law_right pm__law_right an__law_right cd__law_right ct__law_right), sl__law_right⟩)
    (b__law_right : PySem.W.codeIn K cd__law_right "_law_right" = true)
    (k__law_right : PySem.W.keepIn K (.ref f__law_right) = true)
    (a__law_great_right : PySem.W.nsIn K mainGlobals "_law_great_right" = some (some (.ref f__law_great_right)))
    (l__law_great_right : K.lookup f__law_great_right = some ⟨oc__law_great_right, od__law_great_right, .func (PySem.W.fnOf "_law_great_right" "_law_great_right" (defArgs st__law_great_right) (defBody st__law_great_right) (defScope st__law_great_right) .none kV__law_great_right dc__law_great_right pm__law_great_right an__law_great_right cd__law_great_right ct__law_great_right), sl__law_great_right⟩)
    (b__law_great_right : PySem.W.codeIn K cd__law_great_right "_law_great_right" = true)
    (k__law_great_right : PySem.W.keepIn K (.ref f__law_great_right) = true)
    (a__law_errors_right : PySem.W.nsIn K mainGlobals "_law_errors_right" = some (some (.ref f__law_errors_right)))
    (l__law_errors_right : K.lookup f__law_errors_right = some ⟨oc__law_errors_right, od__law_errors_right, .func (PySem.W.fnOf "_law_errors_right" "_law_errors_right" (defArgs st__law_errors_right) (defBody st__law_errors_right) (defScope st__law_errors_right) .none kV__law_errors_right dc__law_errors_right pm__law_errors_right an__law_errors_right (.ref c__law_errors_right) ct__law_errors_right), sl__law_errors_right⟩)
    (lc__law_errors_right : K.lookup c__law_errors_right = some ⟨ce__law_errors_right, cx__law_errors_right, .fields cv__law_errors_right, cs__law_errors_right⟩)
    (pv__law_errors_right : cv__law_errors_right[11]? = some (.ref P__law_errors_right))
    (u__law_errors_right : K.lookup P__law_errors_right = none)
    (b__law_errors_right : PySem.W.codeIn K (.ref c__law_errors_right) "_law_errors_right" = true)
    (k__law_errors_right : PySem.W.keepIn K (.ref f__law_errors_right) = true)
    (a_law : PySem.W.nsIn K mainGlobals "law" = some (some (.ref f_law)))
    (l_law : K.lookup f_law = some ⟨oc_law, od_law, .func (PySem.W.fnOf "law" "law" (defArgs st_law) (defBody st_law) (defScope st_law) .none kV_law dc_law pm_law an_law cd_law ct_law), sl_law⟩)
    (b_law : PySem.W.codeIn K cd_law "law" = true)
    (k_law : PySem.W.keepIn K (.ref f_law) = true)
    (x_InvalidNumber : PySem.W.nsIn K mainGlobals "InvalidNumber" = some (some (.ref C_InvalidNumber)))
    (xk_InvalidNumber : PySem.W.keepIn K (.ref C_InvalidNumber) = true)
    (xe_InvalidNumber : PySem.W.excIn K C_InvalidNumber [.type "ValueError", .type "Exception", .type "BaseException", .type "object"] "ValueError.__new__" = true)
    (xs_InvalidNumber : PySem.W.subIn K (.ref C_InvalidNumber) (.type "BaseException") = some true)
    (xt_InvalidNumber : PySem.W.typeIn K (.ref C_InvalidNumber) = some (.type "type"))
    (xg_InvalidNumber : PySem.W.findIn K (.ref C_InvalidNumber) "__getattribute__" = some (some (.builtin "BaseException.__getattribute__")))
    (xh_InvalidNumber : PySem.W.findIn K (.ref C_InvalidNumber) "__getattr__" = some none)
    (xd_InvalidNumber : PySem.W.hasDictIn K C_InvalidNumber = true)
    (xa_InvalidNumber : PySem.W.findIn K (.ref C_InvalidNumber) "__class__" = some (some (.builtin "object.__class__")))
    (xm_InvalidNumber : PySem.W.mroIn K C_InvalidNumber (.type "object") = some true)
    (x_InvalidCorrections : PySem.W.nsIn K mainGlobals "InvalidCorrections" = some (some (.ref C_InvalidCorrections)))
    (xk_InvalidCorrections : PySem.W.keepIn K (.ref C_InvalidCorrections) = true)
    (xe_InvalidCorrections : PySem.W.excIn K C_InvalidCorrections [.type "ValueError", .type "Exception", .type "BaseException", .type "object"] "ValueError.__new__" = true)
    (xs_InvalidCorrections : PySem.W.subIn K (.ref C_InvalidCorrections) (.type "BaseException") = some true)
    (xt_InvalidCorrections : PySem.W.typeIn K (.ref C_InvalidCorrections) = some (.type "type"))
    (xg_InvalidCorrections : PySem.W.findIn K (.ref C_InvalidCorrections) "__getattribute__" = some (some (.builtin "BaseException.__getattribute__")))
    (xh_InvalidCorrections : PySem.W.findIn K (.ref C_InvalidCorrections) "__getattr__" = some none)
    (xd_InvalidCorrections : PySem.W.hasDictIn K C_InvalidCorrections = true)
    (xa_InvalidCorrections : PySem.W.findIn K (.ref C_InvalidCorrections) "__class__" = some (some (.builtin "object.__class__")))
    (xm_InvalidCorrections : PySem.W.mroIn K C_InvalidCorrections (.type "object") = some true)
    (x_HallError : PySem.W.nsIn K mainGlobals "HallError" = some (some (.ref C_HallError)))
    (xs_HallError : PySem.W.subIn K (.ref C_HallError) (.type "BaseException") = some true)
    (xt_HallError : PySem.W.typeIn K (.ref C_HallError) = some (.type "type"))
    (xd_HallError : PySem.W.hasDictIn K C_HallError = true)
    (sp_ : PySem.W.specialIn K (.builtin "object.__class__") "__get__" = some (some (.builtin "getset_descriptor.__get__")))
    (tk_ : PySem.W.takesIn K (.builtin "object.__class__") = some true)
    (p_InvalidNumber_InvalidNumber : PySem.W.subIn K (.ref C_InvalidNumber) (.ref C_InvalidNumber) = some true)
    (p_InvalidNumber_InvalidCorrections : PySem.W.subIn K (.ref C_InvalidNumber) (.ref C_InvalidCorrections) = some false)
    (p_InvalidNumber_HallError : PySem.W.subIn K (.ref C_InvalidNumber) (.ref C_HallError) = some true)
    (p_InvalidCorrections_InvalidNumber : PySem.W.subIn K (.ref C_InvalidCorrections) (.ref C_InvalidNumber) = some false)
    (p_InvalidCorrections_InvalidCorrections : PySem.W.subIn K (.ref C_InvalidCorrections) (.ref C_InvalidCorrections) = some true)
    (p_InvalidCorrections_HallError : PySem.W.subIn K (.ref C_InvalidCorrections) (.ref C_HallError) = some true)
    (z_abs : PySem.W.nsIn K mainGlobals "abs" = some none)
    (z_all : PySem.W.nsIn K mainGlobals "all" = some none)
    (z_bool : PySem.W.nsIn K mainGlobals "bool" = some none)
    (z_enumerate : PySem.W.nsIn K mainGlobals "enumerate" = some none)
    (z_int : PySem.W.nsIn K mainGlobals "int" = some none)
    (z_isinstance : PySem.W.nsIn K mainGlobals "isinstance" = some none)
    (z_len : PySem.W.nsIn K mainGlobals "len" = some none)
    (z_list : PySem.W.nsIn K mainGlobals "list" = some none)
    (z_max : PySem.W.nsIn K mainGlobals "max" = some none)
    (z_min : PySem.W.nsIn K mainGlobals "min" = some none)
    (z_range : PySem.W.nsIn K mainGlobals "range" = some none)
    (z_set : PySem.W.nsIn K mainGlobals "set" = some none)
    (z_sorted : PySem.W.nsIn K mainGlobals "sorted" = some none)
    (z_str : PySem.W.nsIn K mainGlobals "str" = some none)
    (z_tuple : PySem.W.nsIn K mainGlobals "tuple" = some none)
    (z_zip : PySem.W.nsIn K mainGlobals "zip" = some none)
    (v_HOURS : PySem.W.nsIn K mainGlobals "HOURS" = some (some (.int 100 tk_HOURS)))
    (v_MANY : PySem.W.nsIn K mainGlobals "MANY" = some (some (.int 60 tk_MANY)))
    (v_TIME : PySem.W.nsIn K mainGlobals "TIME" = some (some (.int 1000 tk_TIME)))
    : LawAtS l w K (L2N.CX l.prog w) 44 63 "script" mg fa h := by
  have e := hfa.symm.trans (PySem.W.mg_of X G a_law)
  cases e
  have t__law_errors_right : PySem.W.tabIn K "_law_errors_right" = some (c__law_errors_right, P__law_errors_right) := tab_fact a__law_errors_right l__law_errors_right rfl lc__law_errors_right pv__law_errors_right
  have F_is_whole := fun_mk (st := st_is_whole) l_is_whole b_is_whole k_is_whole
  have B_is_whole := F_is_whole.binds (ps := ["value", "low", "high"]) fun _ _ _ _ _ _ us hl => match us, hl with | [_, _, _], _ => rfl
  have F_is_tuple_of := fun_mk (st := st_is_tuple_of) l_is_tuple_of b_is_tuple_of k_is_tuple_of
  have B_is_tuple_of := F_is_tuple_of.binds (ps := ["value", "low", "high"]) fun _ _ _ _ _ _ us hl => match us, hl with | [_, _, _], _ => rfl
  have F_stretches_of := fun_mk (st := st_stretches_of) l_stretches_of b_stretches_of k_stretches_of
  have B_stretches_of := F_stretches_of.binds (ps := ["hours"]) fun _ _ _ _ _ _ us hl => match us, hl with | [_], _ => rfl
  have F__law_cup := fun_mk (st := st__law_cup) l__law_cup b__law_cup k__law_cup
  have B__law_cup := F__law_cup.binds (ps := ["script"]) fun _ _ _ _ _ _ us hl => match us, hl with | [_], _ => rfl
  have F__law_roll := fun_mk (st := st__law_roll) l__law_roll b__law_roll k__law_roll
  have B__law_roll := F__law_roll.binds (ps := ["cup", "many"]) fun _ _ _ _ _ _ us hl => match us, hl with | [_, _], _ => rfl
  have F__law_sort := fun_mk (st := st__law_sort) l__law_sort b__law_sort k__law_sort
  have B__law_sort := F__law_sort.binds (ps := ["value"]) fun _ _ _ _ _ _ us hl => match us, hl with | [_], _ => rfl
  have F__law_error := fun_mk (st := st__law_error) l__law_error b__law_error k__law_error
  have B__law_error := F__law_error.binds (ps := ["call"]) fun _ _ _ _ _ _ us hl => match us, hl with | [_], _ => rfl
  have F__law_hours := fun_mk (st := st__law_hours) l__law_hours b__law_hours k__law_hours
  have B__law_hours := F__law_hours.binds (ps := ["corrections", "time"]) fun _ _ _ _ _ _ us hl => match us, hl with | [_, _], _ => rfl
  have F__law_stretches := fun_mk (st := st__law_stretches) l__law_stretches b__law_stretches k__law_stretches
  have B__law_stretches := F__law_stretches.binds (ps := ["hours"]) fun _ _ _ _ _ _ us hl => match us, hl with | [_], _ => rfl
  have F_need_whole := fun_mk (st := st_need_whole) l_need_whole b_need_whole k_need_whole
  have B_need_whole := F_need_whole.binds (ps := ["value", "low", "high"]) fun _ _ _ _ _ _ us hl => match us, hl with | [_, _, _], _ => rfl
  have F_is_correction := fun_mk (st := st_is_correction) l_is_correction b_is_correction k_is_correction
  have B_is_correction := F_is_correction.binds (ps := ["value"]) fun _ _ _ _ _ _ us hl => match us, hl with | [_], _ => rfl
  have F_table_in := fun_mk (st := st_table_in) l_table_in b_table_in k_table_in
  have B_table_in := F_table_in.binds (ps := ["corrections"]) fun _ _ _ _ _ _ us hl => match us, hl with | [_], _ => rfl
  have F__law_some := fun_mk (st := st__law_some) l__law_some b__law_some k__law_some
  have B__law_some := F__law_some.binds (ps := ["cup", "things"]) fun _ _ _ _ _ _ us hl => match us, hl with | [_, _], _ => rfl
  have F__law_like := fun_mk (st := st__law_like) l__law_like b__law_like k__law_like
  have B__law_like := F__law_like.binds (ps := ["one", "other"]) fun _ _ _ _ _ _ us hl => match us, hl with | [_, _], _ => rfl
  have F__law_table := fun_mk (st := st__law_table) l__law_table b__law_table k__law_table
  have B__law_table := F__law_table.binds (ps := ["corrections"]) fun _ _ _ _ _ _ us hl => match us, hl with | [_], _ => rfl
  have F_are_corrections := fun_mk (st := st_are_corrections) l_are_corrections b_are_corrections k_are_corrections
  have B_are_corrections := F_are_corrections.binds (ps := ["value"]) fun _ _ _ _ _ _ us hl => match us, hl with | [_], _ => rfl
  have F__law_corrections := fun_mk (st := st__law_corrections) l__law_corrections b__law_corrections k__law_corrections
  have B__law_corrections := F__law_corrections.binds (ps := ["cup", "many"]) fun _ _ _ _ _ _ us hl => match us, hl with | [_, _], _ => rfl
  have F_need_corrections := fun_mk (st := st_need_corrections) l_need_corrections b_need_corrections k_need_corrections
  have B_need_corrections := F_need_corrections.binds (ps := ["value"]) fun _ _ _ _ _ _ us hl => match us, hl with | [_], _ => rfl
  have F_known_at := fun_mk (st := st_known_at) l_known_at b_known_at k_known_at
  have B_known_at := F_known_at.binds (ps := ["corrections", "time", "hour"]) fun _ _ _ _ _ _ us hl => match us, hl with | [_, _, _], _ => rfl
  have F_known_table := fun_mk (st := st_known_table) l_known_table b_known_table k_known_table
  have B_known_table := F_known_table.binds (ps := ["corrections"]) fun _ _ _ _ _ _ us hl => match us, hl with | [_], _ => rfl
  have F_needless := fun_mk (st := st_needless) l_needless b_needless k_needless
  have B_needless := F_needless.binds (ps := ["corrections"]) fun _ _ _ _ _ _ us hl => match us, hl with | [_], _ => rfl
  have F__law_right := fun_mk (st := st__law_right) l__law_right b__law_right k__law_right
  have B__law_right := F__law_right.binds (ps := ["cup", "corrections", "is_short"]) fun _ _ _ _ _ _ us hl => match us, hl with | [_, _, _], _ => rfl
  have F__law_great_right := fun_mk (st := st__law_great_right) l__law_great_right b__law_great_right k__law_great_right
  have B__law_great_right := F__law_great_right.binds (ps := ["cup"]) fun _ _ _ _ _ _ us hl => match us, hl with | [_], _ => rfl
  have F__law_errors_right : FunC K "_law_errors_right" st__law_errors_right f__law_errors_right _ c__law_errors_right := ⟨⟨_, _, _, _, _, _, _, _, rfl, l__law_errors_right, b__law_errors_right⟩, k__law_errors_right⟩
  have B__law_errors_right : L2.Binds K _ [] [] := (fun_mk (st := st__law_errors_right) l__law_errors_right b__law_errors_right k__law_errors_right).binds (ps := []) fun _ _ _ _ _ _ us hl => match us, hl with | [], _ => rfl
  have F_law := fun_mk (st := st_law) l_law b_law k_law
  have B_law := F_law.binds (ps := ["script"]) fun _ _ _ _ _ _ us hl => match us, hl with | [_], _ => rfl
  have Y_HallError : mg "HallError" = some (.ref C_HallError) := PySem.W.mg_of X G x_HallError
  have X_InvalidNumber : Xc K mg "InvalidNumber" C_InvalidNumber := ⟨PySem.W.mg_of X G x_InvalidNumber, xk_InvalidNumber, xe_InvalidNumber, xs_InvalidNumber, xt_InvalidNumber⟩
  have E_InvalidNumber : ExcC K C_InvalidNumber := ⟨xg_InvalidNumber, xh_InvalidNumber, xs_InvalidNumber, xd_InvalidNumber, xa_InvalidNumber, sp_, tk_, xm_InvalidNumber⟩
  have X_InvalidCorrections : Xc K mg "InvalidCorrections" C_InvalidCorrections := ⟨PySem.W.mg_of X G x_InvalidCorrections, xk_InvalidCorrections, xe_InvalidCorrections, xs_InvalidCorrections, xt_InvalidCorrections⟩
  have E_InvalidCorrections : ExcC K C_InvalidCorrections := ⟨xg_InvalidCorrections, xh_InvalidCorrections, xs_InvalidCorrections, xd_InvalidCorrections, xa_InvalidCorrections, sp_, tk_, xm_InvalidCorrections⟩
  have T : Tp K mg := ⟨trivial, PySem.W.mg_none_of X G z_abs, PySem.W.mg_none_of X G z_all, PySem.W.mg_none_of X G z_bool, PySem.W.mg_none_of X G z_enumerate, PySem.W.mg_none_of X G z_int, PySem.W.mg_none_of X G z_isinstance, PySem.W.mg_none_of X G z_len, PySem.W.mg_none_of X G z_list, PySem.W.mg_none_of X G z_max, PySem.W.mg_none_of X G z_min, PySem.W.mg_none_of X G z_range, PySem.W.mg_none_of X G z_set, PySem.W.mg_none_of X G z_sorted, PySem.W.mg_none_of X G z_str, PySem.W.mg_none_of X G z_tuple, PySem.W.mg_none_of X G z_zip, ⟨_, Y_HallError⟩, ⟨_, X_InvalidCorrections⟩, ⟨_, X_InvalidNumber⟩, ⟨_, PySem.W.mg_of X G v_HOURS, ⟨_, rfl⟩⟩, ⟨_, PySem.W.mg_of X G v_MANY, ⟨_, rfl⟩⟩, ⟨_, PySem.W.mg_of X G v_TIME, ⟨_, rfl⟩⟩⟩
  have Dd : Df K mg := ⟨⟨_, _, PySem.W.mg_of X G a_is_whole, F_is_whole, B_is_whole⟩, ⟨_, _, PySem.W.mg_of X G a_is_tuple_of, F_is_tuple_of, B_is_tuple_of⟩, ⟨_, _, PySem.W.mg_of X G a_stretches_of, F_stretches_of, B_stretches_of⟩, ⟨_, _, PySem.W.mg_of X G a__law_cup, F__law_cup, B__law_cup⟩, ⟨_, _, PySem.W.mg_of X G a__law_roll, F__law_roll, B__law_roll⟩, ⟨_, _, PySem.W.mg_of X G a__law_sort, F__law_sort, B__law_sort⟩, ⟨_, _, PySem.W.mg_of X G a__law_error, F__law_error, B__law_error⟩, ⟨_, _, PySem.W.mg_of X G a__law_hours, F__law_hours, B__law_hours⟩, ⟨_, _, PySem.W.mg_of X G a__law_stretches, F__law_stretches, B__law_stretches⟩, ⟨_, _, PySem.W.mg_of X G a_need_whole, F_need_whole, B_need_whole⟩, ⟨_, _, PySem.W.mg_of X G a_is_correction, F_is_correction, B_is_correction⟩, ⟨_, _, PySem.W.mg_of X G a_table_in, F_table_in, B_table_in⟩, ⟨_, _, PySem.W.mg_of X G a__law_some, F__law_some, B__law_some⟩, ⟨_, _, PySem.W.mg_of X G a__law_like, F__law_like, B__law_like⟩, ⟨_, _, PySem.W.mg_of X G a__law_table, F__law_table, B__law_table⟩, ⟨_, _, PySem.W.mg_of X G a_are_corrections, F_are_corrections, B_are_corrections⟩, ⟨_, _, PySem.W.mg_of X G a__law_corrections, F__law_corrections, B__law_corrections⟩, ⟨_, _, PySem.W.mg_of X G a_need_corrections, F_need_corrections, B_need_corrections⟩, ⟨_, _, PySem.W.mg_of X G a_known_at, F_known_at, B_known_at⟩, ⟨_, _, PySem.W.mg_of X G a_known_table, F_known_table, B_known_table⟩, ⟨_, _, PySem.W.mg_of X G a_needless, F_needless, B_needless⟩, ⟨_, _, PySem.W.mg_of X G a__law_right, F__law_right, B__law_right⟩, ⟨_, _, PySem.W.mg_of X G a__law_great_right, F__law_great_right, B__law_great_right⟩⟩
  have uniq__law_errors_right : ∀ p ∈ ([(P__law_errors_right, lamQ "_law_errors_right" st__law_errors_right)] : List (Addr × Str)), p.1 = P__law_errors_right → p.2 = lamQ "_law_errors_right" st__law_errors_right := fun p hp e => by
    rw [List.mem_singleton.mp hp]
  let TT : List (Addr × Str) := [(P__law_errors_right, lamQ "_law_errors_right" st__law_errors_right)]
  have S : XcM K mg (zp TT) sub_ 2 3 := by
    have q_InvalidNumber := X_InvalidNumber.gm
    have q_InvalidCorrections := X_InvalidCorrections.gm
    have q_HallError := Y_HallError
    refine ⟨fun k C h hk => ?_, fun k j C D hk hj h1 h2 => ?_⟩
    · rcases k with _ | (_ | k)
      · have z := h.symm.trans q_InvalidNumber; cases z; exact E_InvalidNumber
      · have z := h.symm.trans q_InvalidCorrections; cases z; exact E_InvalidCorrections
      · omega
    · rcases k with _ | (_ | k)
      · have z := h1.symm.trans q_InvalidNumber; cases z
        rcases j with _ | (_ | (_ | k))
        · have z := h2.symm.trans q_InvalidNumber; cases z; exact pair_of p_InvalidNumber_InvalidNumber p_InvalidNumber_InvalidNumber xs_InvalidNumber xd_InvalidNumber xt_InvalidNumber
        · have z := h2.symm.trans q_InvalidCorrections; cases z; exact pair_of p_InvalidNumber_InvalidNumber p_InvalidNumber_InvalidCorrections xs_InvalidCorrections xd_InvalidCorrections xt_InvalidCorrections
        · have z := h2.symm.trans q_HallError; cases z; exact pair_of p_InvalidNumber_InvalidNumber p_InvalidNumber_HallError xs_HallError xd_HallError xt_HallError
        · omega
      · have z := h1.symm.trans q_InvalidCorrections; cases z
        rcases j with _ | (_ | (_ | k))
        · have z := h2.symm.trans q_InvalidNumber; cases z; exact pair_of p_InvalidCorrections_InvalidCorrections p_InvalidCorrections_InvalidNumber xs_InvalidNumber xd_InvalidNumber xt_InvalidNumber
        · have z := h2.symm.trans q_InvalidCorrections; cases z; exact pair_of p_InvalidCorrections_InvalidCorrections p_InvalidCorrections_InvalidCorrections xs_InvalidCorrections xd_InvalidCorrections xt_InvalidCorrections
        · have z := h2.symm.trans q_HallError; cases z; exact pair_of p_InvalidCorrections_InvalidCorrections p_InvalidCorrections_HallError xs_HallError xd_HallError xt_HallError
        · omega
      · omega
  refine ⟨_, [(c__law_errors_right, P__law_errors_right)], spLaw K TT, fun p hp => ?_, fun p hp => ?_, fun p hp => ?_, fun s u => .of_eq rfl, fun H a ns hl hb hT hS => ⟨a, ns, rfl, fun p hp => ?_, hS, hl, fun _ => rfl⟩, fun base KB NB TB => ok_law T Dd S ⟨trivial, ⟨_, _, _, _, PySem.W.mg_of X G a__law_errors_right, F__law_errors_right, B__law_errors_right, TB (c__law_errors_right, P__law_errors_right) (by simp), by simp [TT], fun p hp e => uniq__law_errors_right p hp e⟩⟩ F_law law_true⟩
  · rw [List.mem_singleton.mp hp]; exact (tab "_law_errors_right" (by simp) _ _ t__law_errors_right).2
  · rw [List.mem_singleton.mp hp]; exact u__law_errors_right
  · rw [List.mem_singleton.mp hp]; exact (tab "_law_errors_right" (by simp) _ _ t__law_errors_right).1
  · rw [List.mem_singleton.mp (show p ∈ [(P__law_errors_right, lamQ "_law_errors_right" st__law_errors_right)] from hp)]; exact .nil (hT (c__law_errors_right, P__law_errors_right) (by simp))
theorem cx_none (P : Program) (w : World) (H : Hp) (s : Shared) (e : Value) (s' : Shared) (z : L2N.CX P w [] H s (fun _ _ _ => False) e s') : False := by
  obtain ⟨_, _, _, _, _, _, _, _, _, _, _, _, z⟩ := z
  exact z
end K77
open PySem PySem.W PyProof.Rows
set_option maxHeartbeats 0 in
theorem PySem.Challenge.cw_lotsatdawn_k77_whole_corrections_holds : PySem.Challenge.rw_lotsatdawn_k77_whole_corrections.Holds := by
  w_on; o_law; k_head; (case hw => w_witness2)
  k_fill
  refine DL.walk_tab (l := PySem.Challenge.rw_lotsatdawn_k77_whole_corrections) (n := 63) (k := 44) (x := "script") (CX := fun w => L2N.CX (PySem.Challenge.rw_lotsatdawn_k77_whole_corrections).prog w) (ts := ["_law_errors_right"]) rfl (by decide) rfl ⟨rfl, by decide, by decide⟩ ?ts (fun w h Y => by first | exact PySem.W.km_in_of Y | exact PySem.W.kIn_of Y) ?F (fun w H s e s' => K77.cx_none _ _ H s e s')
  case ts => decide +kernel
  case F =>
    intro w mg fa h Y KX G hmg tab
    refine' K77.all_mk KX G hmg tab ?a_is_whole ?l_is_whole ?b_is_whole ?k_is_whole ?a_is_tuple_of ?l_is_tuple_of ?b_is_tuple_of ?k_is_tuple_of ?a_stretches_of ?l_stretches_of ?b_stretches_of ?k_stretches_of ?a__law_cup ?l__law_cup ?b__law_cup ?k__law_cup ?a__law_roll ?l__law_roll ?b__law_roll ?k__law_roll ?a__law_sort ?l__law_sort ?b__law_sort ?k__law_sort ?a__law_error ?l__law_error ?b__law_error ?k__law_error ?a__law_hours ?l__law_hours ?b__law_hours ?k__law_hours ?a__law_stretches ?l__law_stretches ?b__law_stretches ?k__law_stretches ?a_need_whole ?l_need_whole ?b_need_whole ?k_need_whole ?a_is_correction ?l_is_correction ?b_is_correction ?k_is_correction ?a_table_in ?l_table_in ?b_table_in ?k_table_in ?a__law_some ?l__law_some ?b__law_some ?k__law_some ?a__law_like ?l__law_like ?b__law_like ?k__law_like ?a__law_table ?l__law_table ?b__law_table ?k__law_table ?a_are_corrections ?l_are_corrections ?b_are_corrections ?k_are_corrections ?a__law_corrections ?l__law_corrections ?b__law_corrections ?k__law_corrections ?a_need_corrections ?l_need_corrections ?b_need_corrections ?k_need_corrections ?a_known_at ?l_known_at ?b_known_at ?k_known_at ?a_known_table ?l_known_table ?b_known_table ?k_known_table ?a_needless ?l_needless ?b_needless ?k_needless ?a__law_right ?l__law_right ?b__law_right ?k__law_right ?a__law_great_right ?l__law_great_right ?b__law_great_right ?k__law_great_right ?a__law_errors_right ?l__law_errors_right ?lc__law_errors_right ?pv__law_errors_right ?u__law_errors_right ?b__law_errors_right ?k__law_errors_right ?a_law ?l_law ?b_law ?k_law ?x_InvalidNumber ?xk_InvalidNumber ?xe_InvalidNumber ?xs_InvalidNumber ?xt_InvalidNumber ?xg_InvalidNumber ?xh_InvalidNumber ?xd_InvalidNumber ?xa_InvalidNumber ?xm_InvalidNumber ?x_InvalidCorrections ?xk_InvalidCorrections ?xe_InvalidCorrections ?xs_InvalidCorrections ?xt_InvalidCorrections ?xg_InvalidCorrections ?xh_InvalidCorrections ?xd_InvalidCorrections ?xa_InvalidCorrections ?xm_InvalidCorrections ?x_HallError ?xs_HallError ?xt_HallError ?xd_HallError ?sp_ ?tk_ ?p_InvalidNumber_InvalidNumber ?p_InvalidNumber_InvalidCorrections ?p_InvalidNumber_HallError ?p_InvalidCorrections_InvalidNumber ?p_InvalidCorrections_InvalidCorrections ?p_InvalidCorrections_HallError ?z_abs ?z_all ?z_bool ?z_enumerate ?z_int ?z_isinstance ?z_len ?z_list ?z_max ?z_min ?z_range ?z_set ?z_sorted ?z_str ?z_tuple ?z_zip ?v_HOURS ?v_MANY ?v_TIME
    (case a_is_whole => k_is)
    (case l_is_whole => k_is)
    (case b_is_whole => k_is)
    (case k_is_whole => k_is)
    (case a_is_tuple_of => k_is)
    (case l_is_tuple_of => k_is)
    (case b_is_tuple_of => k_is)
    (case k_is_tuple_of => k_is)
    (case a_stretches_of => k_is)
    (case l_stretches_of => k_is)
    (case b_stretches_of => k_is)
    (case k_stretches_of => k_is)
    (case a__law_cup => k_is)
    (case l__law_cup => k_is)
    (case b__law_cup => k_is)
    (case k__law_cup => k_is)
    (case a__law_roll => k_is)
    (case l__law_roll => k_is)
    (case b__law_roll => k_is)
    (case k__law_roll => k_is)
    (case a__law_sort => k_is)
    (case l__law_sort => k_is)
    (case b__law_sort => k_is)
    (case k__law_sort => k_is)
    (case a__law_error => k_is)
    (case l__law_error => k_is)
    (case b__law_error => k_is)
    (case k__law_error => k_is)
    (case a__law_hours => k_is)
    (case l__law_hours => k_is)
    (case b__law_hours => k_is)
    (case k__law_hours => k_is)
    (case a__law_stretches => k_is)
    (case l__law_stretches => k_is)
    (case b__law_stretches => k_is)
    (case k__law_stretches => k_is)
    (case a_need_whole => k_is)
    (case l_need_whole => k_is)
    (case b_need_whole => k_is)
    (case k_need_whole => k_is)
    (case a_is_correction => k_is)
    (case l_is_correction => k_is)
    (case b_is_correction => k_is)
    (case k_is_correction => k_is)
    (case a_table_in => k_is)
    (case l_table_in => k_is)
    (case b_table_in => k_is)
    (case k_table_in => k_is)
    (case a__law_some => k_is)
    (case l__law_some => k_is)
    (case b__law_some => k_is)
    (case k__law_some => k_is)
    (case a__law_like => k_is)
    (case l__law_like => k_is)
    (case b__law_like => k_is)
    (case k__law_like => k_is)
    (case a__law_table => k_is)
    (case l__law_table => k_is)
    (case b__law_table => k_is)
    (case k__law_table => k_is)
    (case a_are_corrections => k_is)
    (case l_are_corrections => k_is)
    (case b_are_corrections => k_is)
    (case k_are_corrections => k_is)
    (case a__law_corrections => k_is)
    (case l__law_corrections => k_is)
    (case b__law_corrections => k_is)
    (case k__law_corrections => k_is)
    (case a_need_corrections => k_is)
    (case l_need_corrections => k_is)
    (case b_need_corrections => k_is)
    (case k_need_corrections => k_is)
    (case a_known_at => k_is)
    (case l_known_at => k_is)
    (case b_known_at => k_is)
    (case k_known_at => k_is)
    (case a_known_table => k_is)
    (case l_known_table => k_is)
    (case b_known_table => k_is)
    (case k_known_table => k_is)
    (case a_needless => k_is)
    (case l_needless => k_is)
    (case b_needless => k_is)
    (case k_needless => k_is)
    (case a__law_right => k_is)
    (case l__law_right => k_is)
    (case b__law_right => k_is)
    (case k__law_right => k_is)
    (case a__law_great_right => k_is)
    (case l__law_great_right => k_is)
    (case b__law_great_right => k_is)
    (case k__law_great_right => k_is)
    (case a__law_errors_right => k_is)
    (case l__law_errors_right => k_is)
    (case lc__law_errors_right => k_is)
    (case pv__law_errors_right => rfl)
    (case u__law_errors_right => first | kernel_rfl | rfl)
    (case b__law_errors_right => k_is)
    (case k__law_errors_right => k_is)
    (case a_law => k_is)
    (case l_law => k_is)
    (case b_law => k_is)
    (case k_law => k_is)
    (case x_InvalidNumber => k_is)
    (case xk_InvalidNumber => k_is)
    (case xe_InvalidNumber => k_exc)
    (case xs_InvalidNumber => k_is)
    (case xt_InvalidNumber => k_is)
    (case xg_InvalidNumber => k_is)
    (case xh_InvalidNumber => k_is)
    (case xd_InvalidNumber => k_is)
    (case xa_InvalidNumber => k_is)
    (case xm_InvalidNumber => k_is)
    (case x_InvalidCorrections => k_is)
    (case xk_InvalidCorrections => k_is)
    (case xe_InvalidCorrections => k_exc)
    (case xs_InvalidCorrections => k_is)
    (case xt_InvalidCorrections => k_is)
    (case xg_InvalidCorrections => k_is)
    (case xh_InvalidCorrections => k_is)
    (case xd_InvalidCorrections => k_is)
    (case xa_InvalidCorrections => k_is)
    (case xm_InvalidCorrections => k_is)
    (case x_HallError => k_is)
    (case xs_HallError => k_is)
    (case xt_HallError => k_is)
    (case xd_HallError => k_is)
    (case sp_ => k_is)
    (case tk_ => k_is)
    (case p_InvalidNumber_InvalidNumber => k_is)
    (case p_InvalidNumber_InvalidCorrections => k_is)
    (case p_InvalidNumber_HallError => k_is)
    (case p_InvalidCorrections_InvalidNumber => k_is)
    (case p_InvalidCorrections_InvalidCorrections => k_is)
    (case p_InvalidCorrections_HallError => k_is)
    (case z_abs => k_is)
    (case z_all => k_is)
    (case z_bool => k_is)
    (case z_enumerate => k_is)
    (case z_int => k_is)
    (case z_isinstance => k_is)
    (case z_len => k_is)
    (case z_list => k_is)
    (case z_max => k_is)
    (case z_min => k_is)
    (case z_range => k_is)
    (case z_set => k_is)
    (case z_sorted => k_is)
    (case z_str => k_is)
    (case z_tuple => k_is)
    (case z_zip => k_is)
    (case v_HOURS => k_is)
    (case v_MANY => k_is)
    (case v_TIME => k_is)
