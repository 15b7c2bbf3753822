import PyProof.Rows.All
import Wide.All
import OpenK.AllK
import Wide.FinOn
import HandS.ForMost
import HandS.ForExc
import HandS.Walk
import HandS.IsInst
import HandS.TupAny
import HandS.TupMul
import HandS.Conv
import HandS.Deep
import HandS.Zip
import HandS.Style
import HandS.EndBits
import HandS.RaiseMore
import KE.GoesMore
import KE.GoesEnum
import HandS.Defaults
import HandS.Head0
import HandS.Head1
import HandS.Head2
import HandS.HeadEnd
import HandS.HeadHook1
import HandS.HeadHook2
import PySem.Challenge.RW_keeperworth_k01_kinds_known
set_option Elab.async false
set_option linter.all false
set_option maxRecDepth 100000
set_option maxHeartbeats 0
/-! Mini: a small pure language over deep data, its interpreter, and the translation from the model's syntax. -/
namespace Mini
open PySem L2

/-- deep data; a cell is a shared thing that may change, told by its number in the store -/
inductive D where
  | non | bl (b : Bool) | int (i : Int) | str (s : Str) | tup (xs : List D) | lst (xs : List D) | cell (n : Nat) | fn (f : Nat) | scr (ns : List Int)
inductive CV where
  | lst (xs : List D) | dct (kvs : List (D × D)) | ins (c : Nat) (fs : List (Nat × D))
abbrev Store := List CV
/-- a value: fixed, or a new list that nobody else holds -/
inductive Rv where
  | fz (d : D) | ow (xs : List D)
def Rv.d : Rv → D
  | .fz d => d
  | .ow xs => .lst xs
abbrev Env := List (Option Rv)
inductive Out (α : Type) where
  | ok (a : α) (S : Store) | exc (x : Nat) (S : Store) | stuck
abbrev M (α : Type) := Store → Out α
def M.ret {α : Type} (a : α) : M α := fun S => .ok a S
def M.bnd {α β : Type} (m : M α) (f : α → M β) : M β := fun S => match m S with
  | .ok a S' => f a S'
  | .exc x S' => .exc x S'
  | .stuck => .stuck
def M.stk {α : Type} : M α := fun _ => .stuck
instance : Monad M where
  pure := M.ret
  bind := M.bnd
/-- an option as a step -/
def M.opt {α : Type} : Option α → M α
  | some a => M.ret a
  | none => M.stk
def M.ask {α : Type} (f : Store → Option α) : M α := fun S => match f S with
  | some a => .ok a S
  | none => .stuck

/-- no exception leaves -/
def M.noX {α : Type} (m : M α) : M α := fun S => match m S with
  | .exc _ _ => .stuck
  | r => r

inductive BOp where | add | sub | mul | fdiv | mod | pow
  deriving DecidableEq
inductive COp where | eq | ne | lt | le | gt | ge | isIn | notIn
  deriving DecidableEq
inductive Ty where | int | bool | str | tuple | list
inductive Blt where | len | tuple | list | sum | all | any | max1 | max2 | min2 | int1 | repr | sorted | isi (ts : List Ty)
inductive Mt where | count | index
inductive Tg where | nm (i : Nat) | tp (ts : List Tg)
mutual
inductive Ep where
  | var (i : Nat) | cst (d : D)
  | bin (o : BOp) (a b : Ep) | neg (a : Ep) | cmp (o : COp) (a b : Ep) | chn (o o' : COp) (a b c : Ep)
  | isc (ng : Bool) (a : Ep) (c : D)
  | and (a b : Ep) | or (a b : Ep) | not (a : Ep) | ite (t a b : Ep)
  | tup (es : Eps) | lst (es : Eps) | newc (es : Eps)
  | idx (a i : Ep) | from_ (a lo : Ep) | upto (a hi : Ep) | rev (a : Ep)
  | call (f : Nat) (es : Eps) | blt (b : Blt) (es : Eps) | mth (m : Mt) (a : Ep) (es : Eps)
  | trng (a : Ep)
  | comp (own : List Nat) (tg : Tg) (it : Src) (c : Oep) (e : Ep)
inductive Eps where
  | nil | cons (e : Ep) (r : Eps)
inductive Oep where
  | no | yes (e : Ep)
inductive Src where
  | val (e : Ep) | rng (e : Ep) | enum (e : Ep) | zip (a b : Ep)
end
mutual
inductive Sm where
  | frz (is : List Nat) (s : Sm)
  | set (i : Nat) (e : Ep) | unp (tg : Tg) (e : Ep) | par (is : List Nat) (es : Eps)
  | stx (i : Nat) (ix e : Ep) | app (i : Nat) (e : Ep) | expr (e : Ep)
  | ret (e : Ep) | rtv (i : Nat) | rtn
  | ite (t : Ep) (a b : Sms)
  | for_ (tg : Tg) (it : Src) (b : Sms) | whl (t : Ep) (b : Sms)
  | never
inductive Sms where
  | nil | cons (s : Sm) (r : Sms)
end
structure FDef where
  N : List Str
  ar : Nat
  body : Sms

/-! ### values -/
mutual
def D.eqv : D → D → Bool
  | .non, .non => true
  | .bl a, .bl b => a == b
  | .bl a, .int j => (if a then 1 else 0) == j
  | .int i, .bl b => i == (if b then 1 else 0)
  | .int i, .int j => i == j
  | .str x, .str y => x == y
  | .lst xs, .lst ys => D.eqvs xs ys
  | .tup xs, .tup ys => D.eqvs xs ys
  | _, _ => false
def D.eqvs : List D → List D → Bool
  | [], [] => true
  | x :: xs, y :: ys => D.eqv x y && D.eqvs xs ys
  | _, _ => false
end
mutual
/-- plain data: no cell, no def -/
def D.pl : D → Bool
  | .non | .bl _ | .int _ => true
  | .str x => x.cps.all (· < 0x110000)
  | .tup xs | .lst xs => D.pls xs
  | .cell _ | .fn _ | .scr _ => false
def D.pls : List D → Bool
  | [] => true
  | x :: xs => D.pl x && D.pls xs
end
mutual
/-- at most n deep -/
def D.shal : Nat → D → Bool
  | 0, .tup _ | 0, .lst _ => false
  | n + 1, .tup xs | n + 1, .lst xs => D.shals n xs
  | _, _ => true
def D.shals : Nat → List D → Bool
  | _, [] => true
  | n, x :: xs => D.shal n x && D.shals n xs
end
/-- how deep the flatter of two values may be that are compared -/
abbrev DEEP : Nat := 60
def eqD (a b : D) : Option Bool := if (a.pl && b.pl) && (a.shal DEEP || b.shal DEEP) then some (a.eqv b) else none
def memD (x : D) : List D → Option Bool
  | [] => some false
  | y :: ys => match eqD y x, memD x ys with
    | some b, some c => some (b || c)
    | _, _ => none
def items : D → Option (List D)
  | .tup xs | .lst xs => some xs
  | _ => none
def intsD : List D → Option (List Int)
  | [] => some []
  | .int i :: r => (intsD r).map (i :: ·)
  | _ => none
def boolsD : List D → Option (List Bool)
  | [] => some []
  | .bl i :: r => (boolsD r).map (i :: ·)
  | _ => none
def addD : D → D → Option Rv
  | .int i, .int j => some (.fz (.int (i + j)))
  | .lst xs, .lst ys => if xs.length + ys.length ≤ sizeLine then some (.ow (xs ++ ys)) else none
  | .tup xs, .tup ys => if xs.length + ys.length ≤ sizeLine then some (.fz (.tup (xs ++ ys))) else none
  | _, _ => none
def subD : D → D → Option Rv
  | .int i, .int j => some (.fz (.int (i - j)))
  | _, _ => none
def mulD : D → D → Option Rv
  | .int i, .int j => if (-(2 ^ 64) < i ∧ i < 2 ^ 64) ∨ (-(2 ^ 64) < j ∧ j < 2 ^ 64) then some (.fz (.int (i * j))) else none
  | .tup xs, .int k => if xs ≠ [] ∧ 2 ≤ k ∧ k ≤ 1000 ∧ xs.length ≤ 1000 then some (.fz (.tup (List.replicate k.toNat xs).flatten)) else none
  | .lst xs, .int k => if 0 ≤ k ∧ k ≤ 1000 ∧ xs.length ≤ 1000 then some (.ow (List.replicate k.toNat xs).flatten) else none
  | _, _ => none
def fdivD : D → D → Option Rv
  | .int i, .int j => if 0 < j ∧ j < 1073741824 then some (.fz (.int (i / j))) else none
  | _, _ => none
def modD : D → D → Option Rv
  | .int i, .int j => if 0 < j then some (.fz (.int (i % j))) else none
  | _, _ => none
def powD : D → D → Option Rv
  | .int i, .int j => if 0 ≤ j ∧ j ≤ 100 ∧ -(2 ^ 60) < i ∧ i < 2 ^ 60 then some (.fz (.int (i ^ j.toNat))) else none
  | _, _ => none
def binop : BOp → D → D → Option Rv
  | .add => addD
  | .sub => subD
  | .mul => mulD
  | .fdiv => fdivD
  | .mod => modD
  | .pow => powD
def cmpI (p : Int → Int → Bool) : D → D → Option Bool
  | .int i, .int j => some (p i j)
  | _, _ => none
def inD (x : D) : D → Option Bool
  | .tup ys => memD x ys
  | .lst ys => memD x ys
  | _ => none
def cmpop : COp → D → D → Option Bool
  | .eq, a, b => eqD a b
  | .ne, a, b => (eqD a b).map (!·)
  | .lt, a, b => cmpI (fun i j => decide (i < j)) a b
  | .le, a, b => cmpI (fun i j => decide (i ≤ j)) a b
  | .gt, a, b => cmpI (fun i j => decide (j < i)) a b
  | .ge, a, b => cmpI (fun i j => decide (j ≤ i)) a b
  | .isIn, a, b => inD a b
  | .notIn, a, b => (inD a b).map (!·)
def isc : D → D → Option Bool
  | .non, .non => some true
  | _, .non => some false
  | .bl a, .bl b => some (a == b)
  | _, _ => none
def tyIs : D → Ty → Option Bool
  | .non, _ => some false
  | .bl _, .int | .bl _, .bool => some true
  | .bl _, _ => some false
  | .int _, .int => some true
  | .int _, _ => some false
  | .str _, .str => some true
  | .str _, _ => some false
  | .tup _, .tuple => some true
  | .tup _, _ => some false
  | .lst _, .list => some true
  | .lst _, _ => some false
  | _, _ => none
def tyIn (d : D) : List Ty → Option Bool
  | [] => some false
  | t :: ts => match tyIs d t, tyIn d ts with
    | some b, some c => some (b || c)
    | _, _ => none
def maxI : List Int → Int
  | [] => 0
  | [x] => x
  | x :: y :: r => if maxI (y :: r) > x then maxI (y :: r) else x
def sTrue : Str := "True"
def sFalse : Str := "False"
def bltop (S : Store) : Blt → List D → Option Rv
  | .len, [.cell n] => match S[n]? with
    | some (.lst xs) => some (.fz (.int xs.length))
    | _ => none
  | .len, [.scr xs] => some (.fz (.int xs.length))
  | .len, [.tup xs] | .len, [.lst xs] => some (.fz (.int xs.length))
  | .tuple, [.lst xs] | .tuple, [.tup xs] => some (.fz (.tup xs))
  | .list, [.lst xs] | .list, [.tup xs] => some (.ow xs)
  | .sum, [.lst xs] => (intsD xs).map fun ns => .fz (.int ns.sum)
  | .all, [.lst xs] => (boolsD xs).map fun bs => .fz (.bl (bs.all id))
  | .any, [.lst xs] => (boolsD xs).map fun bs => .fz (.bl (bs.any id))
  | .max1, [.lst (x :: xs)] => (intsD (x :: xs)).map fun ns => .fz (.int (maxI ns))
  | .max2, [.int i, .int j] => some (.fz (.int (if j > i then j else i)))
  | .min2, [.int i, .int j] => some (.fz (.int (if j < i then j else i)))
  | .int1, [.int i] => some (.fz (.int i))
  | .int1, [.bl b] => some (.fz (.int (if b then 1 else 0)))
  | .repr, [.bl b] => some (.fz (.str (if b then sTrue else sFalse)))
  | .isi ts, [d] => (tyIn d ts).map fun b => .fz (.bl b)
  | _, _ => none
def cutD (xs : List D) (lo hi : Option Int) : List D := (xs.drop (HT.sIx xs.length 0 lo)).take (HT.sIx xs.length xs.length hi - HT.sIx xs.length 0 lo)
def rngD (n : Int) : List D := (List.range n.toNat).map fun i => D.int (i : Nat)
def okRng (n : Int) : Bool := decide (-(2 ^ 62) ≤ n) && decide (n ≤ 16000000)
def findD (x : D) : List D → Option Nat
  | [] => none
  | y :: ys => match eqD y x with
    | some true => some 0
    | some false => (findD x ys).map (· + 1)
    | none => none
def countD (x : D) : List D → Option Nat
  | [] => some 0
  | y :: ys => match eqD y x, countD x ys with
    | some b, some n => some (if b then n + 1 else n)
    | _, _ => none
def mthop : Mt → D → List D → Option Rv
  | .count, .lst xs, [x] => (countD x xs).map fun n => .fz (.int (n : Nat))
  | .index, .lst xs, [x] => (findD x xs).map fun n => .fz (.int (n : Nat))
  | _, _, _ => none

/-! ### slots -/
def wipeE (env : Env) : List Nat → Env
  | [] => env
  | i :: is => (wipeE env is).set i none
mutual
def bindTg : Tg → D → Env → Option Env
  | .nm i, d, env => some (env.set i (some (.fz d)))
  | .tp ts, .tup xs, env => bindTgs ts xs env
  | _, _, _ => none
def bindTgs : List Tg → List D → Env → Option Env
  | [], [], env => some env
  | t :: ts, x :: xs, env => match bindTg t x env with
    | some env' => bindTgs ts xs env'
    | none => none
  | _, _, _ => none
end
def frzE (env : Env) : List Nat → Env
  | [] => env
  | i :: is => match (frzE env is)[i]? with
    | some (some (.ow xs)) => (frzE env is).set i (some (.fz (.lst xs)))
    | _ => frzE env is
def rdVar (rd : Bool) (env : Env) (i : Nat) : Option Rv := match env[i]? with
  | some (some (.fz d)) => some (.fz d)
  | some (some (.ow xs)) => if rd then some (.ow xs) else none
  | _ => none
def idxop (a i : D) (S : Store) : Option D := match a, i with
  | .tup xs, .int k | .lst xs, .int k => atI xs k
  | .scr xs, .int k => (atI xs k).map D.int
  | .cell n, .int k => match S[n]? with
    | some (.lst xs) => atI xs k
    | _ => none
  | _, _ => none

/-! ### the interpreter -/
abbrev Calls := Nat → List D → M Rv
/-- a comprehension's turns -/
def compM (f : D → M (Option D)) : List D → List D → M (List D)
  | [], acc => M.ret acc
  | x :: xs, acc => M.bnd (f x) fun o => match o with
    | none => compM f xs acc
    | some d => if acc.length < sizeLine then compM f xs (acc ++ [d]) else M.stk
def asB : D → M Bool
  | .bl b => M.ret b
  | _ => M.stk
def negD : D → Option Rv
  | .int i => some (.fz (.int (-i)))
  | _ => none
def frmD : D → D → Option Rv
  | .tup xs, .int k => some (.fz (.tup (cutD xs (some k) none)))
  | .lst xs, .int k => some (.ow (cutD xs (some k) none))
  | _, _ => none
def uptD : D → D → Option Rv
  | .tup xs, .int k => some (.fz (.tup (cutD xs none (some k))))
  | .lst xs, .int k => some (.ow (cutD xs none (some k)))
  | _, _ => none
def revD : D → Option Rv
  | .tup xs => some (.fz (.tup xs.reverse))
  | .lst xs => some (.ow xs.reverse)
  | _ => none
def trgD : D → Option Rv
  | .int n => if okRng n then some (.fz (.tup (rngD n))) else none
  | _ => none
def rngO : D → Option (List D)
  | .int n => if okRng n then some (rngD n) else none
  | _ => none
def enmO (x : D) : Option (List D) := (items x).map fun xs => (List.range xs.length).zipWith (fun i d => D.tup [.int (i : Nat), d]) xs
def zipO : D → D → Option (List D)
  | .lst xs, .lst ys => some (xs.zipWith (fun x y => D.tup [x, y]) ys)
  | .tup xs, .tup ys => some (xs.zipWith (fun x y => D.tup [x, y]) ys)
  | _, _ => none
def newcM (ds : List D) : M Rv := fun S => .ok (.fz (.cell S.length)) (S ++ [.lst ds])
section
variable (cs : Calls)
mutual
def evalE (rd : Bool) : Ep → Env → M Rv
  | .var i, env => M.opt (rdVar rd env i)
  | .cst d, _ => M.ret (.fz d)
  | .bin o a b, env => M.bnd (evalE true a env) fun x => M.bnd (evalE true b env) fun y => M.opt (binop o x.d y.d)
  | .neg a, env => M.bnd (evalE true a env) fun x => M.opt (negD x.d)
  | .cmp o a b, env => M.bnd (evalE true a env) fun x => M.bnd (evalE true b env) fun y => M.bnd (M.opt (cmpop o x.d y.d)) fun c => M.ret (.fz (.bl c))
  | .chn o o' a b c, env => M.bnd (evalE true a env) fun x => M.bnd (evalE true b env) fun y => M.bnd (M.opt (cmpop o x.d y.d)) fun k =>
      if k then M.bnd (evalE true c env) fun z => M.bnd (M.opt (cmpop o' y.d z.d)) fun k' => M.ret (.fz (.bl k')) else M.ret (.fz (.bl false))
  | .isc ng a c, env => M.bnd (evalE true a env) fun x => M.bnd (M.opt (isc x.d c)) fun k => M.ret (.fz (.bl (if ng then !k else k)))
  | .and a b, env => M.bnd (M.bnd (evalE true a env) fun x => asB x.d) fun k => if k then M.bnd (M.bnd (evalE true b env) fun x => asB x.d) fun k' => M.ret (.fz (.bl k')) else M.ret (.fz (.bl false))
  | .or a b, env => M.bnd (M.bnd (evalE true a env) fun x => asB x.d) fun k => if k then M.ret (.fz (.bl true)) else M.bnd (M.bnd (evalE true b env) fun x => asB x.d) fun k' => M.ret (.fz (.bl k'))
  | .not a, env => M.bnd (M.bnd (evalE true a env) fun x => asB x.d) fun k => M.ret (.fz (.bl (!k)))
  | .ite t a b, env => M.bnd (M.bnd (evalE true t env) fun x => asB x.d) fun k => if k then evalE false a env else evalE false b env
  | .tup es, env => M.bnd (evalEs es env) fun ds => if ds.length ≤ sizeLine then M.ret (.fz (.tup ds)) else M.stk
  | .lst es, env => M.bnd (evalEs es env) fun ds => if ds.length ≤ sizeLine then M.ret (.ow ds) else M.stk
  | .newc es, env => M.bnd (evalEs es env) fun ds => if ds.length ≤ sizeLine then newcM ds else M.stk
  | .idx a i, env => M.bnd (evalE true a env) fun x => M.bnd (evalE true i env) fun y => M.bnd (M.ask (idxop x.d y.d)) fun d => M.ret (.fz d)
  | .from_ a lo, env => M.bnd (evalE true a env) fun x => M.bnd (evalE true lo env) fun y => M.opt (frmD x.d y.d)
  | .upto a hi, env => M.bnd (evalE true a env) fun x => M.bnd (evalE true hi env) fun y => M.opt (uptD x.d y.d)
  | .rev a, env => M.bnd (evalE true a env) fun x => M.opt (revD x.d)
  | .call f es, env => M.bnd (evalEs es env) fun ds => cs f ds
  | .blt b es, env => M.bnd (evalRs es env) fun ds => M.ask fun S => bltop S b ds
  | .mth m a es, env => M.bnd (evalE true a env) fun x => M.bnd (evalRs es env) fun ds => M.opt (mthop m x.d ds)
  | .trng a, env => M.bnd (evalE true a env) fun x => M.opt (trgD x.d)
  | .comp own tg it c e, env => M.bnd (evalIt true it env) fun xs => M.bnd (M.noX (compM (fun x => M.bnd (M.opt (bindTg tg x (wipeE env own))) fun env' =>
      M.bnd (evalC c env') fun k => if k then M.bnd (evalE false e env') fun r => M.ret (some r.d) else M.ret none) xs [])) fun ys => M.ret (.ow ys)
/-- values that are kept -/
def evalEs : Eps → Env → M (List D)
  | .nil, _ => M.ret []
  | .cons e r, env => M.bnd (evalE false e env) fun x => M.bnd (evalEs r env) fun xs => M.ret (x.d :: xs)
def evalRs : Eps → Env → M (List D)
  | .nil, _ => M.ret []
  | .cons e r, env => M.bnd (evalE true e env) fun x => M.bnd (evalRs r env) fun xs => M.ret (x.d :: xs)
def evalC : Oep → Env → M Bool
  | .no, _ => M.ret true
  | .yes e, env => M.bnd (evalE true e env) fun x => asB x.d
def evalIt (rd : Bool) : Src → Env → M (List D)
  | .val e, env => M.bnd (evalE rd e env) fun x => M.opt (items x.d)
  | .rng e, env => M.bnd (evalE rd e env) fun x => M.opt (rngO x.d)
  | .enum e, env => M.bnd (evalE rd e env) fun x => M.opt (enmO x.d)
  | .zip a b, env => M.bnd (evalE rd a env) fun x => M.bnd (evalE rd b env) fun y => M.opt (zipO x.d y.d)
end
end

/-! ### statements -/
inductive Fl where
  | nx | brk | ct | ret (r : Rv)
def asD : Rv → D := Rv.d
/-- what is kept of a list of values, into slots -/
def setAll (env : Env) : List Nat → List Rv → Option Env
  | [], [] => some env
  | i :: is, r :: rs => setAll (env.set i (some r)) is rs
  | _, _ => none
def stxop (env : Env) (i : Nat) (ix d : D) : M Env := match env[i]?, ix with
  | some (some (.ow xs)), .int k => match ixN xs.length k with
    | some j => M.ret (env.set i (some (.ow (xs.set j d))))
    | none => M.stk
  | some (some (.fz (.cell n))), .int k => fun S => match S[n]? with
    | some (.lst xs) => match ixN xs.length k with
      | some j => .ok env (S.set n (.lst (xs.set j d)))
      | none => .stuck
    | _ => .stuck
  | _, _ => M.stk
def owAt (env : Env) (i : Nat) : Option (List D) := match env[i]? with
  | some (some (.ow xs)) => some xs
  | _ => none
/-- a for's turns -/
def forM (f : D → Env → M (Fl × Env)) : List D → Env → M (Fl × Env)
  | [], env => M.ret (.nx, env)
  | x :: xs, env => M.bnd (f x env) fun o => match o.1 with
    | .nx => forM f xs o.2
    | .ct => forM f xs o.2
    | .brk => M.ret (.nx, o.2)
    | .ret r => M.ret (.ret r, o.2)
def whlM (t : Env → M Bool) (f : Env → M (Fl × Env)) : Nat → Env → M (Fl × Env)
  | 0, _ => M.stk
  | n + 1, env => M.bnd (t env) fun b => if b then M.bnd (f env) fun o => match o.1 with
      | .nx => whlM t f n o.2
      | .ct => whlM t f n o.2
      | .brk => M.ret (.nx, o.2)
      | .ret r => M.ret (.ret r, o.2)
    else M.ret (.nx, env)
/-- more turns than any while here takes -/
def WF : Nat := 10 ^ 60
section
variable (cs : Calls)
def evalVs : Eps → Env → M (List Rv)
  | .nil, _ => M.ret []
  | .cons e r, env => M.bnd (evalE cs false e env) fun x => M.bnd (evalVs r env) fun xs => M.ret (x :: xs)
def evalB (e : Ep) (env : Env) : M Bool := M.bnd (evalE cs true e env) fun x => asB x.d
mutual
def execS : Sm → Env → M (Fl × Env)
  | .frz is s, env => execS s (frzE env is)
  | .set i e, env => M.bnd (evalE cs false e env) fun r => M.ret (.nx, env.set i (some r))
  | .unp tg e, env => M.bnd (evalE cs true e env) fun r => M.bnd (M.opt (bindTg tg r.d env)) fun env' => M.ret (.nx, env')
  | .par is es, env => M.bnd (evalVs cs es env) fun rs => M.bnd (M.opt (setAll env is rs)) fun env' => M.ret (.nx, env')
  | .stx i ix e, env => M.bnd (evalE cs false e env) fun r => M.bnd (M.opt (rdVar true env i)) fun _ => M.bnd (evalE cs true ix env) fun k => M.bnd (stxop env i k.d r.d) fun env' => M.ret (.nx, env')
  | .app i e, env => M.bnd (M.opt (owAt env i)) fun xs => M.bnd (evalE cs false e env) fun r => if xs.length < sizeLine then M.ret (.nx, env.set i (some (.ow (xs ++ [r.d])))) else M.stk
  | .expr e, env => M.bnd (evalE cs false e env) fun _ => M.ret (.nx, env)
  | .ret e, env => M.bnd (evalE cs false e env) fun r => M.ret (.ret r, env)
  | .rtv i, env => M.bnd (M.opt (rdVar true env i)) fun r => M.ret (.ret r, env)
  | .rtn, env => M.ret (.ret (.fz .non), env)
  | .ite t a b, env => M.bnd (evalB cs t env) fun k => if k then execSs a env else execSs b env
  | .for_ tg it b, env => M.bnd (evalIt cs false it env) fun xs => forM (fun x env => M.bnd (M.opt (bindTg tg x env)) fun env' => execSs b env') xs env
  | .whl t b, env => whlM (fun env => evalB cs t env) (fun env => execSs b env) WF env
  | .never, _ => M.stk
def execSs : Sms → Env → M (Fl × Env)
  | .nil, env => M.ret (.nx, env)
  | .cons s r, env => M.bnd (execS s env) fun o => match o.1 with
    | .nx => execSs r o.2
    | f => M.ret (f, o.2)
end
end
def startE (N : List Str) (ds : List D) : Env := ds.map (fun d => some (.fz d)) ++ List.replicate (N.length - ds.length) none
def run (P : Nat → Option FDef) : Nat → Calls
  | 0, _, _ => M.stk
  | n + 1, f, ds => match P f with
    | none => M.stk
    | some fd => if ds.length = fd.ar then M.bnd (execSs (run P n) fd.body (startE fd.N ds)) fun o => match o.1 with
        | .ret r => M.ret r
        | .nx => M.ret (.fz .non)
        | _ => M.stk
      else M.stk
end Mini
/-! SoundA: deep data in the heap, the state of the interpreter in the heap, steps. -/
namespace Mini
open PySem PySem.Spec PyProof.Rows L2

/-- where the cells stand; what is fixed for ever -/
structure G where
  C : List Addr
  F : Hp
mutual
inductive RD (K : PySem.W.Frag) (g : G) : V → D → Prop where
  | non : RD K g .non .non
  | bl (b : Bool) : RD K g (.bl b) (.bl b)
  | int (i : Int) : RD K g (.int i) (.int i)
  | str (x : Str) : RD K g (.str x) (.str x)
  | tup {a : Addr} {xs : List V} {ds : List D} (h : g.F a = some (.tup xs)) (r : RDs K g xs ds) : RD K g (.ref a) (.tup ds)
  | lst {a : Addr} {xs : List V} {ds : List D} (h : g.F a = some (.lst xs)) (r : RDs K g xs ds) : RD K g (.ref a) (.lst ds)
  | scr {a : Addr} {ns : List Int} (h : SqL K g.F a (ns.map V.int)) : RD K g (.ref a) (.scr ns)
  | cell {a : Addr} {n : Nat} (h : g.C[n]? = some a) : RD K g (.ref a) (.cell n)
inductive RDs (K : PySem.W.Frag) (g : G) : List V → List D → Prop where
  | nil : RDs K g [] []
  | cons {v : V} {vs : List V} {d : D} {ds : List D} (h : RD K g v d) (r : RDs K g vs ds) : RDs K g (v :: vs) (d :: ds)
end
theorem same_seqT {K : PySem.W.Frag} {H H' : Hp} {a : Addr} {xs : List V} (e : Same H H') (h : SqT K H a xs) : SqT K H' a xs := by
  rcases h with (h | ⟨o, h⟩) | h
  · exact .inl (.inl (e _ _ h))
  · exact .inl (.inr ⟨o, e _ _ h⟩)
  · exact .inr h
def Ext (g g' : G) : Prop := Same g.F g'.F ∧ ∃ t, g'.C = g.C ++ t
theorem Ext.refl (g : G) : Ext g g := ⟨Same.refl _, [], by simp⟩
theorem Ext.trans {a b c : G} (x : Ext a b) (y : Ext b c) : Ext a c := ⟨x.1.trans y.1, by
  obtain ⟨t, e⟩ := x.2
  obtain ⟨u, e'⟩ := y.2
  exact ⟨t ++ u, by rw [e', e, List.append_assoc]⟩⟩
theorem Ext.get {g g' : G} (x : Ext g g') {n : Nat} {a : Addr} (h : g.C[n]? = some a) : g'.C[n]? = some a := by
  obtain ⟨t, e⟩ := x.2
  rw [e, List.getElem?_append_left (List.getElem?_eq_some_iff.mp h).1]
  exact h
theorem Ext.mem {g g' : G} (x : Ext g g') {a : Addr} (h : a ∈ g.C) : a ∈ g'.C := by
  obtain ⟨t, e⟩ := x.2
  rw [e]
  exact List.mem_append_left _ h
section
variable {K : PySem.W.Frag} {g g' : G}
mutual
theorem RD.mono (x : Ext g g') : ∀ {d : D} {v : V}, RD K g v d → RD K g' v d
  | .non, _, .non => .non
  | .bl _, _, .bl b => .bl b
  | .int _, _, .int b => .int b
  | .str _, _, .str b => .str b
  | .tup _, _, .tup h r => .tup (x.1 _ _ h) (RDs.mono x r)
  | .lst _, _, .lst h r => .lst (x.1 _ _ h) (RDs.mono x r)
  | .scr _, _, .scr h => .scr (x.1.seq h)
  | .cell _, _, .cell h => .cell (x.get h)
theorem RDs.mono (x : Ext g g') : ∀ {ds : List D} {vs : List V}, RDs K g vs ds → RDs K g' vs ds
  | [], _, .nil => .nil
  | _ :: _, _, .cons h r => .cons (RD.mono x h) (RDs.mono x r)
end
theorem RDs.length : ∀ {ds : List D} {vs : List V}, RDs K g vs ds → vs.length = ds.length
  | _, _, .nil => rfl
  | _, _, .cons _ r => congrArg (· + 1) (RDs.length r)
theorem RDs.get : ∀ {ds : List D} {vs : List V} {i : Nat} {d : D}, RDs K g vs ds → ds[i]? = some d → ∃ v, vs[i]? = some v ∧ RD K g v d
  | _, _, _, _, .nil, e => by simp at e
  | _, _, 0, _, .cons h _, e => by
    simp at e
    subst e
    exact ⟨_, rfl, h⟩
  | _, _, i + 1, _, .cons _ r, e => by
    obtain ⟨v, h1, h2⟩ := RDs.get (i := i) r (by simpa using e)
    exact ⟨v, by simpa using h1, h2⟩
theorem RDs.get' : ∀ {ds : List D} {vs : List V} {i : Nat} {v : V}, RDs K g vs ds → vs[i]? = some v → ∃ d, ds[i]? = some d ∧ RD K g v d
  | _, _, _, _, .nil, e => by simp at e
  | _, _, 0, _, .cons h _, e => by
    simp at e
    subst e
    exact ⟨_, rfl, h⟩
  | _, _, i + 1, _, .cons _ r, e => by
    obtain ⟨v, h1, h2⟩ := RDs.get' (i := i) r (by simpa using e)
    exact ⟨v, by simpa using h1, h2⟩
theorem RDs.append : ∀ {ds es : List D} {vs us : List V}, RDs K g vs ds → RDs K g us es → RDs K g (vs ++ us) (ds ++ es)
  | _, _, _, _, .nil, s => s
  | _, _, _, _, .cons h r, s => .cons h (RDs.append r s)
theorem RDs.drop : ∀ {ds : List D} {vs : List V} (n : Nat), RDs K g vs ds → RDs K g (vs.drop n) (ds.drop n)
  | _, _, 0, r => r
  | _, _, _ + 1, .nil => .nil
  | _, _, n + 1, .cons _ r => RDs.drop n r
theorem RDs.take : ∀ {ds : List D} {vs : List V} (n : Nat), RDs K g vs ds → RDs K g (vs.take n) (ds.take n)
  | _, _, 0, _ => .nil
  | _, _, _ + 1, .nil => .nil
  | _, _, n + 1, .cons h r => .cons h (RDs.take n r)
theorem RDs.reverse : ∀ {ds : List D} {vs : List V}, RDs K g vs ds → RDs K g vs.reverse ds.reverse
  | _, _, .nil => .nil
  | _, _, .cons h r => by
    rw [List.reverse_cons, List.reverse_cons]
    exact RDs.append (RDs.reverse r) (.cons h .nil)
theorem RDs.set {v : V} {d : D} (h : RD K g v d) : ∀ {ds : List D} {vs : List V} (i : Nat), RDs K g vs ds → RDs K g (vs.set i v) (ds.set i d)
  | _, _, _, .nil => .nil
  | _, _, 0, .cons _ t => .cons h t
  | _, _, i + 1, .cons q t => .cons q (RDs.set h i t)
theorem RDs.rep {ds : List D} {vs : List V} (r : RDs K g vs ds) : ∀ n : Nat, RDs K g (List.replicate n vs).flatten (List.replicate n ds).flatten
  | 0 => .nil
  | n + 1 => by
    rw [List.replicate_succ, List.replicate_succ, List.flatten_cons, List.flatten_cons]
    exact RDs.append r (RDs.rep r n)
theorem RDs.ints : ∀ {ns : List Int} {ds : List D} {vs : List V}, RDs K g vs ds → intsD ds = some ns → vs = ns.map V.int
  | ns, _, _, .nil, e => by
    have e' : some [] = some ns := e
    cases e'
    rfl
  | ns, _, _, .cons h r, e => by
    cases h with
    | int i =>
      rename_i _ ds'
      have e' : (intsD ds').map (i :: ·) = some ns := e
      obtain ⟨ms, h1, h2⟩ := Option.map_eq_some_iff.mp e'
      subst h2
      rw [RDs.ints r h1]
      rfl
    | _ => exact absurd (show none = some ns from e) (by simp)
theorem RDs.bools : ∀ {ns : List Bool} {ds : List D} {vs : List V}, RDs K g vs ds → boolsD ds = some ns → vs = ns.map V.bl
  | ns, _, _, .nil, e => by
    have e' : some [] = some ns := e
    cases e'
    rfl
  | ns, _, _, .cons h r, e => by
    cases h with
    | bl i =>
      rename_i _ ds'
      have e' : (boolsD ds').map (i :: ·) = some ns := e
      obtain ⟨ms, h1, h2⟩ := Option.map_eq_some_iff.mp e'
      subst h2
      rw [RDs.bools r h1]
      rfl
    | _ => exact absurd (show none = some ns from e) (by simp)
theorem RDs.ofInts {ns : List Int} : RDs K g (ns.map V.int) (ns.map D.int) := by
  induction ns with
  | nil => exact .nil
  | cons n ns ih => exact .cons (.int n) ih
end

/-! ### the state -/
def CellR (K : PySem.W.Frag) (g : G) (H : Hp) (a : Addr) : CV → Prop
  | .lst ds => ∃ vs, H a = some (.lst vs) ∧ RDs K g vs ds
  | _ => False
structure Wok (K : PySem.W.Frag) (g : G) (H : Hp) (S : Store) : Prop where
  sub : Same g.F H
  len : g.C.length = S.length
  nd : g.C.Nodup
  off : ∀ a ∈ g.C, g.F a = none
  cel : ∀ (n : Nat) a c, g.C[n]? = some a → S[n]? = some c → CellR K g H a c
structure Evo (g : G) (H : Hp) (g' : G) (H' : Hp) : Prop where
  ext : Ext g g'
  keep : ∀ b o, H b = some o → b ∉ g.C → H' b = some o
  alive : ∀ b, H' b = none → H b = none
  newF : ∀ b, g.F b = none → g'.F b ≠ none → H b = none
  newC : ∀ b, b ∈ g'.C → b ∉ g.C → H b = none
theorem Evo.refl (g : G) (H : Hp) : Evo g H g H := ⟨.refl g, fun _ _ h _ => h, fun _ h => h, fun _ h n => absurd h n, fun _ h n => absurd h n⟩
theorem Evo.trans {g g1 g2 : G} {H H1 H2 : Hp} (x : Evo g H g1 H1) (y : Evo g1 H1 g2 H2) : Evo g H g2 H2 := by
  refine ⟨x.ext.trans y.ext, fun b o h n => ?_, fun b h => x.alive b (y.alive b h), fun b h n => ?_, fun b h n => ?_⟩
  · refine y.keep b o (x.keep b o h n) fun m => ?_
    have := x.newC b m n
    rw [h] at this
    cases this
  · by_cases q : g1.F b = none
    · exact x.alive b (y.newF b q n)
    · exact x.newF b h q
  · by_cases q : b ∈ g1.C
    · exact x.newC b q n
    · exact x.alive b (y.newC b h q)
section
variable {K : PySem.W.Frag} {g g' : G} {H H' : Hp} {S S' : Store}
theorem Wok.cellH (w : Wok K g H S) {a : Addr} (h : a ∈ g.C) : ∃ o, H a = some o := by
  obtain ⟨n, hn, e⟩ := List.mem_iff_getElem.mp h
  have hs : n < S.length := by rw [← w.len]; exact hn
  have := w.cel n a S[n] (by rw [List.getElem?_eq_getElem hn, e]) (List.getElem?_eq_getElem hs)
  cases q : S[n] with
  | lst ds =>
    rw [q] at this
    obtain ⟨vs, h, _⟩ := this
    exact ⟨_, h⟩
  | _ => rw [q] at this; exact False.elim this
theorem Wok.newC (w : Wok K g H S) {p : Addr} (h : H p = none) : p ∉ g.C := fun m => by
  obtain ⟨o, e⟩ := w.cellH m
  rw [h] at e
  cases e
theorem Wok.newF (w : Wok K g H S) {p : Addr} (h : H p = none) : g.F p = none := w.sub.free h
theorem CellR.mono {a : Addr} {c : CV} (x : Ext g g') (h : H a = H' a) (r : CellR K g H a c) : CellR K g' H' a c := by
  cases c with
  | lst ds =>
    obtain ⟨vs, e, r⟩ := r
    exact ⟨vs, by rw [← h]; exact e, r.mono x⟩
  | _ => exact r
theorem ext_upd {p : Addr} {o : HO} (h : g.F p = none) : Ext g ⟨g.C, upd g.F p o⟩ := ⟨fun b u e => by
  show upd g.F p o b = some u
  rw [upd_ne (ne_of_none e h)]
  exact e, [], by simp⟩
/-- a new object, fixed at once -/
theorem Wok.newFz (w : Wok K g H S) {p : Addr} {o : HO} (h : H p = none) : Wok K ⟨g.C, upd g.F p o⟩ (upd H p o) S ∧ Evo g H ⟨g.C, upd g.F p o⟩ (upd H p o) := by
  have hf := w.newF h
  have hc := w.newC h
  refine ⟨⟨fun b u e => ?_, w.len, w.nd, fun a ha => ?_, fun n a c h1 h2 => ?_⟩, ext_upd hf, fun b u e _ => ?_, fun b e => ?_, fun b e n => ?_, fun b e n => absurd e n⟩
  · have e : upd g.F p o b = some u := e
    by_cases hb : b = p
    · subst hb
      rw [upd_same] at e ⊢
      exact e
    · rw [upd_ne hb] at e ⊢
      exact w.sub _ _ e
  · have : a ≠ p := fun e => hc (e ▸ ha)
    show upd g.F p o a = none
    rw [upd_ne this]
    exact w.off a ha
  · have : a ≠ p := fun e => hc (e ▸ List.mem_of_getElem? h1)
    exact (w.cel n a c h1 h2).mono (ext_upd hf) (by rw [upd_ne this])
  · rw [upd_ne (ne_of_none e h)]
    exact e
  · by_cases hb : b = p
    · rw [hb]; exact h
    · rw [upd_ne hb] at e
      exact e
  · have n : upd g.F p o b ≠ none := n
    by_cases hb : b = p
    · rw [hb]; exact h
    · rw [upd_ne hb] at n
      exact absurd e n
/-- a new object, open -/
theorem Wok.newOw (w : Wok K g H S) {p : Addr} {o : HO} (h : H p = none) : Wok K g (upd H p o) S ∧ Evo g H g (upd H p o) := by
  have hf := w.newF h
  have hc := w.newC h
  refine ⟨⟨fun b u e => ?_, w.len, w.nd, w.off, fun n a c h1 h2 => ?_⟩, .refl g, fun b u e _ => ?_, fun b e => ?_, fun b e n => absurd e n, fun b e n => absurd e n⟩
  · rw [upd_ne (ne_of_none e hf)]
    exact w.sub _ _ e
  · have : a ≠ p := fun e => hc (e ▸ List.mem_of_getElem? h1)
    exact (w.cel n a c h1 h2).mono (.refl g) (by rw [upd_ne this])
  · rw [upd_ne (ne_of_none e h)]
    exact e
  · by_cases hb : b = p
    · rw [hb]; exact h
    · rw [upd_ne hb] at e
      exact e
/-- an open list is changed -/
theorem Wok.chg (w : Wok K g H S) {p : Addr} {o : HO} (hf : g.F p = none) (hc : p ∉ g.C) : Wok K g (upd H p o) S := by
  refine ⟨fun b u e => ?_, w.len, w.nd, w.off, fun n a c h1 h2 => ?_⟩
  · rw [upd_ne (ne_of_none e hf)]
    exact w.sub _ _ e
  · have : a ≠ p := fun e => hc (e ▸ List.mem_of_getElem? h1)
    exact (w.cel n a c h1 h2).mono (.refl g) (by rw [upd_ne this])
/-- an open list is fixed -/
theorem Wok.fix (w : Wok K g H S) {p : Addr} {o : HO} (h : H p = some o) (hf : g.F p = none) (hc : p ∉ g.C) : Wok K ⟨g.C, upd g.F p o⟩ H S := by
  refine ⟨fun b u e => ?_, w.len, w.nd, fun a ha => ?_, fun n a c h1 h2 => ?_⟩
  · have e : upd g.F p o b = some u := e
    by_cases hb : b = p
    · subst hb
      rw [upd_same] at e
      rw [h]
      exact e
    · rw [upd_ne hb] at e
      exact w.sub _ _ e
  · have : a ≠ p := fun e => hc (e ▸ ha)
    show upd g.F p o a = none
    rw [upd_ne this]
    exact w.off a ha
  · exact (w.cel n a c h1 h2).mono (ext_upd hf) rfl
theorem Evo.fix {g0 : G} {H0 : Hp} (e : Evo g0 H0 g H) {p : Addr} {o : HO} (hf : g.F p = none) (h0 : H0 p = none) : Evo g0 H0 ⟨g.C, upd g.F p o⟩ H := by
  refine ⟨e.ext.trans (ext_upd hf), e.keep, e.alive, fun b h n => ?_, e.newC⟩
  have n : upd g.F p o b ≠ none := n
  by_cases hb : b = p
  · rw [hb]; exact h0
  · rw [upd_ne hb] at n
    exact e.newF b h n
theorem Evo.chg {g0 : G} {H0 : Hp} (e : Evo g0 H0 g H) {p : Addr} {o : HO} (h0 : H0 p = none) : Evo g0 H0 g (upd H p o) := by
  refine ⟨e.ext, fun b u h n => ?_, fun b h => ?_, e.newF, e.newC⟩
  · rw [upd_ne (ne_of_none h h0)]
    exact e.keep b u h n
  · by_cases hb : b = p
    · rw [hb]; exact h0
    · rw [upd_ne hb] at h
      exact e.alive b h
end

/-! ### results -/
/-- a result that is kept: a list of its own is new since H0 -/
def RvS (K : PySem.W.Frag) (H0 : Hp) (g : G) (H : Hp) (v : V) : Rv → Prop
  | .fz d => RD K g v d
  | .ow ds => ∃ a vs, v = .ref a ∧ H a = some (.lst vs) ∧ RDs K g vs ds ∧ g.F a = none ∧ a ∉ g.C ∧ H0 a = none
/-- a result that is read -/
def RvR (K : PySem.W.Frag) (g : G) (H : Hp) (v : V) : Rv → Prop
  | .fz d => RD K g v d
  | .ow ds => ∃ a vs, v = .ref a ∧ H a = some (.lst vs) ∧ RDs K g vs ds ∧ a ∉ g.C
def Res (K : PySem.W.Frag) (rd : Bool) (H0 : Hp) (g : G) (H : Hp) (v : V) (r : Rv) : Prop := if rd then RvR K g H v r else RvS K H0 g H v r
/-- what may be read as d -/
def Rb (K : PySem.W.Frag) (g : G) (H : Hp) (v : V) (d : D) : Prop := RD K g v d ∨ ∃ a vs ds, v = .ref a ∧ d = .lst ds ∧ H a = some (.lst vs) ∧ RDs K g vs ds ∧ a ∉ g.C
section
variable {K : PySem.W.Frag} {g g' : G} {H H' H0 H1 : Hp} {S S' : Store} {v : V} {r : Rv} {d : D}
theorem RvS.toR (h : RvS K H0 g H v r) : RvR K g H v r := by
  cases r with
  | fz d => exact h
  | ow ds =>
    obtain ⟨a, vs, e1, e2, e3, _, e4, _⟩ := h
    exact ⟨a, vs, e1, e2, e3, e4⟩
theorem RvR.rb (h : RvR K g H v r) : Rb K g H v r.d := by
  cases r with
  | fz d => exact .inl h
  | ow ds =>
    obtain ⟨a, vs, e1, e2, e3, e4⟩ := h
    exact .inr ⟨a, vs, ds, e1, rfl, e2, e3, e4⟩
theorem Res.rb {rd : Bool} (h : Res K rd H0 g H v r) : Rb K g H v r.d := by
  cases rd with
  | true => exact RvR.rb (show RvR K g H v r from h)
  | false => exact RvR.rb (show RvS K H0 g H v r from h).toR
theorem RvS.base (x : ∀ b, H1 b = none → H0 b = none) (h : RvS K H1 g H v r) : RvS K H0 g H v r := by
  cases r with
  | fz d => exact h
  | ow ds =>
    obtain ⟨a, vs, e1, e2, e3, e4, e5, e6⟩ := h
    exact ⟨a, vs, e1, e2, e3, e4, e5, x _ e6⟩
theorem Res.base {rd : Bool} (x : ∀ b, H1 b = none → H0 b = none) (h : Res K rd H1 g H v r) : Res K rd H0 g H v r := by
  cases rd with
  | true => exact h
  | false => exact RvS.base x (show RvS K H1 g H v r from h)
theorem Rb.evo (e : Evo g H g' H') (h : Rb K g H v d) : Rb K g' H' v d := by
  rcases h with h | ⟨a, vs, ds, e1, e2, e3, e4, e5⟩
  · exact .inl (h.mono e.ext)
  · refine .inr ⟨a, vs, ds, e1, e2, e.keep _ _ e3 e5, e4.mono e.ext, fun m => ?_⟩
    have := e.newC a m e5
    rw [e3] at this
    cases this
theorem RvS.evo (e : Evo g H g' H') (h : RvS K H0 g H v r) : RvS K H0 g' H' v r := by
  cases r with
  | fz d => exact RD.mono e.ext h
  | ow ds =>
    obtain ⟨a, vs, e1, e2, e3, e4, e5, e6⟩ := h
    refine ⟨a, vs, e1, e.keep _ _ e2 e5, e3.mono e.ext, ?_, fun m => ?_, e6⟩
    · cases q : g'.F a with
      | none => rfl
      | some o =>
        have := e.newF a e4 (by rw [q]; simp)
        rw [e2] at this
        cases this
    · have := e.newC a m e5
      rw [e2] at this
      cases this
theorem Rb.lst {ds : List D} (w : Wok K g H S) (h : Rb K g H v (.lst ds)) : ∃ a vs, v = .ref a ∧ H a = some (.lst vs) ∧ RDs K g vs ds := by
  rcases h with h | ⟨a, vs, ds', e1, e2, e3, e4, _⟩
  · cases h with
    | lst h r => exact ⟨_, _, rfl, w.sub _ _ h, r⟩
  · cases e2
    exact ⟨a, vs, e1, e3, e4⟩
theorem Rb.tup {ds : List D} (w : Wok K g H S) (h : Rb K g H v (.tup ds)) : ∃ a vs, v = .ref a ∧ H a = some (.tup vs) ∧ RDs K g vs ds := by
  rcases h with h | ⟨a, vs, ds', e1, e2, e3, e4, _⟩
  · cases h with
    | tup h r => exact ⟨_, _, rfl, w.sub _ _ h, r⟩
  · cases e2
theorem Rb.int {i : Int} (h : Rb K g H v (.int i)) : v = .int i := by
  rcases h with h | ⟨a, vs, ds', e1, e2, _⟩
  · cases h
    rfl
  · cases e2
theorem Rb.bl {i : Bool} (h : Rb K g H v (.bl i)) : v = .bl i := by
  rcases h with h | ⟨a, vs, ds', e1, e2, _⟩
  · cases h
    rfl
  · cases e2
theorem Rb.str {i : Str} (h : Rb K g H v (.str i)) : v = .str i := by
  rcases h with h | ⟨a, vs, ds', e1, e2, _⟩
  · cases h
    rfl
  · cases e2
theorem Rb.non (h : Rb K g H v .non) : v = .non := by
  rcases h with h | ⟨a, vs, ds', e1, e2, _⟩
  · cases h
    rfl
  · cases e2
theorem Rb.cell {n : Nat} (h : Rb K g H v (.cell n)) : ∃ a, v = .ref a ∧ g.C[n]? = some a := by
  rcases h with h | ⟨a, vs, ds', e1, e2, _⟩
  · cases h with
    | cell h => exact ⟨_, rfl, h⟩
  · cases e2
theorem Rb.scr {ns : List Int} (w : Wok K g H S) (h : Rb K g H v (.scr ns)) : ∃ a, v = .ref a ∧ SqL K H a (ns.map V.int) := by
  rcases h with h | ⟨a, vs, ds', e1, e2, _⟩
  · cases h with
    | scr h => exact ⟨_, rfl, w.sub.seq h⟩
  · cases e2
theorem Rb.fn {n : Nat} (h : Rb K g H v (.fn n)) : False := by
  rcases h with h | ⟨a, vs, ds', e1, e2, _⟩
  · cases h
  · cases e2
end

/-! ### slots -/
structure EnvOk (K : PySem.W.Frag) (H0 : Hp) (g : G) (H : Hp) (env : Env) (σ : L2.St) : Prop where
  len : env.length = σ.length
  slot : ∀ (i : Nat) r, env[i]? = some (some r) → ∃ v, σ[i]? = some (some v) ∧ RvS K H0 g H v r
  apart : ∀ (i j : Nat) (a : Addr) xs ys, i ≠ j → env[i]? = some (some (.ow xs)) → env[j]? = some (some (.ow ys)) → σ[i]? = some (some (.ref a)) → σ[j]? = some (some (.ref a)) → False
section
variable {K : PySem.W.Frag} {g g' : G} {H H' H0 H1 : Hp} {S S' : Store} {env : Env} {σ : L2.St}
theorem EnvOk.evo (e : Evo g H g' H') (h : EnvOk K H0 g H env σ) : EnvOk K H0 g' H' env σ :=
  ⟨h.len, fun i r q => let ⟨v, h1, h2⟩ := h.slot i r q; ⟨v, h1, h2.evo e⟩, h.apart⟩
end

/-! ### wishes -/
def WP {α : Type} (o : Out α) (Q : α → Store → Prop) (X : Nat → Store → Prop) : Prop := match o with
  | .ok a S => Q a S
  | .exc x S => X x S
  | .stuck => False
theorem WP.bnd {α β : Type} {m : M α} {f : α → M β} {S : Store} {Q : β → Store → Prop} {X : Nat → Store → Prop} (h : WP (M.bnd m f S) Q X) : WP (m S) (fun a S' => WP (f a S') Q X) X := by
  unfold M.bnd at h
  cases q : m S with
  | ok a S' => rw [q] at h; exact h
  | exc x S' => rw [q] at h; exact h
  | stuck => rw [q] at h; exact h
theorem M.assoc {α β γ : Type} (m : M α) (f : α → M β) (h : β → M γ) : M.bnd (M.bnd m f) h = M.bnd m fun a => M.bnd (f a) h := by
  funext S
  unfold M.bnd
  cases m S <;> rfl
theorem M.ret_bnd {α β : Type} (a : α) (f : α → M β) : M.bnd (M.ret a) f = f a := rfl
theorem M.ite_bnd {α β : Type} (k : Bool) (m n : M α) (f : α → M β) : M.bnd (if k then m else n) f = if k then M.bnd m f else M.bnd n f := by
  cases k <;> rfl
theorem WP.mono {α : Type} {o : Out α} {Q Q' : α → Store → Prop} {X X' : Nat → Store → Prop} (h : WP o Q X) (hq : ∀ a S, Q a S → Q' a S) (hx : ∀ x S, X x S → X' x S) : WP o Q' X' := by
  cases o with
  | ok a S => exact hq a S h
  | exc x S => exact hx x S h
  | stuck => exact h
theorem WP.opt {α : Type} {o : Option α} {S : Store} {Q : α → Store → Prop} {X : Nat → Store → Prop} (h : WP (M.opt o S) Q X) : ∃ a, o = some a ∧ Q a S := by
  cases o with
  | none => exact False.elim h
  | some a => exact ⟨a, rfl, h⟩
theorem WP.optB {α β : Type} {o : Option α} {f : α → M β} {S : Store} {Q : β → Store → Prop} {X : Nat → Store → Prop} (h : WP (M.bnd (M.opt o) f S) Q X) : ∃ a, o = some a ∧ WP (f a S) Q X :=
  WP.opt (WP.bnd h)
theorem WP.ask {α : Type} {o : Store → Option α} {S : Store} {Q : α → Store → Prop} {X : Nat → Store → Prop} (h : WP (M.ask o S) Q X) : ∃ a, o S = some a ∧ Q a S := by
  unfold M.ask at h
  cases q : o S with
  | none => rw [q] at h; exact False.elim h
  | some a => rw [q] at h; exact ⟨a, rfl, h⟩
theorem WP.ite {α : Type} {c : Prop} [Decidable c] {m : M α} {S : Store} {Q : α → Store → Prop} {X : Nat → Store → Prop} (h : WP ((if c then m else M.stk) S) Q X) : c ∧ WP (m S) Q X := by
  by_cases q : c
  · rw [if_pos q] at h
    exact ⟨q, h⟩
  · rw [if_neg q] at h
    exact False.elim h

/-- an exception's wish -/
def QX (K : PySem.W.Frag) (cl : Nat → Addr) (E : XK) (g : G) (H : Hp) : Nat → Store → Prop := fun x S' => ∀ g' H', Evo g H g' H' → Wok K g' H' S' → E (.ref (cl x)) none H'
theorem QX.shift {K : PySem.W.Frag} {cl : Nat → Addr} {E : XK} {g g1 : G} {H H1 : Hp} (e : Evo g H g1 H1) {x : Nat} {S : Store} (h : QX K cl E g H x S) : QX K cl E g1 H1 x S := fun g' H' e' w => h g' H' (e.trans e') w
/-- an end's wish: R tells how the result stands -/
def Fin {α β : Type} (K : PySem.W.Frag) (R : Hp → G → Hp → β → α → Prop) (g : G) (H : Hp) (Q : β → Hp → Prop) : α → Store → Prop := fun r S' => ∀ v g' H', Evo g H g' H' → Wok K g' H' S' → R H g' H' v r → Q v H'
/-- R leans on the start's heap by what was new alone -/
def Anti {α β : Type} (R : Hp → G → Hp → β → α → Prop) : Prop := ∀ H H1 g' H' v r, (∀ b, H1 b = none → H b = none) → R H1 g' H' v r → R H g' H' v r
theorem Fin.shift {α β : Type} {K : PySem.W.Frag} {R : Hp → G → Hp → β → α → Prop} (hR : Anti R) {g g1 : G} {H H1 : Hp} {Q : β → Hp → Prop} (e : Evo g H g1 H1) {r : α} {S : Store} (h : Fin K R g H Q r S) : Fin K R g1 H1 Q r S :=
  fun v g' H' e' w x => h v g' H' (e.trans e') w (hR _ _ _ _ _ _ e.alive x)
theorem WP.shift {α β : Type} {K : PySem.W.Frag} {cl : Nat → Addr} {E : XK} {R : Hp → G → Hp → β → α → Prop} (hR : Anti R) {g g1 : G} {H H1 : Hp} {Q : β → Hp → Prop} (e : Evo g H g1 H1) {o : Out α} (h : WP o (Fin K R g H Q) (QX K cl E g H)) :
    WP o (Fin K R g1 H1 Q) (QX K cl E g1 H1) := h.mono (fun _ _ => Fin.shift hR e) fun _ _ => QX.shift e
/-- the four kinds of results -/
def RV (K : PySem.W.Frag) (rd : Bool) : Hp → G → Hp → V → Rv → Prop := Res K rd
def RBo : Hp → G → Hp → Bool → Bool → Prop := fun _ _ _ b k => b = k
def RL (K : PySem.W.Frag) : Hp → G → Hp → List V → List D → Prop := fun _ g _ vs ds => RDs K g vs ds
inductive Rbs (K : PySem.W.Frag) (g : G) (H : Hp) : List V → List D → Prop where
  | nil : Rbs K g H [] []
  | cons {v : V} {vs : List V} {d : D} {ds : List D} (h : Rb K g H v d) (r : Rbs K g H vs ds) : Rbs K g H (v :: vs) (d :: ds)
def RR (K : PySem.W.Frag) : Hp → G → Hp → List V → List D → Prop := fun _ g H vs ds => Rbs K g H vs ds
theorem anti_RV {K : PySem.W.Frag} {rd : Bool} : Anti (RV K rd) := fun _ _ _ _ _ _ x h => Res.base x h
theorem anti_RBo : Anti RBo := fun _ _ _ _ _ _ _ h => h
theorem anti_RL {K : PySem.W.Frag} : Anti (RL K) := fun _ _ _ _ _ _ _ h => h
theorem anti_RR {K : PySem.W.Frag} : Anti (RR K) := fun _ _ _ _ _ _ _ h => h

/-! ### the context and the readings -/
/-- what is the same through a law -/
structure Wd where
  P : Program
  w : World
  K : PySem.W.Frag
  mg : Str → Option Value
  base : Heap
  cs : Calls
  cl : Nat → Addr
  k : Nat
/-- a body or a block: its names, its scope, what is wished of exceptions -/
structure Ct where
  N : List Str
  sc : Scope
  fn : Str → Bool
  E : XK
structure XOk (W : Wd) (c : Ct) (X : Cx) : Prop where
  prog : X.prog = W.P
  w : X.w = W.w
  K : X.K = W.K
  mg : X.mg = W.mg
  base : X.base = W.base
  N : X.N = c.N
  sc : X.env.scope = c.sc
  fn : X.fn = c.fn
  calm : X.calm = true
  room : Room W.k X.A
  tk : Takes X fun cls d _ H => c.E cls d H
theorem PE.imp {X : Cx} {e : Expr} {t t' : TE} (h : PE X e t) (w : ∀ σ H Q, t' σ H Q → t σ H Q) : PE X e t' := ⟨fun pins s σ H Q I hw => h.run pins s σ H Q I (w _ _ _ hw)⟩
theorem PT.imp {X : Cx} {e : Expr} {t t' : TT} (h : PT X e t) (w : ∀ σ H Q, t' σ H Q → t σ H Q) : PT X e t' := ⟨fun pins s σ H Q I hw => h.run pins s σ H Q I (w _ _ _ hw)⟩
theorem PW.imp {X : Cx} {e : Expr} {t t' : TT} (h : PW X e t) (w : ∀ σ H Q, t' σ H Q → t σ H Q) : PW X e t' := ⟨fun wh pins s σ H Q I hw => h.run wh pins s σ H Q I (w _ _ _ hw)⟩
theorem PA.imp {X : Cx} {e : List Expr} {t t' : TA} (h : PA X e t) (w : ∀ σ H Q, t' σ H Q → t σ H Q) : PA X e t' := ⟨fun pos pins s σ H Q I hw => h.run pos pins s σ H Q I (w _ _ _ hw)⟩
theorem PS.imp {X : Cx} {e : Stmt} {t t' : TS} (h : PS X e t) (w : ∀ D σ H, t' D σ H → t D σ H) : PS X e t' := ⟨fun pins s σ H D I hw => h.run pins s σ H D I (w _ _ _ hw)⟩
theorem PSs.imp {X : Cx} {e : List Stmt} {t t' : TS} (h : PSs X e t) (w : ∀ D σ H, t' D σ H → t D σ H) : PSs X e t' := ⟨fun pins s σ H D I hw => h.run pins s σ H D I (w _ _ _ hw)⟩
section
variable (W : Wd) (E : XK)
/-- the reading of a step m over the slots, whose result stands as R says -/
def sem {α β : Type} (R : Hp → G → Hp → β → α → Prop) (m : Env → M α) : L2.St → Hp → (β → Hp → Prop) → Prop := fun σ H Q =>
  ∃ H0 g env S, Wok W.K g H S ∧ EnvOk W.K H0 g H env σ ∧ WP (m env S) (Fin W.K R g H Q) (QX W.K W.cl E g H)
abbrev semE (rd : Bool) (p : Ep) : TE := sem W E (RV W.K rd) fun env => evalE W.cs rd p env
abbrev semB (p : Ep) : TT := sem W E RBo fun env => evalB W.cs p env
abbrev semEs (p : Eps) : TA := sem W E (RL W.K) fun env => evalEs W.cs p env
abbrev semRs (p : Eps) : TA := sem W E (RR W.K) fun env => evalRs W.cs p env
end
section
variable {W : Wd} {E : XK} {α β α' β' : Type} {R : Hp → G → Hp → β → α → Prop} {R' : Hp → G → Hp → β' → α' → Prop} {m : Env → M α} {f : α → M α'} {σ : L2.St} {H H0 : Hp} {g : G} {env : Env} {S : Store} {Q : β' → Hp → Prop} {Y : β → Hp → Prop}
/-- one step, then the rest -/
theorem sem_seq (hR : Anti R') (wk : Wok W.K g H S) (en : EnvOk W.K H0 g H env σ) (w : WP (M.bnd (m env) f S) (Fin W.K R' g H Q) (QX W.K W.cl E g H))
    (k : ∀ r S1 v g1 H1, Evo g H g1 H1 → Wok W.K g1 H1 S1 → EnvOk W.K H0 g1 H1 env σ → R H g1 H1 v r → WP (f r S1) (Fin W.K R' g1 H1 Q) (QX W.K W.cl E g1 H1) → Y v H1) : sem W E R m σ H Y :=
  ⟨H0, g, env, S, wk, en, (WP.bnd w).mono (fun r S1 h v g1 H1 e w1 x => k r S1 v g1 H1 e w1 (en.evo e) x (h.shift hR e)) fun _ _ h => h⟩
end
end Mini
/-! SoundB: the operations by values. -/
namespace Mini
open PySem PySem.Spec PyProof.Rows L2

section
variable {K : PySem.W.Frag} {g g' : G} {H H' H0 H1 : Hp} {S S' : Store} {v : V} {r : Rv} {d : D} {ds : List D} {vs : List V} {Q : VK}
theorem res_fz {rd : Bool} (h : RD K g v d) : Res K rd H0 g H v (.fz d) := by
  cases rd <;> exact h
theorem fin_fz {rd : Bool} (q : Fin K (RV K rd) g H Q (.fz d) S) (w : Wok K g H S) (h : RD K g v d) : Q v H := q v g H (.refl g H) w (res_fz h)
theorem fin_tup {rd : Bool} (q : Fin K (RV K rd) g H Q (.fz (.tup ds)) S) (w : Wok K g H S) (h : RDs K g vs ds) {p : Addr} (hp : H p = none) : Q (.ref p) (upd H p (.tup vs)) := by
  obtain ⟨w', e⟩ := w.newFz (o := .tup vs) hp
  exact q _ _ _ e w' (res_fz (.tup upd_same (h.mono e.ext)))
theorem fin_lst (q : Fin K (RV K false) g H Q (.ow ds) S) (w : Wok K g H S) (h : RDs K g vs ds) {p : Addr} (hp : H p = none) : Q (.ref p) (upd H p (.lst vs)) := by
  obtain ⟨w', e⟩ := w.newOw (o := .lst vs) hp
  exact q _ _ _ e w' ⟨p, vs, rfl, upd_same, h, w.newF hp, w.newC hp, hp⟩
theorem RDs.flat (h : RDs K g vs ds) (n : Nat) : RDs K g (List.replicate n vs).flatten (List.replicate n ds).flatten := h.rep n
theorem RDs.cut (h : RDs K g vs ds) (lo hi : Option Int) : RDs K g (cutV vs lo hi) (cutD ds lo hi) := by
  unfold cutV cutD
  rw [h.length]
  exact (h.drop _).take _
theorem RDs.nil_iff (h : RDs K g vs ds) : vs = [] ↔ ds = [] := by
  cases h <;> simp
theorem cutD_whole {lo hi : Option Int} (h : HT.sIx ds.length 0 lo = 0 ∧ HT.sIx ds.length ds.length hi = ds.length) : cutD ds lo hi = ds := by
  unfold cutD
  rw [h.1, h.2]
  simp
end

/-! ### + - * // % ** -/
def bopOf : Operator → Option BOp
  | .Add => some .add
  | .Sub => some .sub
  | .Mult => some .mul
  | .FloorDiv => some .fdiv
  | .Mod => some .mod
  | .Pow => some .pow
  | _ => none
def rBin (W : Wd) (o : BOp) : R2 := fun x y H Q => ∃ g S dx dy r, Wok W.K g H S ∧ Rb W.K g H x dx ∧ Rb W.K g H y dy ∧ binop o dx dy = some r ∧ Fin W.K (RV W.K false) g H Q r S
section
variable {X : Cx} {W : Wd}
theorem op_bin (hK : X.K = W.K) {op : Operator} {o : BOp} (h : bopOf op = some o) : OpR X (binaryOp op) (rBin W o) := by
  intro pins s σ H x y v u Q I rx ry ⟨g, S, dx, dy, r, w, hx, hy, e, q⟩
  cases op <;> cases h
  case Add =>
    replace e : addD dx dy = some r := e
    unfold addD at e
    split at e <;> first | (cases e; done) | skip
    · cases e
      have := hx.int
      have := hy.int
      subst_vars
      exact op_add pins s σ H _ _ v u Q I rx ry ⟨_, _, rfl, rfl, fin_fz q w (.int _)⟩
    · obtain ⟨hz, e⟩ := Option.ite_none_right_eq_some.mp e
      cases e
      obtain ⟨a, vs, rfl, ha, r1⟩ := hx.lst w
      obtain ⟨b, us, rfl, hb, r2⟩ := hy.lst w
      exact op_cat pins s σ H _ _ v u Q I rx ry ⟨a, b, vs, us, rfl, rfl, ha, hb, by rw [r1.length, r2.length]; exact hz, fun p hp => fin_lst q w (r1.append r2) hp⟩
    · obtain ⟨hz, e⟩ := Option.ite_none_right_eq_some.mp e
      cases e
      obtain ⟨a, vs, rfl, ha, r1⟩ := hx.tup w
      obtain ⟨b, us, rfl, hb, r2⟩ := hy.tup w
      refine op_catA pins s σ H _ _ v u Q I rx ry ⟨a, b, vs, us, rfl, rfl, SqT.of ha, SqT.of hb, by rw [r1.length, r2.length]; exact hz, fun z => ?_, fun z z' => ?_, fun z z' p hp => fin_tup q w (r1.append r2) hp⟩
      · have := r1.nil_iff.mp z
        subst this
        rcases hy with hy | ⟨_, _, _, _, z, _⟩
        · exact fin_fz q w hy
        · cases z
      · have := r2.nil_iff.mp z'
        subst this
        rw [List.append_nil] at q
        rcases hx with hx | ⟨_, _, _, _, z, _⟩
        · exact fin_fz q w hx
        · cases z
  case Sub =>
    replace e : subD dx dy = some r := e
    unfold subD at e
    split at e <;> first | (cases e; done) | skip
    cases e
    have := hx.int
    have := hy.int
    subst_vars
    exact op_sub pins s σ H _ _ v u Q I rx ry ⟨_, _, rfl, rfl, fin_fz q w (.int _)⟩
  case Mult =>
    replace e : mulD dx dy = some r := e
    unfold mulD at e
    split at e <;> first | (cases e; done) | skip
    · obtain ⟨hz, e⟩ := Option.ite_none_right_eq_some.mp e
      cases e
      have := hx.int
      have := hy.int
      subst_vars
      exact op_mul pins s σ H _ _ v u Q I rx ry ⟨_, _, rfl, rfl, hz, fin_fz q w (.int _)⟩
    · obtain ⟨⟨h1, h2, h3, h4⟩, e⟩ := Option.ite_none_right_eq_some.mp e
      cases e
      obtain ⟨a, vs, rfl, ha, r1⟩ := hx.tup w
      have := hy.int
      subst this
      exact (hK ▸ op_repT (X := X)) pins s σ H _ _ v u Q I rx ry ⟨a, _, vs, rfl, rfl, SqT.of ha, fun z => h1 (r1.nil_iff.mp z), h2, h3, by rw [r1.length]; exact h4, fun p hp => fin_tup q w (r1.flat _) hp⟩
    · obtain ⟨⟨h2, h3, h4⟩, e⟩ := Option.ite_none_right_eq_some.mp e
      cases e
      obtain ⟨a, vs, rfl, ha, r1⟩ := hx.lst w
      have := hy.int
      subst this
      rename_i k
      have hz : vs.length * k.toNat ≤ sizeLine := by
        rw [r1.length, sizeLine_eq]
        exact Nat.le_trans (Nat.mul_le_mul h4 (show k.toNat ≤ 1000 by omega)) (by decide)
      exact op_rep pins s σ H _ _ v u Q I rx ry ⟨a, _, vs, rfl, rfl, ha, by omega, by omega, hz, fun p hp => fin_lst q w (r1.flat _) hp⟩
  case FloorDiv =>
    replace e : fdivD dx dy = some r := e
    unfold fdivD at e
    split at e <;> first | (cases e; done) | skip
    obtain ⟨hz, e⟩ := Option.ite_none_right_eq_some.mp e
    cases e
    have := hx.int
    have := hy.int
    subst_vars
    exact op_fdiv pins s σ H _ _ v u Q I rx ry ⟨_, _, rfl, rfl, hz, fin_fz q w (.int _)⟩
  case Mod =>
    replace e : modD dx dy = some r := e
    unfold modD at e
    split at e <;> first | (cases e; done) | skip
    obtain ⟨hz, e⟩ := Option.ite_none_right_eq_some.mp e
    cases e
    have := hx.int
    have := hy.int
    subst_vars
    exact op_mod pins s σ H _ _ v u Q I rx ry ⟨_, _, rfl, rfl, hz, fin_fz q w (.int _)⟩
  case Pow =>
    replace e : powD dx dy = some r := e
    unfold powD at e
    split at e <;> first | (cases e; done) | skip
    obtain ⟨hz, e⟩ := Option.ite_none_right_eq_some.mp e
    cases e
    have := hx.int
    have := hy.int
    subst_vars
    rename_i i j _
    exact op_pow pins s σ H _ _ v u Q I rx ry ⟨_, _, rfl, rfl, ⟨hz.1, by omega, by omega⟩, fin_fz q w (.int _)⟩
end

/-! ### plain data as the library has it -/
mutual
def toPy : D → PyData
  | .non => .none
  | .bl b => .bool b
  | .int i => .int i
  | .str x => .str x
  | .tup xs => .tuple (toPys xs)
  | .lst xs => .list (toPys xs)
  | .cell _ | .fn _ | .scr _ => .none
def toPys : List D → List PyData
  | [] => []
  | x :: xs => toPy x :: toPys xs
end
mutual
theorem pl_lay : ∀ d : D, d.pl = true → (toPy d).canLay0 = true
  | .non, _ => by simp [toPy, PyData.canLay0]
  | .bl _, _ => by simp [toPy, PyData.canLay0]
  | .int _, _ => by simp [toPy, PyData.canLay0]
  | .str x, h => by
    simp only [toPy, PyData.canLay0]
    exact h
  | .tup xs, h => by
    simp only [toPy, PyData.canLay0]
    exact pls_lay xs (by simpa only [D.pl] using h)
  | .lst xs, h => by
    simp only [toPy, PyData.canLay0]
    exact pls_lay xs (by simpa only [D.pl] using h)
  | .cell _, h => by simp [D.pl] at h
  | .fn _, h => by simp [D.pl] at h
  | .scr _, h => by simp [D.pl] at h
theorem pls_lay : ∀ ds : List D, D.pls ds = true → PyData.canLayAll0 (toPys ds) = true
  | [], _ => by simp [toPys, PyData.canLayAll0]
  | d :: ds, h => by
    simp only [D.pls, Bool.and_eq_true] at h
    simp only [toPys, PyData.canLayAll0, Bool.and_eq_true]
    exact ⟨pl_lay d h.1, pls_lay ds h.2⟩
end
mutual
theorem shal_depth : ∀ (n : Nat) (d : D), d.shal n = true → (toPy d).depth ≤ n
  | _, .non, _ => by simp [toPy, PyData.depth]
  | _, .bl _, _ => by simp [toPy, PyData.depth]
  | _, .int _, _ => by simp [toPy, PyData.depth]
  | _, .str _, _ => by simp [toPy, PyData.depth]
  | _, .cell _, _ => by simp [toPy, PyData.depth]
  | _, .fn _, _ => by simp [toPy, PyData.depth]
  | _, .scr _, _ => by simp [toPy, PyData.depth]
  | 0, .tup _, h => by simp [D.shal] at h
  | 0, .lst _, h => by simp [D.shal] at h
  | n + 1, .tup xs, h => by
    simp only [toPy, PyData.depth]
    exact Nat.succ_le_succ (shals_depth n xs (by simpa only [D.shal] using h))
  | n + 1, .lst xs, h => by
    simp only [toPy, PyData.depth]
    exact Nat.succ_le_succ (shals_depth n xs (by simpa only [D.shal] using h))
theorem shals_depth : ∀ (n : Nat) (ds : List D), D.shals n ds = true → PyData.depthAll (toPys ds) ≤ n
  | _, [], _ => by simp [toPys, PyData.depthAll]
  | n, d :: ds, h => by
    simp only [D.shals, Bool.and_eq_true] at h
    simp only [toPys, PyData.depthAll]
    have h1 := shal_depth n d h.1
    have h2 := shals_depth n ds h.2
    omega
end
mutual
theorem eqv_py : ∀ (a b : D), a.pl = true → b.pl = true → PyData.eqv (toPy a) (toPy b) = a.eqv b
  | .tup xs, .tup ys, h1, h2 => by
    simp only [toPy, PyData.eqv, D.eqv]
    exact eqvs_py xs ys (by simpa only [D.pl] using h1) (by simpa only [D.pl] using h2)
  | .lst xs, .lst ys, h1, h2 => by
    simp only [toPy, PyData.eqv, D.eqv]
    exact eqvs_py xs ys (by simpa only [D.pl] using h1) (by simpa only [D.pl] using h2)
  | .cell _, _, h1, _ => by simp [D.pl] at h1
  | .fn _, _, h1, _ => by simp [D.pl] at h1
  | .scr _, _, h1, _ => by simp [D.pl] at h1
  | .non, b, _, h2 => by cases b <;> first | (simp [D.pl] at h2; done) | simp [toPy, PyData.eqv, D.eqv]
  | .bl _, b, _, h2 => by cases b <;> first | (simp [D.pl] at h2; done) | simp [toPy, PyData.eqv, D.eqv]
  | .int _, b, _, h2 => by cases b <;> first | (simp [D.pl] at h2; done) | simp [toPy, PyData.eqv, D.eqv]
  | .str _, b, _, h2 => by cases b <;> first | (simp [D.pl] at h2; done) | simp [toPy, PyData.eqv, D.eqv]
  | .tup _, .non, _, _ | .tup _, .bl _, _, _ | .tup _, .int _, _, _ | .tup _, .str _, _, _ | .tup _, .lst _, _, _ => by simp [toPy, PyData.eqv, D.eqv]
  | .lst _, .non, _, _ | .lst _, .bl _, _, _ | .lst _, .int _, _, _ | .lst _, .str _, _, _ | .lst _, .tup _, _, _ => by simp [toPy, PyData.eqv, D.eqv]
  | .tup _, .cell _, _, h2 | .tup _, .fn _, _, h2 | .tup _, .scr _, _, h2 => by simp [D.pl] at h2
  | .lst _, .cell _, _, h2 | .lst _, .fn _, _, h2 | .lst _, .scr _, _, h2 => by simp [D.pl] at h2
theorem eqvs_py : ∀ (xs ys : List D), D.pls xs = true → D.pls ys = true → PyData.eqvAll (toPys xs) (toPys ys) = D.eqvs xs ys
  | [], [], _, _ => by simp [toPys, PyData.eqvAll, D.eqvs]
  | [], _ :: _, _, _ => by simp [toPys, PyData.eqvAll, D.eqvs]
  | _ :: _, [], _, _ => by simp [toPys, PyData.eqvAll, D.eqvs]
  | x :: xs, y :: ys, h1, h2 => by
    simp only [D.pls, Bool.and_eq_true] at h1 h2
    simp only [toPys, PyData.eqvAll, D.eqvs]
    rw [eqv_py x y h1.1 h2.1, eqvs_py xs ys h1.2 h2.2]
end
section
variable {K : PySem.W.Frag} {g g' : G} {H H' H0 H1 : Hp} {S S' : Store}
mutual
theorem RD.dp (sub : Same g.F H) : ∀ {d : D} {v : V}, RD K g v d → d.pl = true → Dp K H v (toPy d)
  | .non, _, .non, _ => by simp only [toPy]; exact .non
  | .bl _, _, .bl b, _ => by simp only [toPy]; exact .bl b
  | .int _, _, .int b, _ => by simp only [toPy]; exact .int b
  | .str _, _, .str b, _ => by simp only [toPy]; exact .str b
  | .tup _, _, .tup h r, p => by
    simp only [toPy]
    exact .tup (SqT.of (sub _ _ h)) (RDs.dp sub r (by simpa only [D.pl] using p))
  | .lst _, _, .lst h r, p => by
    simp only [toPy]
    exact .lst (SqL.of (sub _ _ h)) (RDs.dp sub r (by simpa only [D.pl] using p))
  | .cell _, _, _, p => by simp [D.pl] at p
  | .scr _, _, _, p => by simp [D.pl] at p
theorem RDs.dp (sub : Same g.F H) : ∀ {ds : List D} {vs : List V}, RDs K g vs ds → D.pls ds = true → DpAll K H vs (toPys ds)
  | [], _, .nil, _ => by simp only [toPys]; exact .nil
  | _ :: _, _, .cons h r, p => by
    simp only [D.pls, Bool.and_eq_true] at p
    simp only [toPys]
    exact .cons (RD.dp sub h p.1) (RDs.dp sub r p.2)
end
theorem Rb.dp {v : V} {d : D} (w : Wok K g H S) (h : Rb K g H v d) (p : d.pl = true) : Dp K H v (toPy d) := by
  rcases h with h | ⟨a, vs, ds, e1, e2, e3, e4, _⟩
  · exact RD.dp w.sub h p
  · subst e1 e2
    simp only [toPy]
    exact .lst (SqL.of e3) (RDs.dp w.sub e4 (by simpa only [D.pl] using p))
theorem eqD_of {a b : D} {c : Bool} (h : eqD a b = some c) : a.pl = true ∧ b.pl = true ∧ (a.shal DEEP = true ∨ b.shal DEEP = true) ∧ c = a.eqv b := by
  unfold eqD at h
  obtain ⟨h1, h2⟩ := Option.ite_none_right_eq_some.mp h
  simp only [Bool.and_eq_true, Bool.or_eq_true] at h1
  exact ⟨h1.1.1, h1.1.2, h1.2, (Option.some.inj h2).symm⟩
theorem memD_any {x : D} : ∀ {ys : List D} {c : Bool}, memD x ys = some c → (toPys ys).any (fun y => PyData.eqv y (toPy x)) = c ∧ (ys ≠ [] → x.pl = true) ∧ D.pls ys = true ∧ (x.shal DEEP = true ∨ D.shals DEEP ys = true)
  | [], c, h => by
    cases h
    simp [toPys, D.pls, D.shals]
  | y :: ys, c, h => by
    unfold memD at h
    split at h
    · rename_i b c' h1 h2
      cases h
      obtain ⟨p1, p2, p3, p4⟩ := eqD_of h1
      obtain ⟨q1, q2, q3, q4⟩ := memD_any h2
      refine ⟨?_, fun _ => p2, ?_, ?_⟩
      · simp only [toPys, List.any_cons, q1, eqv_py y x p1 p2, p4]
      · simp only [D.pls, p1, q3, Bool.and_self]
      · rcases p3 with p3 | p3
        · rcases q4 with q4 | q4
          · exact .inl q4
          · exact .inr (by simp only [D.shals, p3, q4, Bool.and_self])
        · exact .inl p3
    · cases h
end

/-! ### comparisons -/
def copOf : CmpOp → Option COp
  | .Eq => some .eq
  | .NotEq => some .ne
  | .Lt => some .lt
  | .LtE => some .le
  | .Gt => some .gt
  | .GtE => some .ge
  | .In => some .isIn
  | .NotIn => some .notIn
  | _ => none
def rCmp (W : Wd) (o : COp) : R2 := fun x y H Q => ∃ g S dx dy c, Wok W.K g H S ∧ Rb W.K g H x dx ∧ Rb W.K g H y dy ∧ cmpop o dx dy = some c ∧ Q (.bl c) H
section
variable {X : Cx} {W : Wd}
theorem room_deep {A : Around} {k : Nat} (r : Room k A) {a b : Nat} (h : a ≤ 60 ∨ b ≤ 60) : A.units + min a b < cLine := by
  have := r.units
  omega
theorem op_cmp (hK : X.K = W.K) {k : Nat} (hr : Room k X.A) {op : CmpOp} {o : COp} (h : copOf op = some o) : OpR X (compareOp op) (rCmp W o) := by
  intro pins s σ H x y v u Q I rx ry ⟨g, S, dx, dy, c, w, hx, hy, e, q⟩
  have hin : ∀ {ys : List D} {c : Bool}, memD dx ys = some c → ys ≠ [] → ∃ as, Reads s.heap v (toPy dx) as ∧ (toPy dx).canLay0 = true ∧ PyData.canLayAll0 (toPys ys) = true ∧ X.A.units + 1 + min (PyData.depthAll (toPys ys)) (toPy dx).depth < cLine := fun {ys c} hm hn => by
    obtain ⟨_, q2, q3, q4⟩ := memD_any hm
    obtain ⟨as, r1⟩ := Dp.reads I (toPy dx) x v (hK ▸ hx.dp w (q2 hn)) rx
    refine ⟨as, r1, pl_lay _ (q2 hn), pls_lay _ q3, ?_⟩
    have hu := hr.units
    rcases q4 with q4 | q4
    · have := shal_depth _ _ q4
      unfold DEEP at this
      omega
    · have := shals_depth _ _ q4
      unfold DEEP at this
      omega
  cases op <;> cases h
  case Eq =>
    obtain ⟨p1, p2, p3, rfl⟩ := eqD_of e
    obtain ⟨as, r1⟩ := Dp.reads I (toPy dx) x v (hK ▸ hx.dp w p1) rx
    obtain ⟨bs, r2⟩ := Dp.reads I (toPy dy) y u (hK ▸ hy.dp w p2) ry
    refine SeqAt.compareEq_reads r1 r2 (pl_lay _ p1) (pl_lay _ p2) (room_deep hr ?_) ⟨.bl _, H, I, rfl, ?_⟩
    · rcases p3 with p3 | p3
      · exact .inl (shal_depth _ _ p3)
      · exact .inr (shal_depth _ _ p3)
    · rw [eqv_py _ _ p1 p2]
      exact q
  case NotEq =>
    obtain ⟨c', e', rfl⟩ := Option.map_eq_some_iff.mp (show (eqD dx dy).map (!·) = some c from e)
    obtain ⟨p1, p2, p3, rfl⟩ := eqD_of e'
    obtain ⟨as, r1⟩ := Dp.reads I (toPy dx) x v (hK ▸ hx.dp w p1) rx
    obtain ⟨bs, r2⟩ := Dp.reads I (toPy dy) y u (hK ▸ hy.dp w p2) ry
    refine SeqAt.compareNe_reads r1 r2 (pl_lay _ p1) (pl_lay _ p2) (room_deep hr ?_) ⟨.bl _, H, I, rfl, ?_⟩
    · rcases p3 with p3 | p3
      · exact .inl (shal_depth _ _ p3)
      · exact .inr (shal_depth _ _ p3)
    · rw [eqv_py _ _ p1 p2]
      exact q
  case Lt =>
    replace e : cmpI (fun i j => decide (i < j)) dx dy = some c := e
    unfold cmpI at e
    split at e <;> first | (cases e; done) | skip
    cases e
    have := hx.int
    have := hy.int
    subst_vars
    exact op_lt pins s σ H _ _ v u Q I rx ry ⟨_, _, rfl, rfl, q⟩
  case LtE =>
    replace e : cmpI (fun i j => decide (i ≤ j)) dx dy = some c := e
    unfold cmpI at e
    split at e <;> first | (cases e; done) | skip
    cases e
    have := hx.int
    have := hy.int
    subst_vars
    exact op_le pins s σ H _ _ v u Q I rx ry ⟨_, _, rfl, rfl, q⟩
  case Gt =>
    replace e : cmpI (fun i j => decide (j < i)) dx dy = some c := e
    unfold cmpI at e
    split at e <;> first | (cases e; done) | skip
    cases e
    have := hx.int
    have := hy.int
    subst_vars
    exact op_gt pins s σ H _ _ v u Q I rx ry ⟨_, _, rfl, rfl, q⟩
  case GtE =>
    replace e : cmpI (fun i j => decide (j ≤ i)) dx dy = some c := e
    unfold cmpI at e
    split at e <;> first | (cases e; done) | skip
    cases e
    have := hx.int
    have := hy.int
    subst_vars
    exact op_ge pins s σ H _ _ v u Q I rx ry ⟨_, _, rfl, rfl, q⟩
  case In =>
    replace e : inD dx dy = some c := e
    unfold inD at e
    split at e <;> first | (cases e; done) | skip
    · rename_i ys
      by_cases hn : ys = []
      · subst hn
        cases e
        obtain ⟨a, vs, rfl, ha, r1⟩ := hy.tup w
        have := r1.nil_iff.mpr rfl
        subst this
        cases ry
        obtain ⟨its, rv, pt, hz⟩ := I.tuple (SqT.of ha)
        cases rv
        exact SeqAt.in_tupleAt (fun _ => false) pt (fun w hw => by simp at hw) ⟨.bl _, H, I, rfl, by simpa using q⟩
      · obtain ⟨as, r1, l1, l2, l3⟩ := hin e hn
        obtain ⟨m1, _, m3, _⟩ := memD_any e
        obtain ⟨bs, r2⟩ := Dp.reads I (toPy (.tup ys)) y u (hK ▸ hy.dp w (by simpa only [D.pl] using m3)) ry
        simp only [toPy] at r2
        exact SeqAt.in_tuple_reads r2 r1 l2 l1 l3 ⟨.bl _, H, I, rfl, by rw [m1]; exact q⟩
    · rename_i ys
      by_cases hn : ys = []
      · subst hn
        cases e
        obtain ⟨a, vs, rfl, ha, r1⟩ := hy.lst w
        have := r1.nil_iff.mpr rfl
        subst this
        cases ry
        obtain ⟨its, rv, pt, hz⟩ := I.list (SqL.of ha)
        cases rv
        exact SeqAt.in_listAt (fun _ => false) pt.isList (fun w hw => by simp at hw) ⟨.bl _, H, I, rfl, by simpa using q⟩
      · obtain ⟨as, r1, l1, l2, l3⟩ := hin e hn
        obtain ⟨m1, _, m3, _⟩ := memD_any e
        obtain ⟨bs, r2⟩ := Dp.reads I (toPy (.lst ys)) y u (hK ▸ hy.dp w (by simpa only [D.pl] using m3)) ry
        simp only [toPy] at r2
        exact SeqAt.in_list_reads r2 r1 l2 l1 l3 ⟨.bl _, H, I, rfl, by rw [m1]; exact q⟩
  case NotIn =>
    obtain ⟨c', e', rfl⟩ := Option.map_eq_some_iff.mp (show (inD dx dy).map (!·) = some c from e)
    clear e
    have e := e'
    clear e'
    unfold inD at e
    split at e <;> first | (cases e; done) | skip
    · rename_i ys
      by_cases hn : ys = []
      · subst hn
        cases e
        obtain ⟨a, vs, rfl, ha, r1⟩ := hy.tup w
        have := r1.nil_iff.mpr rfl
        subst this
        cases ry
        obtain ⟨its, rv, pt, hz⟩ := I.tuple (SqT.of ha)
        cases rv
        exact SeqAt.notIn_tupleAt (fun _ => false) pt (fun w hw => by simp at hw) ⟨.bl _, H, I, rfl, by simpa using q⟩
      · obtain ⟨as, r1, l1, l2, l3⟩ := hin e hn
        obtain ⟨m1, _, m3, _⟩ := memD_any e
        obtain ⟨bs, r2⟩ := Dp.reads I (toPy (.tup ys)) y u (hK ▸ hy.dp w (by simpa only [D.pl] using m3)) ry
        simp only [toPy] at r2
        exact SeqAt.notIn_tuple_reads r2 r1 l2 l1 l3 ⟨.bl _, H, I, rfl, by rw [m1]; exact q⟩
    · rename_i ys
      by_cases hn : ys = []
      · subst hn
        cases e
        obtain ⟨a, vs, rfl, ha, r1⟩ := hy.lst w
        have := r1.nil_iff.mpr rfl
        subst this
        cases ry
        obtain ⟨its, rv, pt, hz⟩ := I.list (SqL.of ha)
        cases rv
        exact SeqAt.notIn_listAt (fun _ => false) pt.isList (fun w hw => by simp at hw) ⟨.bl _, H, I, rfl, by simpa using q⟩
      · obtain ⟨as, r1, l1, l2, l3⟩ := hin e hn
        obtain ⟨m1, _, m3, _⟩ := memD_any e
        obtain ⟨bs, r2⟩ := Dp.reads I (toPy (.lst ys)) y u (hK ▸ hy.dp w (by simpa only [D.pl] using m3)) ry
        simp only [toPy] at r2
        exact SeqAt.notIn_list_reads r2 r1 l2 l1 l3 ⟨.bl _, H, I, rfl, by rw [m1]; exact q⟩
end
end Mini
/-! SoundC: built-in calls by values; expressions. -/
namespace Mini
open PySem PySem.Spec PyProof.Rows L2

/-! ### built-in calls -/
def bltV : Blt → Option Value
  | .len => some (.builtin "len")
  | .tuple => some (.type "tuple")
  | .list => some (.type "list")
  | .sum => some (.builtin "sum")
  | .all => some (.builtin "all")
  | .any => some (.builtin "any")
  | .max1 => some (.builtin "max")
  | .max2 => some (.builtin "max")
  | .min2 => some (.builtin "min")
  | .int1 => some (.type "int")
  | .repr => some (.builtin "repr")
  | _ => none
def rBlt (W : Wd) (b : Blt) : List V → Hp → VK → Prop := fun xs H Q => ∃ g S ds r, Wok W.K g H S ∧ Rbs W.K g H xs ds ∧ bltop S b ds = some r ∧ Fin W.K (RV W.K false) g H Q r S
section
variable {K : PySem.W.Frag} {g : G} {H : Hp} {S : Store}
theorem Rbs.one {xs : List V} {d : D} (h : Rbs K g H xs [d]) : ∃ v, xs = [v] ∧ Rb K g H v d := by
  cases h with
  | cons h r => cases r; exact ⟨_, rfl, h⟩
theorem Rbs.two {xs : List V} {d e : D} (h : Rbs K g H xs [d, e]) : ∃ v u, xs = [v, u] ∧ Rb K g H v d ∧ Rb K g H u e := by
  cases h with
  | cons h r =>
    obtain ⟨u, rfl, h2⟩ := r.one
    exact ⟨_, _, rfl, h, h2⟩
theorem maxI_mem : ∀ {ns : List Int}, ns ≠ [] → maxI ns ∈ ns ∧ ∀ y ∈ ns, y ≤ maxI ns
  | [x], _ => by simp [maxI]
  | x :: y :: r, _ => by
    obtain ⟨h1, h2⟩ := maxI_mem (ns := y :: r) (by simp)
    unfold maxI
    split
    · refine ⟨List.mem_cons_of_mem _ h1, fun z hz => ?_⟩
      rcases List.mem_cons.mp hz with rfl | hz
      · omega
      · exact h2 z hz
    · refine ⟨List.mem_cons_self, fun z hz => ?_⟩
      rcases List.mem_cons.mp hz with rfl | hz
      · omega
      · have := h2 z hz
        omega
theorem intsD_len : ∀ {ds : List D} {ns : List Int}, intsD ds = some ns → ns.length = ds.length
  | [], ns, h => by cases h; rfl
  | d :: ds, ns, h => by
    cases d with
    | int i =>
      obtain ⟨ms, h1, rfl⟩ := Option.map_eq_some_iff.mp (show (intsD ds).map (i :: ·) = some ns from h)
      simp [intsD_len h1]
    | _ => cases h
end
section
variable {X : Cx} {W : Wd}
theorem call_blt (hK : X.K = W.K) (hc : X.calm = true) {b : Blt} {f : Value} (h : bltV b = some f) : CallR X f (rBlt W b) := by
  intro pins s σ H xs us Q I r ⟨g, S, ds, r', w, hx, e, q⟩
  cases b <;> cases h
  case len =>
    unfold bltop at e
    split at e <;> first | (cases e; done) | skip
    all_goals (rename_i hb; try (cases hb; done))
    · obtain ⟨v, rfl, h⟩ := hx.one
      obtain ⟨a, rfl, hg⟩ := h.cell
      split at e <;> first | (cases e; done) | skip
      rename_i hS
      cases e
      obtain ⟨vs, h1, h2⟩ := w.cel _ _ _ hg hS
      exact call_len_seq pins s σ H _ us Q I r ⟨a, vs, rfl, .inl (SqL.of h1), by rw [h2.length]; exact fin_fz q w (.int _)⟩
    · cases e
      obtain ⟨v, rfl, h⟩ := hx.one
      obtain ⟨a, rfl, hg⟩ := h.scr w
      exact (hK ▸ call_len_seq (X := X)) pins s σ H _ us Q I r ⟨a, _, rfl, .inl hg, by rw [List.length_map]; exact fin_fz q w (.int _)⟩
    · cases e
      obtain ⟨v, rfl, h⟩ := hx.one
      obtain ⟨a, vs, rfl, h1, h2⟩ := h.tup w
      exact call_len_seq pins s σ H _ us Q I r ⟨a, vs, rfl, .inr (SqT.of h1), by rw [h2.length]; exact fin_fz q w (.int _)⟩
    · cases e
      obtain ⟨v, rfl, h⟩ := hx.one
      obtain ⟨a, vs, rfl, h1, h2⟩ := h.lst w
      exact call_len_seq pins s σ H _ us Q I r ⟨a, vs, rfl, .inl (SqL.of h1), by rw [h2.length]; exact fin_fz q w (.int _)⟩
  case tuple =>
    unfold bltop at e
    split at e <;> first | (cases e; done) | skip
    all_goals (rename_i hb; try (cases hb; done))
    · cases e
      obtain ⟨v, rfl, h⟩ := hx.one
      obtain ⟨a, vs, rfl, h1, h2⟩ := h.lst w
      exact call_tuple_of pins s σ H _ us Q I r ⟨a, vs, rfl, .inl ⟨SqL.of h1, fun p hp => fin_tup q w h2 hp⟩⟩
    · cases e
      obtain ⟨v, rfl, h⟩ := hx.one
      obtain ⟨a, vs, rfl, h1, h2⟩ := h.tup w
      rcases h with h | ⟨_, _, _, _, z, _⟩
      · exact call_tuple_of pins s σ H _ us Q I r ⟨a, vs, rfl, .inr ⟨SqT.of h1, fin_fz q w h⟩⟩
      · cases z
  case list =>
    unfold bltop at e
    split at e <;> first | (cases e; done) | skip
    all_goals (rename_i hb; try (cases hb; done))
    · cases e
      obtain ⟨v, rfl, h⟩ := hx.one
      obtain ⟨a, vs, rfl, h1, h2⟩ := h.lst w
      exact call_list_of pins s σ H _ us Q I r ⟨a, vs, rfl, .inl (SqL.of h1), fun p hp => fin_lst q w h2 hp⟩
    · cases e
      obtain ⟨v, rfl, h⟩ := hx.one
      obtain ⟨a, vs, rfl, h1, h2⟩ := h.tup w
      exact call_list_of pins s σ H _ us Q I r ⟨a, vs, rfl, .inr (SqT.of h1), fun p hp => fin_lst q w h2 hp⟩
  case sum =>
    unfold bltop at e
    split at e <;> first | (cases e; done) | skip
    all_goals (rename_i hb; try (cases hb; done))
    obtain ⟨ns, h0, rfl⟩ := Option.map_eq_some_iff.mp e
    obtain ⟨v, rfl, h⟩ := hx.one
    obtain ⟨a, vs, rfl, h1, h2⟩ := h.lst w
    have := h2.ints h0
    subst this
    exact cr_sum hc pins s σ H _ us Q I r ⟨a, ns, rfl, SqL.of h1, fin_fz q w (.int _)⟩
  case all =>
    unfold bltop at e
    split at e <;> first | (cases e; done) | skip
    all_goals (rename_i hb; try (cases hb; done))
    obtain ⟨ns, h0, rfl⟩ := Option.map_eq_some_iff.mp e
    obtain ⟨v, rfl, h⟩ := hx.one
    obtain ⟨a, vs, rfl, h1, h2⟩ := h.lst w
    have := h2.bools h0
    subst this
    exact cr_all hc pins s σ H _ us Q I r ⟨a, ns, rfl, SqL.of h1, fin_fz q w (.bl _)⟩
  case any =>
    unfold bltop at e
    split at e <;> first | (cases e; done) | skip
    all_goals (rename_i hb; try (cases hb; done))
    obtain ⟨ns, h0, rfl⟩ := Option.map_eq_some_iff.mp e
    obtain ⟨v, rfl, h⟩ := hx.one
    obtain ⟨a, vs, rfl, h1, h2⟩ := h.lst w
    have := h2.bools h0
    subst this
    exact cr_any hc pins s σ H _ us Q I r ⟨a, ns, rfl, SqL.of h1, fin_fz q w (.bl _)⟩
  case max1 =>
    unfold bltop at e
    split at e <;> first | (cases e; done) | skip
    all_goals (rename_i hb; try (cases hb; done))
    obtain ⟨ns, h0, rfl⟩ := Option.map_eq_some_iff.mp e
    obtain ⟨v, rfl, h⟩ := hx.one
    obtain ⟨a, vs, rfl, h1, h2⟩ := h.lst w
    have hl := intsD_len h0
    have hv := h2.ints h0
    subst hv
    have hne : ns ≠ [] := fun z => by
      subst z
      simp at hl
    refine cr_max hc pins s σ H _ us Q I r ⟨a, ns, rfl, SqL.of h1, List.length_pos_iff.mpr hne, fun m hm hle => ?_⟩
    obtain ⟨m1, m2⟩ := maxI_mem hne
    have : m = maxI ns := by
      have a1 := hle _ m1
      have a2 := m2 _ hm
      omega
    subst this
    exact fin_fz q w (.int _)
  case max2 =>
    unfold bltop at e
    split at e <;> first | (cases e; done) | skip
    all_goals (rename_i hb; try (cases hb; done))
    cases e
    obtain ⟨v, u, rfl, h, h'⟩ := hx.two
    have := h.int
    have := h'.int
    subst_vars
    exact call_max2 hc pins s σ H _ us Q I r ⟨_, _, rfl, fin_fz q w (.int _)⟩
  case min2 =>
    unfold bltop at e
    split at e <;> first | (cases e; done) | skip
    all_goals (rename_i hb; try (cases hb; done))
    cases e
    obtain ⟨v, u, rfl, h, h'⟩ := hx.two
    have := h.int
    have := h'.int
    subst_vars
    exact call_min2 hc pins s σ H _ us Q I r ⟨_, _, rfl, fin_fz q w (.int _)⟩
  case int1 =>
    unfold bltop at e
    split at e <;> first | (cases e; done) | skip
    all_goals (rename_i hb; try (cases hb; done))
    · cases e
      obtain ⟨v, rfl, h⟩ := hx.one
      have := h.int
      subst this
      exact call_int1 pins s σ H _ us Q I r (.inl ⟨_, rfl, fin_fz q w (.int _)⟩)
    · cases e
      obtain ⟨v, rfl, h⟩ := hx.one
      have := h.bl
      subst this
      exact call_int1 pins s σ H _ us Q I r (.inr ⟨_, rfl, fin_fz q w (.int _)⟩)
  case repr =>
    unfold bltop at e
    split at e <;> first | (cases e; done) | skip
    all_goals (rename_i hb; try (cases hb; done))
    cases e
    obtain ⟨v, rfl, h⟩ := hx.one
    have := h.bl
    subst this
    rename_i k
    obtain ⟨u, rfl, ru⟩ := vals1 r
    cases ru
    exact PySem.P.repr_of_bool ⟨.str (if k then sTrue else sFalse), H, I.tok _, ⟨_, by cases k <;> rfl⟩, fin_fz q w (.str _)⟩
end
end Mini
/-! SoundD: each expression of the small language is what the model reckons. -/
namespace Mini
open PySem PySem.Spec PyProof.Rows L2

def notStar : Expr → Bool
  | .Starred .. => false
  | _ => true
def notSet : Expr → Bool
  | .Set .. => false
  | _ => true
def notSlice : Expr → Bool
  | .Slice .. => false
  | _ => true
/-- its test is its value's truth -/
def plainT : Expr → Bool
  | .UnaryOp .Not .. | .BoolOp .. | .IfExp .. | .Compare .. => false
  | _ => true
def notComp : Expr → Bool
  | .ListComp .. | .SetComp .. | .DictComp .. => false
  | _ => true
theorem star_eq {e : Expr} {es : List Expr} {env : PySem.Env} (h : notStar e = true) : starEach (e :: es) env = (false, eval e env) :: starEach es env := by
  cases e <;> first | rfl | cases h
theorem set_eq {e : Expr} {env : PySem.Env} (h : notSet e = true) : ∀ x, foldedSetIterable e env x = pure x := by
  intro x
  cases e <;> first | rfl | cases h
theorem marks_eq {e : Expr} {op : CmpOp} (h : notSet e = true) : behindInMarks op e = false := by
  cases e <;> first | rfl | cases h
theorem slice_eq {e : Expr} (h : notSlice e = true) : PlainIx e := by
  intro o i
  cases e <;> first | rfl | cases h
theorem plainT_eq {e : Expr} {env : PySem.Env} (h : plainT e = true) : ∀ whole, isTrue e env whole = (do let v ← whole; standAt e.pos; holding [v] (truthy v)) := by
  intro whole
  cases e with
  | UnaryOp op a pos => cases op <;> first | rfl | cases h
  | _ => first | rfl | cases h
theorem stars_plain {es : List Expr} {env : PySem.Env} {pos : Pos} (h : es.all notStar = true) : (backTo pos (starEach es env)).any (·.1) = false := by
  induction es with
  | nil => rfl
  | cons e es ih =>
    rw [List.all_cons, Bool.and_eq_true] at h
    rw [star_eq h.1]
    show (false || (backTo pos (starEach es env)).any (·.1)) = false
    rw [ih h.2]
    rfl

/-- an expression e is p: as a value (kept, read), as a test -/
structure SE (W : Wd) (c : Ct) (e : Expr) (p : Ep) : Prop where
  val : ∀ rd X, XOk W c X → PE X e (semE W c.E rd p)
  tst : ∀ X, XOk W c X → PT X e (semB W c.E p)
section
variable {W : Wd} {c : Ct} {e : Expr} {p : Ep}
theorem sem_test {E : XK} {p : Ep} {σ : L2.St} {H : Hp} {Q : Bool → Hp → Prop} (h : semB W E p σ H Q) : semE W E true p σ H (fun x H1 => ∃ k, x = .bl k ∧ Q k H1) := by
  obtain ⟨H0, g, env, S, wk, en, w⟩ := h
  refine sem_seq anti_RBo wk en w fun r S1 v g1 H1 e1 wk1 en1 x w1 => ?_
  have hb := Res.rb x
  cases hd : r.d with
  | bl b =>
    rw [hd] at hb w1
    exact ⟨b, hb.bl, w1 b g1 H1 (.refl _ _) wk1 rfl⟩
  | _ =>
    rw [hd] at w1
    exact False.elim w1
theorem SE.tst_of (hp : plainT e = true) (h : ∀ X, XOk W c X → PE X e (semE W c.E true p)) : ∀ X, XOk W c X → PT X e (semB W c.E p) := fun X x =>
  PT.imp (pt_val (h X x) (plainT_eq hp)) fun _ _ _ => sem_test
/-- p's value is the same to keep and to read -/
def sameV (W : Wd) (p : Ep) : Prop := ∀ env, evalE W.cs true p env = evalE W.cs false p env
theorem sem_read (hs : sameV W p) {E : XK} {σ : L2.St} {H : Hp} {Q : VK} (h : semE W E true p σ H Q) : semE W E false p σ H Q := by
  obtain ⟨H0, g, env, S, wk, en, w⟩ := h
  refine ⟨H0, g, env, S, wk, en, ?_⟩
  show WP (evalE W.cs false p env S) _ _
  rw [← hs]
  refine WP.mono w (fun r S1 q v g' H' e' w' x => q v g' H' e' w' ?_) fun _ _ h => h
  exact RvS.toR (show RvS W.K H g' H' v r from x)
theorem SE.of (hp : plainT e = true) (hs : sameV W p) (h : ∀ X, XOk W c X → PE X e (semE W c.E false p)) : SE W c e p := by
  have hv : ∀ rd X, XOk W c X → PE X e (semE W c.E rd p) := fun rd X x => by
    cases rd with
    | false => exact h X x
    | true => exact PE.imp (h X x) fun _ _ _ => sem_read hs
  exact ⟨hv, SE.tst_of hp (hv true)⟩
end

/-! ### names, constants -/
section
variable {W : Wd} {c : Ct}
theorem se_var {i : Nat} {x : Str} {pos : Pos} (hN : c.N[i]? = some x) (hv : Vis c.sc x) (hd : (x == ("__debug__" : Str)) = false) (hcd : (x == ("__classdict__" : Str)) = false) : SE W c (.Name x pos) (.var i) := by
  have hval : ∀ rd X, XOk W c X → PE X (.Name x pos) (semE W c.E rd (.var i)) := fun rd X o => by
    refine PE.imp (pe_var (i := i) (by rw [o.N]; exact hN) (by rw [o.sc]; exact hv) hd hcd) fun σ H Q h => ?_
    obtain ⟨H0, g, env, S, wk, en, w⟩ := h
    obtain ⟨r, h1, h2⟩ := WP.opt w
    unfold rdVar at h1
    split at h1
    · rename_i d hs
      cases h1
      obtain ⟨v, e1, e2⟩ := en.slot i _ hs
      exact ⟨v, e1, h2 v g H (.refl _ _) wk (res_fz e2)⟩
    · rename_i xs hs
      obtain ⟨hr, h1⟩ := Option.ite_none_right_eq_some.mp h1
      cases h1
      subst hr
      obtain ⟨v, e1, e2⟩ := en.slot i _ hs
      exact ⟨v, e1, h2 v g H (.refl _ _) wk (RvS.toR e2)⟩
    · cases h1
  exact ⟨hval, SE.tst_of rfl (hval true)⟩
theorem se_cst {e : Expr} {v : V} {d : D} (hp : plainT e = true) (h : ∀ X, XOk W c X → PE X e (tC v)) (hd : ∀ g, RD W.K g v d) : SE W c e (.cst d) := by
  refine .of hp (fun _ => rfl) fun X o => PE.imp (h X o) fun σ H Q q => ?_
  obtain ⟨H0, g, env, S, wk, en, w⟩ := q
  exact fin_fz (show Fin W.K (RV W.K false) g H Q (.fz d) S from w) wk (hd g)

/-! ### operators -/
theorem se_bin {a b : Expr} {pa pb : Ep} {op : Operator} {o : BOp} {pos : Pos} (ho : bopOf op = some o) (ha : SE W c a pa) (hb : SE W c b pb) : SE W c (.BinOp a op b pos) (.bin o pa pb) := by
  refine .of rfl (fun _ => rfl) fun X x => PE.imp (pe_op (op_bin x.K ho) (ha.val true X x) (hb.val true X x)) fun σ H Q q => ?_
  obtain ⟨H0, g, env, S, wk, en, w⟩ := q
  refine sem_seq anti_RV wk en w fun r S1 v g1 H1 e1 wk1 en1 x1 w1 => ?_
  refine sem_seq anti_RV wk1 en1 w1 fun r2 S2 v2 g2 H2 e2 wk2 en2 x2 w2 => ?_
  obtain ⟨r3, h1, h2⟩ := WP.opt w2
  exact ⟨g2, S2, _, _, r3, wk2, (Res.rb x1).evo e2, Res.rb x2, h1, h2⟩
theorem se_neg {a : Expr} {pa : Ep} {pos : Pos} (ha : SE W c a pa) : SE W c (.UnaryOp .USub a pos) (.neg pa) := by
  refine .of rfl (fun _ => rfl) fun X x => PE.imp (pe_un un_neg (ha.val true X x)) fun σ H Q q => ?_
  obtain ⟨H0, g, env, S, wk, en, w⟩ := q
  refine sem_seq anti_RV wk en w fun r S1 v g1 H1 e1 wk1 en1 x1 w1 => ?_
  obtain ⟨r3, h1, h2⟩ := WP.opt w1
  have hb := Res.rb x1
  unfold negD at h1
  split at h1 <;> first | (cases h1; done) | skip
  rename_i i hi
  cases h1
  rw [hi] at hb
  exact ⟨i, hb.int, fin_fz h2 wk1 (.int _)⟩
theorem se_cmp {a b : Expr} {pa pb : Ep} {op : CmpOp} {o : COp} {pos : Pos} (ho : copOf op = some o) (hs : notSet b = true) (ha : SE W c a pa) (hb : SE W c b pb) : SE W c (.Compare a [op] [b] pos) (.cmp o pa pb) := by
  have hval : ∀ X, XOk W c X → PE X (.Compare a [op] [b] pos) (semE W c.E false (.cmp o pa pb)) := fun X x => by
    refine PE.imp (pe_cmpR (op_cmp x.K x.room ho) (ha.val true X x) (hb.val true X x) (marks_eq hs)) fun σ H Q q => ?_
    obtain ⟨H0, g, env, S, wk, en, w⟩ := q
    refine sem_seq anti_RV wk en w fun r S1 v g1 H1 e1 wk1 en1 x1 w1 => ?_
    refine sem_seq anti_RV wk1 en1 w1 fun r2 S2 v2 g2 H2 e2 wk2 en2 x2 w2 => ?_
    obtain ⟨k, h1, h2⟩ := WP.optB w2
    exact ⟨g2, S2, _, _, k, wk2, (Res.rb x1).evo e2, Res.rb x2, h1, fin_fz h2 wk2 (.bl _)⟩
  have hval' : ∀ rd X, XOk W c X → PE X (.Compare a [op] [b] pos) (semE W c.E rd (.cmp o pa pb)) := fun rd X x => by
    cases rd with
    | false => exact hval X x
    | true => exact PE.imp (hval X x) fun _ _ _ => sem_read fun _ => rfl
  refine ⟨hval', fun X x => PT.imp (pt_cmpR (op_cmp x.K x.room ho) (ha.val true X x) (hb.val true X x) (marks_eq hs)) fun σ H Q q => ?_⟩
  obtain ⟨H0, g, env, S, wk, en, w⟩ := q
  have w : WP (M.bnd (evalE W.cs true pa env) (fun x => M.bnd (evalE W.cs true pb env) fun y => M.bnd (M.opt (cmpop o x.d y.d)) fun k => M.ret k) S) (Fin W.K RBo g H Q) (QX W.K W.cl c.E g H) := by
    have w := w
    simp only [evalB, evalE, M.assoc, M.ret_bnd] at w
    exact w
  refine sem_seq anti_RBo wk en w fun r S1 v g1 H1 e1 wk1 en1 x1 w1 => ?_
  refine sem_seq anti_RBo wk1 en1 w1 fun r2 S2 v2 g2 H2 e2 wk2 en2 x2 w2 => ?_
  obtain ⟨k, h1, h2⟩ := WP.optB w2
  exact ⟨g2, S2, _, _, k, wk2, (Res.rb x1).evo e2, Res.rb x2, h1, k, rfl, h2 k g2 H2 (.refl _ _) wk2 rfl⟩

theorem se_chn {a b d : Expr} {pa pb pd : Ep} {op op' : CmpOp} {o o' : COp} {pos : Pos} (ho : copOf op = some o) (ho' : copOf op' = some o') (hs : notSet d = true) (ha : SE W c a pa) (hb : SE W c b pb) (hd : SE W c d pd) :
    SE W c (.Compare a [op, op'] [b, d] pos) (.chn o o' pa pb pd) := by
  have hm : lastMarks [op, op'] [b, d] = false := marks_eq (op := op') hs
  have hval : ∀ X, XOk W c X → PE X (.Compare a [op, op'] [b, d] pos) (semE W c.E false (.chn o o' pa pb pd)) := fun X x => by
    refine PE.imp (pe_chain (op_cmp x.K x.room ho) (op_cmp x.K x.room ho') (ha.val true X x) (hb.val true X x) (hd.val true X x) hm) fun σ H Q q => ?_
    obtain ⟨H0, g, env, S, wk, en, w⟩ := q
    refine sem_seq anti_RV wk en w fun r S1 v g1 H1 e1 wk1 en1 x1 w1 => ?_
    refine sem_seq anti_RV wk1 en1 w1 fun r2 S2 v2 g2 H2 e2 wk2 en2 x2 w2 => ?_
    obtain ⟨k, h1, h2⟩ := WP.optB w2
    refine ⟨g2, S2, _, _, k, wk2, (Res.rb x1).evo e2, Res.rb x2, h1, k, rfl, ?_⟩
    cases k with
    | false => exact iteF (fin_fz h2 wk2 (.bl _))
    | true =>
      refine iteT ?_
      refine sem_seq anti_RV wk2 en2 h2 fun r3 S3 v3 g3 H3 e3 wk3 en3 x3 w3 => ?_
      obtain ⟨k', h1, h2⟩ := WP.optB w3
      exact ⟨g3, S3, _, _, k', wk3, (Res.rb x2).evo e3, Res.rb x3, h1, fin_fz h2 wk3 (.bl _)⟩
  have hval' : ∀ rd X, XOk W c X → PE X (.Compare a [op, op'] [b, d] pos) (semE W c.E rd (.chn o o' pa pb pd)) := fun rd X x => by
    cases rd with
    | false => exact hval X x
    | true => exact PE.imp (hval X x) fun _ _ _ => sem_read fun _ => rfl
  refine ⟨hval', fun X x => PT.imp (pt_chain (op_cmp x.K x.room ho) (op_cmp x.K x.room ho') (ha.val true X x) (hb.val true X x) (hd.val true X x) hm) fun σ H Q q => ?_⟩
  obtain ⟨H0, g, env, S, wk, en, w⟩ := q
  have w : WP (M.bnd (evalE W.cs true pa env) (fun x => M.bnd (evalE W.cs true pb env) fun y => M.bnd (M.opt (cmpop o x.d y.d)) fun k => if k then
      M.bnd (evalE W.cs true pd env) fun z => M.bnd (M.opt (cmpop o' y.d z.d)) fun k' => M.ret k' else M.ret false) S) (Fin W.K RBo g H Q) (QX W.K W.cl c.E g H) := by
    have w := w
    simp only [evalB, evalE, M.assoc, M.ite_bnd, M.ret_bnd] at w
    exact w
  refine sem_seq anti_RBo wk en w fun r S1 v g1 H1 e1 wk1 en1 x1 w1 => ?_
  refine sem_seq anti_RBo wk1 en1 w1 fun r2 S2 v2 g2 H2 e2 wk2 en2 x2 w2 => ?_
  obtain ⟨k, h1, h2⟩ := WP.optB w2
  refine ⟨g2, S2, _, _, k, wk2, (Res.rb x1).evo e2, Res.rb x2, h1, k, rfl, ?_⟩
  cases k with
  | false => exact iteF ⟨false, rfl, h2 false g2 H2 (.refl _ _) wk2 rfl⟩
  | true =>
    refine iteT ?_
    refine sem_seq anti_RBo wk2 en2 h2 fun r3 S3 v3 g3 H3 e3 wk3 en3 x3 w3 => ?_
    obtain ⟨k', h1, h2⟩ := WP.optB w3
    exact ⟨g3, S3, _, _, k', wk3, (Res.rb x2).evo e3, Res.rb x3, h1, k', rfl, h2 k' g3 H3 (.refl _ _) wk3 rfl⟩

/-! ### and, or, not, if -/
theorem se_not {a : Expr} {pa : Ep} {pos : Pos} (ha : SE W c a pa) : SE W c (.UnaryOp .Not a pos) (.not pa) := by
  have hval : ∀ X, XOk W c X → PE X (.UnaryOp .Not a pos) (semE W c.E false (.not pa)) := fun X x => by
    refine PE.imp (pe_not (ha.val true X x)) fun σ H Q q => ?_
    obtain ⟨H0, g, env, S, wk, en, w⟩ := q
    have w : WP (M.bnd (evalE W.cs true pa env) (fun x => M.bnd (asB x.d) fun k => M.ret (.fz (.bl (!k)))) S) (Fin W.K (RV W.K false) g H Q) (QX W.K W.cl c.E g H) := by
      have w := w
      simp only [evalE, M.assoc] at w
      exact w
    refine sem_seq anti_RV wk en w fun r S1 v g1 H1 e1 wk1 en1 x1 w1 => ?_
    have hb := Res.rb x1
    cases hd : r.d with
    | bl b =>
      rw [hd] at hb w1
      exact ⟨b, hb.bl, fin_fz (show Fin W.K (RV W.K false) g1 H1 Q (.fz (.bl (!b))) S1 from w1) wk1 (.bl _)⟩
    | _ =>
      rw [hd] at w1
      exact False.elim w1
  have hval' : ∀ rd X, XOk W c X → PE X (.UnaryOp .Not a pos) (semE W c.E rd (.not pa)) := fun rd X x => by
    cases rd with
    | false => exact hval X x
    | true => exact PE.imp (hval X x) fun _ _ _ => sem_read fun _ => rfl
  refine ⟨hval', fun X x => PT.imp (pt_not (ha.tst X x)) fun σ H Q q => ?_⟩
  obtain ⟨H0, g, env, S, wk, en, w⟩ := q
  have w : WP (M.bnd (evalB W.cs pa env) (fun k => M.ret (!k)) S) (Fin W.K RBo g H Q) (QX W.K W.cl c.E g H) := by
    have w := w
    simp only [evalB, evalE, M.assoc, M.ret_bnd] at w ⊢
    exact w
  refine sem_seq (m := fun env => evalB W.cs pa env) anti_RBo wk en w fun r S1 v g1 H1 e1 wk1 en1 x1 w1 => ?_
  cases x1
  exact w1 (!r) g1 H1 (.refl _ _) wk1 rfl
/-- a row of and, or of or -/
structure SB (W : Wd) (c : Ct) (op : BoolOp) (es : List Expr) (p : Ep) : Prop where
  val : ∀ pos X, XOk W c X → PE X (.BoolOp op es pos) (semE W c.E true p)
  tst : ∀ pos X, XOk W c X → PW X (.BoolOp op es pos) (semB W c.E p)
theorem sb_one {a : Expr} {pa : Ep} {op : BoolOp} (ha : SE W c a pa) : SB W c op [a] pa := by
  refine ⟨fun pos X x => pe_one (ha.val true X x), fun pos X x => ?_⟩
  cases op with
  | And => exact pw_and1 (ha.tst X x)
  | Or => exact pw_or1 (ha.tst X x)
theorem sem_and {E : XK} {pa pb : Ep} {σ : L2.St} {H : Hp} {Q : VK} (q : semE W E true (.and pa pb) σ H Q) : tAndV (semE W E true pa) (semE W E true pb) σ H Q := by
  obtain ⟨H0, g, env, S, wk, en, w⟩ := q
  have w : WP (M.bnd (evalE W.cs true pa env) (fun x => M.bnd (asB x.d) fun k => if k then M.bnd (evalE W.cs true pb env) fun x => M.bnd (asB x.d) fun k' => M.ret (.fz (.bl k')) else M.ret (.fz (.bl false))) S) (Fin W.K (RV W.K true) g H Q) (QX W.K W.cl E g H) := by
    have w := w
    simp only [evalE, M.assoc] at w
    exact w
  refine sem_seq anti_RV wk en w fun r S1 v g1 H1 e1 wk1 en1 x1 w1 => ?_
  have hb := Res.rb x1
  cases hd : r.d with
  | bl b =>
    rw [hd] at hb w1
    refine ⟨b, hb.bl, ?_⟩
    cases b with
    | false => exact iteF (fin_fz (show Fin W.K (RV W.K true) g1 H1 Q (.fz (.bl false)) S1 from w1) wk1 (.bl _))
    | true =>
      refine iteT ?_
      refine sem_seq anti_RV wk1 en1 w1 fun r2 S2 v2 g2 H2 e2 wk2 en2 x2 w2 => ?_
      have hb2 := Res.rb x2
      cases hd2 : r2.d with
      | bl b2 =>
        rw [hd2] at hb2 w2
        have := hb2.bl
        subst this
        exact fin_fz (show Fin W.K (RV W.K true) g2 H2 Q (.fz (.bl b2)) S2 from w2) wk2 (.bl _)
      | _ =>
        rw [hd2] at w2
        exact False.elim w2
  | _ =>
    rw [hd] at w1
    exact False.elim w1
theorem sem_or {E : XK} {pa pb : Ep} {σ : L2.St} {H : Hp} {Q : VK} (q : semE W E true (.or pa pb) σ H Q) : tOrV (semE W E true pa) (semE W E true pb) σ H Q := by
  obtain ⟨H0, g, env, S, wk, en, w⟩ := q
  have w : WP (M.bnd (evalE W.cs true pa env) (fun x => M.bnd (asB x.d) fun k => if k then M.ret (.fz (.bl true)) else M.bnd (evalE W.cs true pb env) fun x => M.bnd (asB x.d) fun k' => M.ret (.fz (.bl k'))) S) (Fin W.K (RV W.K true) g H Q) (QX W.K W.cl E g H) := by
    have w := w
    simp only [evalE, M.assoc] at w
    exact w
  refine sem_seq anti_RV wk en w fun r S1 v g1 H1 e1 wk1 en1 x1 w1 => ?_
  have hb := Res.rb x1
  cases hd : r.d with
  | bl b =>
    rw [hd] at hb w1
    refine ⟨b, hb.bl, ?_⟩
    cases b with
    | true => exact iteT (fin_fz (show Fin W.K (RV W.K true) g1 H1 Q (.fz (.bl true)) S1 from w1) wk1 (.bl _))
    | false =>
      refine iteF ?_
      refine sem_seq anti_RV wk1 en1 w1 fun r2 S2 v2 g2 H2 e2 wk2 en2 x2 w2 => ?_
      have hb2 := Res.rb x2
      cases hd2 : r2.d with
      | bl b2 =>
        rw [hd2] at hb2 w2
        have := hb2.bl
        subst this
        exact fin_fz (show Fin W.K (RV W.K true) g2 H2 Q (.fz (.bl b2)) S2 from w2) wk2 (.bl _)
      | _ =>
        rw [hd2] at w2
        exact False.elim w2
  | _ =>
    rw [hd] at w1
    exact False.elim w1
theorem sb_and {a b : Expr} {rest : List Expr} {pa pb : Ep} (ha : SE W c a pa) (hb : SB W c .And (b :: rest) pb) : SB W c .And (a :: b :: rest) (.and pa pb) := by
  refine ⟨fun pos X x => PE.imp (pe_and (ha.val true X x) (hb.val pos X x)) fun σ H Q q => sem_and q, fun pos X x => PW.imp (pw_and (ha.tst X x) (hb.tst pos X x)) fun σ H Q q => ?_⟩
  obtain ⟨H0, g, env, S, wk, en, w⟩ := q
  have w : WP (M.bnd (evalB W.cs pa env) (fun k => if k then M.bnd (evalB W.cs pb env) fun k' => M.ret k' else M.ret false) S) (Fin W.K RBo g H Q) (QX W.K W.cl c.E g H) := by
    have w := w
    simp only [evalB, evalE, M.assoc, M.ite_bnd, M.ret_bnd] at w ⊢
    exact w
  refine sem_seq (m := fun env => evalB W.cs pa env) anti_RBo wk en w fun r S1 v g1 H1 e1 wk1 en1 x1 w1 => ?_
  cases x1
  cases r with
  | false => exact iteF (w1 false g1 H1 (.refl _ _) wk1 rfl)
  | true =>
    refine iteT ?_
    refine sem_seq (m := fun env => evalB W.cs pb env) anti_RBo wk1 en1 w1 fun r2 S2 v2 g2 H2 e2 wk2 en2 x2 w2 => ?_
    cases x2
    exact w2 r2 g2 H2 (.refl _ _) wk2 rfl
theorem sb_or {a b : Expr} {rest : List Expr} {pa pb : Ep} (ha : SE W c a pa) (hb : SB W c .Or (b :: rest) pb) : SB W c .Or (a :: b :: rest) (.or pa pb) := by
  refine ⟨fun pos X x => PE.imp (pe_or (ha.val true X x) (hb.val pos X x)) fun σ H Q q => sem_or q, fun pos X x => PW.imp (pw_or (ha.tst X x) (hb.tst pos X x)) fun σ H Q q => ?_⟩
  obtain ⟨H0, g, env, S, wk, en, w⟩ := q
  have w : WP (M.bnd (evalB W.cs pa env) (fun k => if k then M.ret true else M.bnd (evalB W.cs pb env) fun k' => M.ret k') S) (Fin W.K RBo g H Q) (QX W.K W.cl c.E g H) := by
    have w := w
    simp only [evalB, evalE, M.assoc, M.ite_bnd, M.ret_bnd] at w ⊢
    exact w
  refine sem_seq (m := fun env => evalB W.cs pa env) anti_RBo wk en w fun r S1 v g1 H1 e1 wk1 en1 x1 w1 => ?_
  cases x1
  cases r with
  | true => exact iteT (w1 true g1 H1 (.refl _ _) wk1 rfl)
  | false =>
    refine iteF ?_
    refine sem_seq (m := fun env => evalB W.cs pb env) anti_RBo wk1 en1 w1 fun r2 S2 v2 g2 H2 e2 wk2 en2 x2 w2 => ?_
    cases x2
    exact w2 r2 g2 H2 (.refl _ _) wk2 rfl
/-- what is read alone and kept alike -/
theorem sem_keep {E : XK} {p : Ep} {σ : L2.St} {H : Hp} {Q : VK} (hs : sameV W p) (hb : ∀ env S r S', evalE W.cs true p env S = .ok r S' → ∃ d, r = .fz d) (q : semE W E false p σ H Q) : semE W E true p σ H Q := by
  obtain ⟨H0, g, env, S, wk, en, w⟩ := q
  refine ⟨H0, g, env, S, wk, en, ?_⟩
  have w : WP (evalE W.cs false p env S) (Fin W.K (RV W.K false) g H Q) (QX W.K W.cl E g H) := w
  rw [← hs] at w
  show WP (evalE W.cs true p env S) _ _
  cases e : evalE W.cs true p env S with
  | ok r S' =>
    rw [e] at w
    obtain ⟨d, rfl⟩ := hb env S r S' e
    exact fun v g' H' e' w' x => w v g' H' e' w' x
  | exc x S' =>
    rw [e] at w
    exact w
  | stuck =>
    rw [e] at w
    exact w
theorem se_sb {op : BoolOp} {es : List Expr} {p : Ep} {pos : Pos} (hs : sameV W p) (hb : ∀ env S r S', evalE W.cs true p env S = .ok r S' → ∃ d, r = .fz d) (h : SB W c op es p) : SE W c (.BoolOp op es pos) p := by
  refine ⟨fun rd X x => ?_, fun X x => (h.tst pos X x).pt⟩
  cases rd with
  | true => exact h.val pos X x
  | false => exact PE.imp (h.val pos X x) fun _ _ _ => sem_keep hs hb
theorem bnd_ok {α β : Type} {m : M α} {f : α → M β} {S S' : Store} {b : β} (h : M.bnd m f S = .ok b S') : ∃ a S1, m S = .ok a S1 ∧ f a S1 = .ok b S' := by
  unfold M.bnd at h
  cases e : m S with
  | ok a S1 => rw [e] at h; exact ⟨a, S1, rfl, h⟩
  | exc x S1 => rw [e] at h; cases h
  | stuck => rw [e] at h; cases h
theorem and_fz {cs : Calls} {a b : Ep} {rd : Bool} {env : Env} {S S' : Store} {r : Rv} (h : evalE cs rd (.and a b) env S = .ok r S') : ∃ d, r = .fz d := by
  unfold evalE at h
  obtain ⟨k, S1, _, h⟩ := bnd_ok h
  cases k with
  | true =>
    obtain ⟨k, S1, _, h⟩ := bnd_ok h
    cases h
    exact ⟨_, rfl⟩
  | false =>
    cases h
    exact ⟨_, rfl⟩
theorem or_fz {cs : Calls} {a b : Ep} {rd : Bool} {env : Env} {S S' : Store} {r : Rv} (h : evalE cs rd (.or a b) env S = .ok r S') : ∃ d, r = .fz d := by
  unfold evalE at h
  obtain ⟨k, S1, _, h⟩ := bnd_ok h
  cases k with
  | false =>
    obtain ⟨k, S1, _, h⟩ := bnd_ok h
    cases h
    exact ⟨_, rfl⟩
  | true =>
    cases h
    exact ⟨_, rfl⟩
theorem se_and {a b : Expr} {rest : List Expr} {pa pb : Ep} {pos : Pos} (ha : SE W c a pa) (hb : SB W c .And (b :: rest) pb) : SE W c (.BoolOp .And (a :: b :: rest) pos) (.and pa pb) :=
  se_sb (fun _ => rfl) (fun _ _ _ _ => and_fz) (sb_and ha hb)
theorem se_or {a b : Expr} {rest : List Expr} {pa pb : Ep} {pos : Pos} (ha : SE W c a pa) (hb : SB W c .Or (b :: rest) pb) : SE W c (.BoolOp .Or (a :: b :: rest) pos) (.or pa pb) :=
  se_sb (fun _ => rfl) (fun _ _ _ _ => or_fz) (sb_or ha hb)
end
end Mini
/-! SoundE: further expressions: lists of them, tuples, lists, subscripts, slices, calls. -/
namespace Mini
open PySem PySem.Spec PyProof.Rows L2

/-! ### what is kept is fixed -/
section
variable {K : PySem.W.Frag} {g g1 : G} {H H1 H0 : Hp} {S S1 : Store} {env : Env} {σ : L2.St} {v : V} {r : Rv}
theorem EnvOk.frz (en : EnvOk K H0 g H env σ) (e : Evo g H g1 H1) {a : Addr} {o : HO} (hf : g1.F a = none) (h : H a = none) : EnvOk K H0 ⟨g1.C, upd g1.F a o⟩ H1 env σ := by
  refine ⟨en.len, fun i r q => ?_, en.apart⟩
  obtain ⟨v, h1, h2⟩ := en.slot i r q
  refine ⟨v, h1, ?_⟩
  have h3 := h2.evo e
  cases r with
  | fz d => exact RD.mono (ext_upd hf) h3
  | ow ds =>
    obtain ⟨b, vs, e1, e2, e3, e4, e5, e6⟩ := h3
    obtain ⟨b', vs', e1', e2', _⟩ := h2
    rw [e1] at e1'
    cases e1'
    refine ⟨b, vs, e1, e2, e3.mono (ext_upd hf), ?_, e5, e6⟩
    show upd g1.F a o b = none
    rw [upd_ne (ne_of_none e2' h)]
    exact e4
theorem freeze1 (en : EnvOk K H0 g H env σ) (e : Evo g H g1 H1) (w : Wok K g1 H1 S1) (x : RvS K H g1 H1 v r) : ∃ g', Evo g H g' H1 ∧ Wok K g' H1 S1 ∧ EnvOk K H0 g' H1 env σ ∧ RD K g' v r.d ∧ Ext g1 g' := by
  cases r with
  | fz d => exact ⟨g1, e, w, en.evo e, x, .refl _⟩
  | ow ds =>
    obtain ⟨a, vs, rfl, e2, e3, e4, e5, e6⟩ := x
    exact ⟨⟨g1.C, upd g1.F a (.lst vs)⟩, e.fix e4 e6, w.fix e2 e4 e5, en.frz e e4 e6, .lst upd_same (e3.mono (ext_upd e4)), ext_upd e4⟩
end
section
variable {W : Wd} {E : XK} {α β α' β' : Type} {R : Hp → G → Hp → β → α → Prop} {R' : Hp → G → Hp → β' → α' → Prop} {m : Env → M α} {f : α → M α'} {σ : L2.St} {H H0 : Hp} {g : G} {env : Env} {S : Store} {Q : β' → Hp → Prop} {Y : β → Hp → Prop}
theorem sem_seq' (wk : Wok W.K g H S) (en : EnvOk W.K H0 g H env σ) (w : WP (M.bnd (m env) f S) (Fin W.K R' g H Q) (QX W.K W.cl E g H))
    (k : ∀ r S1 v g1 H1, Evo g H g1 H1 → Wok W.K g1 H1 S1 → R H g1 H1 v r → WP (f r S1) (Fin W.K R' g H Q) (QX W.K W.cl E g H) → Y v H1) : sem W E R m σ H Y :=
  ⟨H0, g, env, S, wk, en, (WP.bnd w).mono (fun r S1 h v g1 H1 e w1 x => k r S1 v g1 H1 e w1 x h) fun _ _ h => h⟩
end

/-! ### lists of expressions -/
structure SEs (W : Wd) (c : Ct) (es : List Expr) (p : Eps) : Prop where
  val : ∀ X, XOk W c X → PA X es (semEs W c.E p)
  red : ∀ X, XOk W c X → PA X es (semRs W c.E p)
  star : es.all notStar = true
section
variable {W : Wd} {c : Ct}
theorem ses_nil : SEs W c [] .nil := by
  refine ⟨fun X x => PA.imp pa_nil fun σ H Q q => ?_, fun X x => PA.imp pa_nil fun σ H Q q => ?_, rfl⟩
  · obtain ⟨H0, g, env, S, wk, en, w⟩ := q
    exact w [] g H (.refl _ _) wk .nil
  · obtain ⟨H0, g, env, S, wk, en, w⟩ := q
    exact w [] g H (.refl _ _) wk .nil
theorem Rbs.evo {K : PySem.W.Frag} {g g' : G} {H H' : Hp} (e : Evo g H g' H') : ∀ {vs : List V} {ds : List D}, Rbs K g H vs ds → Rbs K g' H' vs ds
  | _, _, .nil => .nil
  | _, _, .cons h r => .cons (h.evo e) (Rbs.evo e r)
theorem ses_cons {e : Expr} {es : List Expr} {p : Ep} {ps : Eps} (hs : notStar e = true) (h : SE W c e p) (hr : SEs W c es ps) : SEs W c (e :: es) (.cons p ps) := by
  refine ⟨fun X x => PA.imp (pa_cons (h.val false X x) (hr.val X x) (star_eq hs)) fun σ H Q q => ?_, fun X x => PA.imp (pa_cons (h.val true X x) (hr.red X x) (star_eq hs)) fun σ H Q q => ?_, by rw [List.all_cons, hs, hr.star]; rfl⟩
  · obtain ⟨H0, g, env, S, wk, en, w⟩ := q
    refine sem_seq' wk en w fun r S1 v g1 H1 e1 wk1 x1 w1 => ?_
    obtain ⟨g', e', wk', en', d', _⟩ := freeze1 en e1 wk1 (show RvS W.K H g1 H1 v r from x1)
    refine sem_seq anti_RL wk' en' (w1.shift anti_RL e') fun r2 S2 v2 g2 H2 e2 wk2 en2 x2 w2 => ?_
    exact w2 (v :: v2) g2 H2 (.refl _ _) wk2 (.cons (d'.mono e2.ext) x2)
  · obtain ⟨H0, g, env, S, wk, en, w⟩ := q
    refine sem_seq anti_RR wk en w fun r S1 v g1 H1 e1 wk1 en1 x1 w1 => ?_
    refine sem_seq anti_RR wk1 en1 w1 fun r2 S2 v2 g2 H2 e2 wk2 en2 x2 w2 => ?_
    exact w2 (v :: v2) g2 H2 (.refl _ _) wk2 (.cons ((Res.rb x1).evo e2) x2)

/-! ### is, if, tuples, lists -/
def icOf : CmpOp → Option Bool
  | .Is => some false
  | .IsNot => some true
  | _ => none
theorem isN_dec {K : PySem.W.Frag} {g : G} {H : Hp} {v : V} {d : D} {k : Bool} (h : Rb K g H v d) (e : isc d .non = some k) : decide (v = V.non) = k := by
  cases d with
  | non => cases e; rw [h.non]; rfl
  | bl b => cases e; rw [h.bl]; rfl
  | int b => cases e; rw [h.int]; rfl
  | str b => cases e; rw [h.str]; rfl
  | tup b =>
    cases e
    rcases h with h | ⟨_, _, _, _, z, _⟩
    · cases h; rfl
    · cases z
  | lst b =>
    cases e
    rcases h with h | ⟨_, _, _, rfl, _⟩
    · cases h; rfl
    · rfl
  | cell b =>
    cases e
    obtain ⟨_, rfl, _⟩ := h.cell
    rfl
  | fn b => exact h.fn.elim
  | scr b =>
    cases e
    rcases h with h | ⟨_, _, _, _, z, _⟩
    · cases h; rfl
    · cases z
def rIsc (W : Wd) (ng : Bool) (d : D) : R2 := fun x y H Q => ∃ g S dx k, Wok W.K g H S ∧ Rb W.K g H x dx ∧ isc dx d = some k ∧ Q (.bl (if ng then !k else k)) H
theorem se_isN {a : Expr} {pa : Ep} {op : CmpOp} {ng : Bool} {j : Nat} {p2 pos : Pos} (ho : icOf op = some ng) (ha : SE W c a pa) : SE W c (.Compare a [op] [.Constant .none j p2] pos) (.isc ng pa .non) := by
  have key : ∀ X, XOk W c X → OpR X (compareOp op) (fun x y H Q => y = V.non ∧ rIsc W ng .non x y H Q) := fun X x pins s σ H v1 v2 u1 u2 Q I r1 r2 ⟨hy, g, S, dx, k, wk, hb, e, q⟩ => by
    have hd := isN_dec hb e
    cases op <;> cases ho
    · exact op_isN pins s σ H v1 v2 u1 u2 Q I r1 r2 ⟨hy, by rw [hd]; exact q⟩
    · exact op_notN pins s σ H v1 v2 u1 u2 Q I r1 r2 ⟨hy, by rw [hd]; exact q⟩
  have hval : ∀ X, XOk W c X → PE X (.Compare a [op] [.Constant .none j p2] pos) (semE W c.E false (.isc ng pa .non)) := fun X x => by
    refine PE.imp (pe_cmpR (key X x) (ha.val true X x) pe_non (marks_eq rfl)) fun σ H Q q => ?_
    obtain ⟨H0, g, env, S, wk, en, w⟩ := q
    refine sem_seq anti_RV wk en w fun r S1 v g1 H1 e1 wk1 en1 x1 w1 => ?_
    obtain ⟨k, h1, h2⟩ := WP.optB w1
    exact ⟨rfl, g1, S1, _, k, wk1, Res.rb x1, h1, fin_fz h2 wk1 (.bl _)⟩
  have hval' : ∀ rd X, XOk W c X → PE X (.Compare a [op] [.Constant .none j p2] pos) (semE W c.E rd (.isc ng pa .non)) := fun rd X x => by
    cases rd with
    | false => exact hval X x
    | true => exact PE.imp (hval X x) fun _ _ _ => sem_read fun _ => rfl
  refine ⟨hval', fun X x => PT.imp (pt_cmpR (key X x) (ha.val true X x) pe_non (marks_eq rfl)) fun σ H Q q => ?_⟩
  obtain ⟨H0, g, env, S, wk, en, w⟩ := q
  have w : WP (M.bnd (evalE W.cs true pa env) (fun x => M.bnd (M.opt (isc x.d .non)) fun k => M.ret (if ng then !k else k)) S) (Fin W.K RBo g H Q) (QX W.K W.cl c.E g H) := by
    have w := w
    simp only [evalB, evalE, M.assoc, M.ret_bnd] at w
    exact w
  refine sem_seq anti_RBo wk en w fun r S1 v g1 H1 e1 wk1 en1 x1 w1 => ?_
  obtain ⟨k, h1, h2⟩ := WP.optB w1
  exact ⟨rfl, g1, S1, _, k, wk1, Res.rb x1, h1, _, rfl, h2 _ g1 H1 (.refl _ _) wk1 rfl⟩
theorem se_isB {a : Expr} {pa : Ep} {op : CmpOp} {ng b : Bool} {j : Nat} {p2 pos : Pos} (ho : icOf op = some ng) (ha : SE W c a pa) : SE W c (.Compare a [op] [.Constant (.bool b) j p2] pos) (.isc ng pa (.bl b)) := by
  have key : ∀ X, XOk W c X → OpR X (compareOp op) (fun x y H Q => y = V.bl b ∧ rIsc W ng (.bl b) x y H Q) := fun X x pins s σ H v1 v2 u1 u2 Q I r1 r2 ⟨hy, g, S, dx, k, wk, hb, e, q⟩ => by
    cases dx with
    | bl a' =>
      cases e
      have := hb.bl
      subst this
      have hd : decide (a' = b) = (a' == b) := by cases a' <;> cases b <;> rfl
      cases op <;> cases ho
      · exact op_isBl pins s σ H _ v2 u1 u2 Q I r1 r2 ⟨_, _, rfl, hy, by rw [hd]; exact q⟩
      · exact op_notBl pins s σ H _ v2 u1 u2 Q I r1 r2 ⟨_, _, rfl, hy, by rw [hd]; exact q⟩
    | _ => cases e
  have hval : ∀ X, XOk W c X → PE X (.Compare a [op] [.Constant (.bool b) j p2] pos) (semE W c.E false (.isc ng pa (.bl b))) := fun X x => by
    refine PE.imp (pe_cmpR (key X x) (ha.val true X x) pe_bl (marks_eq rfl)) fun σ H Q q => ?_
    obtain ⟨H0, g, env, S, wk, en, w⟩ := q
    refine sem_seq anti_RV wk en w fun r S1 v g1 H1 e1 wk1 en1 x1 w1 => ?_
    obtain ⟨k, h1, h2⟩ := WP.optB w1
    exact ⟨rfl, g1, S1, _, k, wk1, Res.rb x1, h1, fin_fz h2 wk1 (.bl _)⟩
  have hval' : ∀ rd X, XOk W c X → PE X (.Compare a [op] [.Constant (.bool b) j p2] pos) (semE W c.E rd (.isc ng pa (.bl b))) := fun rd X x => by
    cases rd with
    | false => exact hval X x
    | true => exact PE.imp (hval X x) fun _ _ _ => sem_read fun _ => rfl
  refine ⟨hval', fun X x => PT.imp (pt_cmpR (key X x) (ha.val true X x) pe_bl (marks_eq rfl)) fun σ H Q q => ?_⟩
  obtain ⟨H0, g, env, S, wk, en, w⟩ := q
  have w : WP (M.bnd (evalE W.cs true pa env) (fun x => M.bnd (M.opt (isc x.d (.bl b))) fun k => M.ret (if ng then !k else k)) S) (Fin W.K RBo g H Q) (QX W.K W.cl c.E g H) := by
    have w := w
    simp only [evalB, evalE, M.assoc, M.ret_bnd] at w
    exact w
  refine sem_seq anti_RBo wk en w fun r S1 v g1 H1 e1 wk1 en1 x1 w1 => ?_
  obtain ⟨k, h1, h2⟩ := WP.optB w1
  exact ⟨rfl, g1, S1, _, k, wk1, Res.rb x1, h1, _, rfl, h2 _ g1 H1 (.refl _ _) wk1 rfl⟩
theorem se_ite {t a b : Expr} {pt pa pb : Ep} {pos : Pos} (ht : SE W c t pt) (ha : SE W c a pa) (hb : SE W c b pb) : ∀ X, XOk W c X → PE X (.IfExp t a b pos) (semE W c.E false (.ite pt pa pb)) := fun X x => by
  refine PE.imp (pe_ifExp (ht.tst X x) (ha.val false X x) (hb.val false X x)) fun σ H Q q => ?_
  obtain ⟨H0, g, env, S, wk, en, w⟩ := q
  have w : WP (M.bnd (evalB W.cs pt env) (fun k => if k then evalE W.cs false pa env else evalE W.cs false pb env) S) (Fin W.K (RV W.K false) g H Q) (QX W.K W.cl c.E g H) := w
  refine sem_seq (m := fun env => evalB W.cs pt env) anti_RV wk en w fun r S1 v g1 H1 e1 wk1 en1 x1 w1 => ?_
  cases x1
  cases r with
  | true => exact iteT ⟨H0, g1, env, S1, wk1, en1, w1⟩
  | false => exact iteF ⟨H0, g1, env, S1, wk1, en1, w1⟩
theorem se_tup {es : List Expr} {ps : Eps} {k : Nat} {pos : Pos} (h : SEs W c es ps) : SE W c (.Tuple es k pos) (.tup ps) := by
  refine .of rfl (fun _ => rfl) fun X x => PE.imp (pe_tup (h.val X x)) fun σ H Q q => ?_
  obtain ⟨H0, g, env, S, wk, en, w⟩ := q
  refine sem_seq anti_RV wk en w fun r S1 v g1 H1 e1 wk1 en1 x1 w1 => ?_
  obtain ⟨h1, h2⟩ := WP.ite w1
  have x1 : RDs W.K g1 v r := x1
  exact ⟨by rw [x1.length]; exact h1, fun p hp => fin_tup h2 wk1 x1 hp⟩
theorem se_lst {es : List Expr} {ps : Eps} {pos : Pos} (h : SEs W c es ps) : SE W c (.List es pos) (.lst ps) := by
  refine .of rfl (fun _ => rfl) fun X x => PE.imp (pe_lst (h.val X x)) fun σ H Q q => ?_
  obtain ⟨H0, g, env, S, wk, en, w⟩ := q
  refine sem_seq anti_RV wk en w fun r S1 v g1 H1 e1 wk1 en1 x1 w1 => ?_
  obtain ⟨h1, h2⟩ := WP.ite w1
  have x1 : RDs W.K g1 v r := x1
  exact ⟨by rw [x1.length]; exact h1, fun p hp => fin_lst h2 wk1 x1 hp⟩
/-- a new cell -/
theorem Wok.newCell {K : PySem.W.Frag} {g : G} {H : Hp} {S : Store} {vs : List V} {ds : List D} (w : Wok K g H S) (r : RDs K g vs ds) {p : Addr} (hp : H p = none) :
    Wok K ⟨g.C ++ [p], g.F⟩ (upd H p (.lst vs)) (S ++ [.lst ds]) ∧ Evo g H ⟨g.C ++ [p], g.F⟩ (upd H p (.lst vs)) := by
  obtain ⟨w1, e1⟩ := w.newOw (o := .lst vs) hp
  have ex : Ext g ⟨g.C ++ [p], g.F⟩ := ⟨Same.refl _, [p], rfl⟩
  have hc := w.newC hp
  refine ⟨⟨w1.sub, by simp [w.len], ?_, fun a ha => ?_, fun n a cv h1 h2 => ?_⟩, ⟨ex, e1.keep, e1.alive, fun b h n => absurd h n, fun b h n => ?_⟩⟩
  · show (g.C ++ [p]).Nodup
    rw [List.nodup_append]
    refine ⟨w.nd, by simp, fun a ha b hb => ?_⟩
    rw [List.mem_singleton] at hb
    subst hb
    exact fun z => hc (z ▸ ha)
  · rcases List.mem_append.mp ha with ha | ha
    · exact w.off a ha
    · rw [List.mem_singleton] at ha
      subst ha
      exact w.newF hp
  · have h1 : (g.C ++ [p])[n]? = some a := h1
    by_cases hn : n < g.C.length
    · rw [List.getElem?_append_left hn] at h1
      rw [List.getElem?_append_left (by rw [← w.len]; exact hn)] at h2
      exact (w1.cel n a cv h1 h2).mono ex rfl
    · rw [List.getElem?_append_right (by omega)] at h1
      rw [List.getElem?_append_right (by rw [← w.len]; omega)] at h2
      rw [w.len] at h1
      cases hm : n - S.length with
      | zero =>
        rw [hm] at h1 h2
        cases h1
        cases h2
        exact ⟨vs, upd_same, r.mono ex⟩
      | succ m =>
        rw [hm] at h1
        cases h1
  · have h : b ∈ g.C ++ [p] := h
    rcases List.mem_append.mp h with h | h
    · exact absurd h n
    · rw [List.mem_singleton] at h
      rw [h]
      exact hp
theorem se_newc {es : List Expr} {ps : Eps} {pos : Pos} (h : SEs W c es ps) : SE W c (.List es pos) (.newc ps) := by
  refine .of rfl (fun _ => rfl) fun X x => PE.imp (pe_lst (h.val X x)) fun σ H Q q => ?_
  obtain ⟨H0, g, env, S, wk, en, w⟩ := q
  refine sem_seq anti_RV wk en w fun r S1 v g1 H1 e1 wk1 en1 x1 w1 => ?_
  obtain ⟨h1, h2⟩ := WP.ite w1
  have x1 : RDs W.K g1 v r := x1
  refine ⟨by rw [x1.length]; exact h1, fun p hp => ?_⟩
  obtain ⟨wk2, e2⟩ := wk1.newCell x1 hp
  have h2 : Fin W.K (RV W.K false) g1 H1 Q (.fz (.cell S1.length)) (S1 ++ [.lst r]) := h2
  refine h2 (.ref p) _ _ e2 wk2 (res_fz (.cell ?_))
  show (g1.C ++ [p])[S1.length]? = some p
  rw [← wk1.len, List.getElem?_append_right (Nat.le_refl _), Nat.sub_self]
  rfl

/-! ### subscripts, slices -/
theorem RDs.atI {K : PySem.W.Frag} {g : G} {ds : List D} {vs : List V} {i : Int} {d : D} (h : RDs K g vs ds) (e : L2.atI ds i = some d) : ∃ v, L2.atI vs i = some v ∧ RD K g v d := by
  unfold L2.atI at e ⊢
  rw [h.length]
  cases q : ixN ds.length i with
  | none => rw [q] at e; cases e
  | some j =>
    rw [q] at e
    exact h.get e
def rIdx (W : Wd) : R2 := fun x y H Q => ∃ g S dx dy d, Wok W.K g H S ∧ Rb W.K g H x dx ∧ Rb W.K g H y dy ∧ idxop dx dy S = some d ∧ Fin W.K (RV W.K false) g H Q (.fz d) S
theorem ix_any {X : Cx} (hK : X.K = W.K) : IxR X (rIdx W) := by
  intro value slice pins s σ H x y v u Q I rx ry ⟨g, S, dx, dy, d, w, hx, hy, e, q⟩ hs
  unfold idxop at e
  split at e <;> first | (cases e; done) | skip
  · obtain ⟨a, vs, rfl, h1, h2⟩ := hx.tup w
    have := hy.int
    subst this
    obtain ⟨z, hz, hd⟩ := h2.atI e
    exact ix_tup value slice pins s σ H _ _ v u Q I rx ry ⟨a, vs, _, z, rfl, rfl, SqT.of h1, hz, fin_fz q w hd⟩ hs
  · obtain ⟨a, vs, rfl, h1, h2⟩ := hx.lst w
    have := hy.int
    subst this
    obtain ⟨z, hz, hd⟩ := h2.atI e
    exact ix_list value slice pins s σ H _ _ v u Q I rx ry ⟨a, vs, _, z, rfl, rfl, SqL.of h1, hz, fin_fz q w hd⟩ hs
  · obtain ⟨a, rfl, h1⟩ := hx.scr w
    have := hy.int
    subst this
    obtain ⟨i, hi, rfl⟩ := Option.map_eq_some_iff.mp e
    obtain ⟨z, hz, hd⟩ := (RDs.ofInts (K := W.K) (g := g)).atI (show L2.atI ((_ : List Int).map D.int) _ = some (D.int i) by
      unfold L2.atI at hi ⊢
      rw [List.length_map]
      cases q' : ixN _ _ with
      | none => rw [q'] at hi; cases hi
      | some j =>
        rw [q'] at hi
        show (List.map D.int _)[j]? = _
        rw [List.getElem?_map, show (_ : List Int)[j]? = some i from hi]
        rfl)
    exact (hK ▸ ix_list (X := X)) value slice pins s σ H _ _ v u Q I rx ry ⟨a, _, _, z, rfl, rfl, h1, hz, fin_fz q w hd⟩ hs
  · obtain ⟨a, rfl, hg⟩ := hx.cell
    have := hy.int
    subst this
    split at e <;> first | (cases e; done) | skip
    rename_i hS
    obtain ⟨vs, h1, h2⟩ := w.cel _ _ _ hg hS
    obtain ⟨z, hz, hd⟩ := h2.atI e
    exact ix_list value slice pins s σ H _ _ v u Q I rx ry ⟨a, vs, _, z, rfl, rfl, SqL.of h1, hz, fin_fz q w hd⟩ hs
theorem se_idx {a b : Expr} {pa pb : Ep} {pos : Pos} (hs : notSlice b = true) (ha : SE W c a pa) (hb : SE W c b pb) : SE W c (.Subscript a b pos) (.idx pa pb) := by
  refine .of rfl (fun _ => rfl) fun X x => PE.imp (pe_ix (ix_any x.K) (ha.val true X x) (hb.val true X x) (slice_eq hs)) fun σ H Q q => ?_
  obtain ⟨H0, g, env, S, wk, en, w⟩ := q
  refine sem_seq anti_RV wk en w fun r S1 v g1 H1 e1 wk1 en1 x1 w1 => ?_
  refine sem_seq anti_RV wk1 en1 w1 fun r2 S2 v2 g2 H2 e2 wk2 en2 x2 w2 => ?_
  obtain ⟨d, h1, h2⟩ := WP.ask (WP.bnd w2)
  exact ⟨g2, S2, _, _, d, wk2, (Res.rb x1).evo e2, Res.rb x2, h1, h2⟩
def cutO (lo hi : Option Int) : D → Option Rv
  | .tup xs => some (.fz (.tup (cutD xs lo hi)))
  | .lst xs => some (.ow (cutD xs lo hi))
  | _ => none
def rCut (W : Wd) : V → Option Int → Option Int → Hp → VK → Prop := fun x lo hi H Q => ∃ g S dx r, Wok W.K g H S ∧ Rb W.K g H x dx ∧ cutO lo hi dx = some r ∧ Fin W.K (RV W.K false) g H Q r S
theorem sl_any {X : Cx} (hK : X.K = W.K) : SlR X (rCut W) := by
  intro pins s σ H x v vl vu lo hi sl Q I rx hs pl pu ⟨g, S, dx, r, w, hx, e, q⟩
  unfold cutO at e
  split at e <;> first | (cases e; done) | skip
  · cases e
    obtain ⟨a, vs, rfl, h1, h2⟩ := hx.tup w
    refine sl_tupA pins s σ H _ v vl vu lo hi sl Q I rx hs pl pu ⟨a, vs, rfl, SqT.of h1, fun hw => ?_, fun hw p hp => fin_tup q w (h2.cut lo hi) hp⟩
    rw [h2.length] at hw
    rw [cutD_whole hw] at q
    rcases hx with hx | ⟨_, _, _, _, z, _⟩
    · exact fin_fz q w hx
    · cases z
  · cases e
    obtain ⟨a, vs, rfl, h1, h2⟩ := hx.lst w
    exact sl_list pins s σ H _ v vl vu lo hi sl Q I rx hs pl pu ⟨a, vs, rfl, SqL.of h1, fun p hp => fin_lst q w (h2.cut lo hi) hp⟩
theorem frmD_cut {x y : D} {r : Rv} (h : frmD x y = some r) : ∃ k, y = .int k ∧ cutO (some k) none x = some r := by
  unfold frmD at h
  split at h <;> first | (cases h; done) | skip
  · exact ⟨_, rfl, h⟩
  · exact ⟨_, rfl, h⟩
theorem uptD_cut {x y : D} {r : Rv} (h : uptD x y = some r) : ∃ k, y = .int k ∧ cutO none (some k) x = some r := by
  unfold uptD at h
  split at h <;> first | (cases h; done) | skip
  · exact ⟨_, rfl, h⟩
  · exact ⟨_, rfl, h⟩
theorem se_from {a b : Expr} {pa pb : Ep} {p2 pos : Pos} (ha : SE W c a pa) (hb : SE W c b pb) : SE W c (.Subscript a (.Slice (some b) none none p2) pos) (.from_ pa pb) := by
  refine .of rfl (fun _ => rfl) fun X x => PE.imp (pe_slice (sl_any x.K) (ha.val true X x) (po_some (hb.val true X x)) po_none) fun σ H Q q => ?_
  obtain ⟨H0, g, env, S, wk, en, w⟩ := q
  refine sem_seq anti_RV wk en w fun r S1 v g1 H1 e1 wk1 en1 x1 w1 => ?_
  refine sem_seq anti_RV wk1 en1 w1 fun r2 S2 v2 g2 H2 e2 wk2 en2 x2 w2 => ?_
  obtain ⟨d, h1, h2⟩ := WP.opt w2
  obtain ⟨k, hk, hc⟩ := frmD_cut h1
  have hb2 := Res.rb x2
  rw [hk] at hb2
  exact ⟨k, hb2.int, g2, S2, _, d, wk2, (Res.rb x1).evo e2, hc, h2⟩
theorem se_upto {a b : Expr} {pa pb : Ep} {p2 pos : Pos} (ha : SE W c a pa) (hb : SE W c b pb) : SE W c (.Subscript a (.Slice none (some b) none p2) pos) (.upto pa pb) := by
  refine .of rfl (fun _ => rfl) fun X x => PE.imp (pe_slice (sl_any x.K) (ha.val true X x) po_none (po_some (hb.val true X x))) fun σ H Q q => ?_
  obtain ⟨H0, g, env, S, wk, en, w⟩ := q
  refine sem_seq anti_RV wk en w fun r S1 v g1 H1 e1 wk1 en1 x1 w1 => ?_
  refine sem_seq anti_RV wk1 en1 w1 fun r2 S2 v2 g2 H2 e2 wk2 en2 x2 w2 => ?_
  obtain ⟨d, h1, h2⟩ := WP.opt w2
  obtain ⟨k, hk, hc⟩ := uptD_cut h1
  have hb2 := Res.rb x2
  rw [hk] at hb2
  exact ⟨k, hb2.int, g2, S2, _, d, wk2, (Res.rb x1).evo e2, hc, h2⟩
end
end Mini
/-! SoundF: if-expressions as tests, calls of built-ins, isinstance, methods, range, calls of defs. -/
namespace Mini
open PySem PySem.Spec PyProof.Rows L2
section
variable {W : Wd} {c : Ct}
theorem wp_up {cs : Calls} {p : Ep} {env : Env} {S : Store} {Q : Rv → Store → Prop} {X : Nat → Store → Prop} (h : WP (evalE cs false p env S) Q X) : WP (evalE cs true p env S) Q X := by
  cases p with
  | var i =>
    obtain ⟨r, h1, h2⟩ := WP.opt h
    unfold rdVar at h1
    split at h1
    · rename_i d hs
      cases h1
      show WP (M.opt (rdVar true env i) S) Q X
      unfold rdVar
      rw [hs]
      exact h2
    · obtain ⟨hr, _⟩ := Option.ite_none_right_eq_some.mp h1
      cases hr
    · cases h1
  | _ => exact h
theorem pt_ife {X : Cx} {t a b : Expr} {pos : Pos} {tt ta tb : TT} (ht : PT X t tt) (ha : PT X a ta) (hb : PT X b tb) : PT X (.IfExp t a b pos) (fun σ H Q => tt σ H fun k H1 => if k = true then ta σ H1 Q else tb σ H1 Q) := by
  refine ⟨fun pins s σ H Q I h => ?_⟩
  show wpAny _ _ (do if ← isTrue t X.env (eval t X.env) then isTrue a X.env (eval a X.env) else isTrue b X.env (eval b X.env)) _ _ s
  refine wpAny_bind (thn (ht.run pins s σ H _ I h) fun k s1 ⟨H1, I1, q1⟩ => ?_)
  cases k with
  | true => exact ha.run pins s1 σ H1 Q I1 q1
  | false => exact hb.run pins s1 σ H1 Q I1 q1
theorem se_ife {t a b : Expr} {pt pa pb : Ep} {pos : Pos} (ht : SE W c t pt) (ha : SE W c a pa) (hb : SE W c b pb) : SE W c (.IfExp t a b pos) (.ite pt pa pb) := by
  refine ⟨fun rd X x => ?_, fun X x => PT.imp (pt_ife (ht.tst X x) (ha.tst X x) (hb.tst X x)) fun σ H Q q => ?_⟩
  · cases rd with
    | false => exact se_ite ht ha hb X x
    | true => exact PE.imp (se_ite ht ha hb X x) fun _ _ _ => sem_read fun _ => rfl
  · obtain ⟨H0, g, env, S, wk, en, w⟩ := q
    have w : WP (M.bnd (evalB W.cs pt env) (fun k => if k then M.bnd (evalE W.cs false pa env) (fun x => asB x.d) else M.bnd (evalE W.cs false pb env) (fun x => asB x.d)) S) (Fin W.K RBo g H Q) (QX W.K W.cl c.E g H) := by
      have w := w
      simp only [evalB, evalE, M.assoc, M.ite_bnd] at w ⊢
      exact w
    refine sem_seq (m := fun env => evalB W.cs pt env) anti_RBo wk en w fun r S1 v g1 H1 e1 wk1 en1 x1 w1 => ?_
    cases x1
    have up : ∀ {p : Ep}, WP (M.bnd (evalE W.cs false p env) (fun x => asB x.d) S1) (Fin W.K RBo g1 H1 Q) (QX W.K W.cl c.E g1 H1) → WP (M.bnd (evalE W.cs true p env) (fun x => asB x.d) S1) (Fin W.K RBo g1 H1 Q) (QX W.K W.cl c.E g1 H1) := fun {p} h => by
      have h := wp_up (WP.bnd h)
      unfold M.bnd
      revert h
      cases evalE W.cs true p env S1 with
      | ok a S => exact fun h => h
      | exc x S => exact fun h => h
      | stuck => exact fun h => h
    cases r with
    | true => exact iteT ⟨H0, g1, env, S1, wk1, en1, up w1⟩
    | false => exact iteF ⟨H0, g1, env, S1, wk1, en1, up w1⟩

/-! ### built-ins by name -/
/-- a name of the top or a built-in one, as the scope has it -/
def isGl (sc : Scope) (x : Str) : Bool := sc.names.lookup x == some .globalImplicit
theorem gl_of {X : Cx} (x : XOk W c X) {n : Str} (h : isGl c.sc n = true) : Gl X n := by
  have h : c.sc.names.lookup n = some .globalImplicit := by simpa [isGl] using h
  show X.env.scope.names.lookup n = some .globalImplicit
  rw [x.sc]
  exact h
theorem sem_blt {E : XK} {ps : Eps} {b : Blt} {σ : L2.St} {H : Hp} {Q : VK} (q : semE W E false (.blt b ps) σ H Q) : tCB (rBlt W b) (semRs W E ps) σ H Q := by
  obtain ⟨H0, g, env, S, wk, en, w⟩ := q
  refine sem_seq anti_RV wk en w fun r S1 v g1 H1 e1 wk1 en1 x1 w1 => ?_
  obtain ⟨d, h1, h2⟩ := WP.ask w1
  exact ⟨g1, S1, r, d, wk1, x1, h1, h2⟩
theorem se_bltF {n : Str} {id : String} {e : Expr} {es : List Expr} {ps : Eps} {b : Blt} {p pos : Pos} (hb : bltV b = some (.builtin id)) (hv : bootBuiltins n = some (.builtin id)) (hg : isGl c.sc n = true) (hm : W.mg n = none) (hn : n ≠ "__name__") (hd : (n == ("__debug__" : Str)) = false)
    (h : SEs W c (e :: es) ps) : SE W c (.Call (.Name n p) (e :: es) [] pos) (.blt b ps) := by
  have hs := h.star
  rw [List.all_cons, Bool.and_eq_true] at hs
  refine .of rfl (fun _ => rfl) fun X x => PE.imp (pe_callB (call_blt x.K x.calm hb) (gl_of x hg) (by rw [x.mg]; exact hm) hv (h.red X x) hn hd (star_eq hs.1) (stars_plain hs.2)) fun σ H Q q => sem_blt q
theorem se_bltT {n : Str} {id : String} {e : Expr} {es : List Expr} {ps : Eps} {b : Blt} {p pos : Pos} (hb : bltV b = some (.type id)) (hv : bootBuiltins n = some (.type id)) (hg : isGl c.sc n = true) (hm : W.mg n = none) (hn : n ≠ "__name__") (hd : (n == ("__debug__" : Str)) = false)
    (h : SEs W c (e :: es) ps) : SE W c (.Call (.Name n p) (e :: es) [] pos) (.blt b ps) := by
  have hs := h.star
  rw [List.all_cons, Bool.and_eq_true] at hs
  refine .of rfl (fun _ => rfl) fun X x => PE.imp (pe_callTy (call_blt x.K x.calm hb) (gl_of x hg) (by rw [x.mg]; exact hm) hv (h.red X x) hn hd (star_eq hs.1) (stars_plain hs.2)) fun σ H Q q => sem_blt q

/-! ### isinstance -/
def tyN : Ty → Str
  | .int => "int"
  | .bool => "bool"
  | .str => "str"
  | .tuple => "tuple"
  | .list => "list"
def tyS : Ty → String
  | .int => "int"
  | .bool => "bool"
  | .str => "str"
  | .tuple => "tuple"
  | .list => "list"
theorem boot_ty (t : Ty) : bootBuiltins (tyN t) = some (.type (tyS t)) := by
  cases t <;> decide +kernel
theorem tyN_ok (t : Ty) : tyN t ≠ "__name__" ∧ (tyN t == ("__debug__" : Str)) = false := by
  cases t <;> decide +kernel
def tyNm : D → Option String
  | .non => some "NoneType"
  | .bl _ => some "bool"
  | .int _ => some "int"
  | .str _ => some "str"
  | .tup _ => some "tuple"
  | .lst _ => some "list"
  | _ => none
theorem tyx_nm {g : G} {H : Hp} {S : Store} {v : V} {d : D} {T : String} (w : Wok W.K g H S) (h : Rb W.K g H v d) (e : tyNm d = some T) : TyX W.K H v (.type T) := by
  cases d with
  | non => cases e; rw [h.non]; exact .base .non
  | bl x => cases e; rw [h.bl]; exact .base (.bl _)
  | int x => cases e; rw [h.int]; exact .base (.int _)
  | str x => cases e; rw [h.str]; exact .base (.str _)
  | tup x =>
    cases e
    obtain ⟨a, vs, rfl, h1, h2⟩ := h.tup w
    exact .base (.tup h1)
  | lst x =>
    cases e
    obtain ⟨a, vs, rfl, h1, h2⟩ := h.lst w
    exact .base (.lst h1)
  | _ => cases e
theorem tyIs_nm {d : D} {t : Ty} {b : Bool} (e : tyIs d t = some b) : ∃ T, tyNm d = some T ∧ kitB T (tyS t) = some b := by
  cases d with
  | non => exact ⟨_, rfl, by cases t <;> cases e <;> decide +kernel⟩
  | bl x => exact ⟨_, rfl, by cases t <;> cases e <;> decide +kernel⟩
  | int x => exact ⟨_, rfl, by cases t <;> cases e <;> decide +kernel⟩
  | str x => exact ⟨_, rfl, by cases t <;> cases e <;> decide +kernel⟩
  | tup x => exact ⟨_, rfl, by cases t <;> cases e <;> decide +kernel⟩
  | lst x => exact ⟨_, rfl, by cases t <;> cases e <;> decide +kernel⟩
  | cell _ => cases t <;> cases e
  | fn _ => cases t <;> cases e
  | scr _ => cases t <;> cases e
theorem se_isi1 {n : Str} {t : Ty} {a : Expr} {pa : Ep} {p p2 pos : Pos} (hg : isGl c.sc "isinstance" = true) (hm : W.mg "isinstance" = none) (hn : n = tyN t) (hg2 : isGl c.sc n = true) (hm2 : W.mg n = none) (hs : notStar a = true) (ha : SE W c a pa) :
    SE W c (.Call (.Name "isinstance" p) [a, .Name n p2] [] pos) (.blt (.isi [t]) (.cons pa .nil)) := by
  subst hn
  refine .of rfl (fun _ => rfl) fun X x => PE.imp (pe_callB call_isi (gl_of x hg) (by rw [x.mg]; exact hm) boot_isinstance
    (pa_cons (ha.val true X x) (pa_cons (pe_bltn (v := .ty (tyS t)) (gl_of x hg2) (by rw [x.mg]; exact hm2) (boot_ty t) rfl (tyN_ok t).1 (tyN_ok t).2) pa_nil) (star_eq hs)) (by decide) (by decide) (star_eq hs) rfl) fun σ H Q q => ?_
  obtain ⟨H0, g, env, S, wk, en, w⟩ := q
  have w : WP (M.bnd (evalE W.cs true pa env) (fun x => M.ask fun S => bltop S (.isi [t]) [x.d]) S) (Fin W.K (RV W.K false) g H Q) (QX W.K W.cl c.E g H) := by
    have w := w
    simp only [evalE, evalRs, M.assoc, M.ret_bnd] at w
    exact w
  refine sem_seq anti_RV wk en w fun r S1 v g1 H1 e1 wk1 en1 x1 w1 => ?_
  obtain ⟨d, h1, h2⟩ := WP.ask w1
  obtain ⟨b, hb, rfl⟩ := Option.map_eq_some_iff.mp (show (tyIn r.d [t]).map (fun b => Rv.fz (.bl b)) = some d from h1)
  unfold tyIn at hb
  split at hb <;> first | (cases hb; done) | skip
  rename_i b1 b2 hb1 hb2
  cases hb2
  cases hb
  obtain ⟨T, k1, k2⟩ := tyIs_nm hb1
  rw [Bool.or_false] at h2
  exact ⟨v, .ty (tyS t), .type T, .type (tyS t), b1, rfl, .ty _, x.K ▸ tyx_nm wk1 (Res.rb x1) k1, kit_ty k2, fin_fz h2 wk1 (.bl _)⟩
theorem kit_any {K : PySem.W.Frag} {d : D} {T : String} : ∀ {ts : List Ty} {b : Bool}, tyIn d ts = some b → (∀ t b, t ∈ ts → tyIs d t = some b → kitB T (tyS t) = some b) → PySem.W.kitAny K (.type T) (ts.map fun t => .type (tyS t)) = some b
  | [], b, h, _ => by
    cases h
    rfl
  | t :: ts, b, h, hk => by
    unfold tyIn at h
    split at h <;> first | (cases h; done) | skip
    rename_i b1 b2 h1 h2
    cases h
    have ih := kit_any (K := K) h2 fun t' b' m => hk t' b' (List.mem_cons_of_mem _ m)
    refine kitAny_cons (kit_ty (hk t b1 List.mem_cons_self h1)) (fun z => ?_) (fun z => ?_)
    · rw [z, Bool.false_or]
      exact ih
    · rw [z, Bool.true_or]
theorem se_isi2 {n1 n2 : Str} {t1 t2 : Ty} {a : Expr} {pa : Ep} {k : Nat} {p p1 p2 p3 pos : Pos} (hg : isGl c.sc "isinstance" = true) (hm : W.mg "isinstance" = none) (hn : n1 = tyN t1) (hn' : n2 = tyN t2) (hg2 : isGl c.sc n1 = true) (hm2 : W.mg n1 = none) (hg3 : isGl c.sc n2 = true) (hm3 : W.mg n2 = none)
    (hs : notStar a = true) (ha : SE W c a pa) : SE W c (.Call (.Name "isinstance" p) [a, .Tuple [.Name n1 p1, .Name n2 p2] k p3] [] pos) (.blt (.isi [t1, t2]) (.cons pa .nil)) := by
  subst hn hn'
  refine .of rfl (fun _ => rfl) fun X x => PE.imp (pe_callB call_isiT (gl_of x hg) (by rw [x.mg]; exact hm) boot_isinstance
    (pa_cons (ha.val true X x) (pa_cons (pe_tup (pa_cons (pe_bltn (v := .ty (tyS t1)) (gl_of x hg2) (by rw [x.mg]; exact hm2) (boot_ty t1) rfl (tyN_ok t1).1 (tyN_ok t1).2)
      (pa_cons (pe_bltn (v := .ty (tyS t2)) (gl_of x hg3) (by rw [x.mg]; exact hm3) (boot_ty t2) rfl (tyN_ok t2).1 (tyN_ok t2).2) pa_nil))) pa_nil) (star_eq hs)) (by decide) (by decide) (star_eq hs) rfl) fun σ H Q q => ?_
  obtain ⟨H0, g, env, S, wk, en, w⟩ := q
  have w : WP (M.bnd (evalE W.cs true pa env) (fun x => M.ask fun S => bltop S (.isi [t1, t2]) [x.d]) S) (Fin W.K (RV W.K false) g H Q) (QX W.K W.cl c.E g H) := by
    have w := w
    simp only [evalE, evalRs, M.assoc, M.ret_bnd] at w
    exact w
  refine sem_seq anti_RV wk en w fun r S1 v g1 H1 e1 wk1 en1 x1 w1 => ?_
  obtain ⟨d, h1, h2⟩ := WP.ask w1
  obtain ⟨b, hb, rfl⟩ := Option.map_eq_some_iff.mp (show (tyIn r.d [t1, t2]).map (fun b => Rv.fz (.bl b)) = some d from h1)
  have hb0 := hb
  unfold tyIn at hb
  split at hb <;> first | (cases hb; done) | skip
  rename_i b1 b2 hb1 hb2
  obtain ⟨T, k1, k2⟩ := tyIs_nm hb1
  refine ⟨by show 2 ≤ sizeLine; decide, fun q hq => ?_⟩
  obtain ⟨wk2, e2⟩ := wk1.newOw (o := .tup [.ty (tyS t1), .ty (tyS t2)]) hq
  have hT : ∀ t b, t ∈ [t1, t2] → tyIs r.d t = some b → kitB T (tyS t) = some b := fun t b _ ht => by
    obtain ⟨T', j1, j2⟩ := tyIs_nm ht
    rw [k1] at j1
    cases j1
    exact j2
  have hx := tyx_nm wk2 ((Res.rb x1).evo e2) k1
  exact ⟨v, q, _, .type T, _, b, rfl, upd_same, .cons (.ty _) (.cons (.ty _) .nil), x.K ▸ hx, kit_any (ts := [t1, t2]) hb0 hT, fin_fz (h2.shift anti_RV e2) wk2 (.bl _)⟩

/-! ### range, methods, defs -/
theorem rgV_eq {g : G} (n : Int) : RDs W.K g (rgV 0 n) (rngD n) := by
  unfold rgV rngD
  have : ∀ (l : List Nat), RDs W.K g (l.map fun i => V.int (0 + (i : Nat))) (l.map fun i => D.int (i : Nat)) := fun l => by
    induction l with
    | nil => exact .nil
    | cons x l ih =>
      refine .cons ?_ ih
      show RD W.K g (V.int (0 + (x : Int))) (D.int (x : Int))
      rw [Int.zero_add]
      exact .int _
  rw [Int.sub_zero]
  exact this _
theorem okRng_of {n : Int} (h : okRng n = true) : -(2 ^ 62) ≤ n ∧ n ≤ 16000000 := by
  unfold okRng at h
  rw [Bool.and_eq_true] at h
  exact ⟨of_decide_eq_true h.1, of_decide_eq_true h.2⟩
theorem se_trng {a : Expr} {pa : Ep} {p p1 pos pos1 : Pos} (hg : isGl c.sc "tuple" = true) (hm : W.mg "tuple" = none) (hg2 : isGl c.sc "range" = true) (hm2 : W.mg "range" = none) (hs : notStar a = true) (ha : SE W c a pa) :
    SE W c (.Call (.Name "tuple" p) [.Call (.Name "range" p1) [a] [] pos1] [] pos) (.trng pa) := by
  refine .of rfl (fun _ => rfl) fun X x => PE.imp (pe_tupRg x.calm (gl_of x hg) (by rw [x.mg]; exact hm) (prg_1 (gl_of x hg2) (by rw [x.mg]; exact hm2) (ha.val true X x) (star_eq hs))) fun σ H Q q => ?_
  obtain ⟨H0, g, env, S, wk, en, w⟩ := q
  refine sem_seq anti_RV wk en w fun r S1 v g1 H1 e1 wk1 en1 x1 w1 => ?_
  obtain ⟨d, h1, h2⟩ := WP.opt w1
  have hb := Res.rb x1
  unfold trgD at h1
  split at h1 <;> first | (cases h1; done) | skip
  rename_i n hn
  obtain ⟨ho, h1⟩ := Option.ite_none_right_eq_some.mp h1
  cases h1
  rw [hn] at hb
  obtain ⟨o1, o2⟩ := okRng_of ho
  exact ⟨n, hb.int, ⟨by omega, by omega, by omega, by omega, by omega⟩, fun q hq => fin_tup h2 wk1 (rgV_eq n) hq⟩
end
end Mini
/-! SoundG: enumerate of a tuple; what is walked. -/
namespace PySem
open Sem (wp)
open AutoSeq1 (wpAny_loadPart')
theorem mini_enum_newT (l : Addr) (items : Array Value) (n : Nat) (dct : Option Addr) (sl : Array (Option Value)) :
    Meets (Builtin.«enumerate.__new__» ⟨[.type "enumerate", .ref l], []⟩) (fun _ R s => s.heap.get? l = some { cls := .type "tuple", dict := dct, data := .seq items n, slots := sl } ∧
      R (.ok (.ret (.ref (s.heap.push { cls := .type "tuple_iterator", data := .fields #[.ref l, .int 0 0] }).objs.size)))
        { s with heap := (s.heap.push { cls := .type "tuple_iterator", data := .fields #[.ref l, .int 0 0] }).push { cls := .type "enumerate", data := .fields #[.none, .bool false, .ref s.heap.objs.size, rawInt 0, .none, .none] } }) :=
  .of_wp fun prog w A R s h => by
    obtain ⟨hp, g, d, tk, os⟩ := s; obtain ⟨hl, h⟩ := h
    have hsub := sub_enumerate
    have hL : Heap.IsTuple (Shared.heap ⟨hp, g, d, tk, os⟩) l items := ⟨_, hl, rfl, n, rfl⟩
    wp_walk using wpAny_loadPart' hl
    refine wpAny_stack_any fun st => wpAny_pure ?_
    split
    · rename_i c _ _ _ _ _
      cases (c == Value.type "enumerate")
      · wp_walk using wpAny_loadPart' hl, wpAny_pyIter_tuple hL
        exact ⟨_, rfl, h⟩
      · wp_walk using wpAny_loadPart' hl, wpAny_pyIter_tuple hL
        exact ⟨_, rfl, h⟩
    · wp_walk using wpAny_loadPart' hl, wpAny_pyIter_tuple hL
      exact ⟨_, rfl, h⟩
theorem mini_call_enum_tuple {prog : Program} {w : World} {A : Around} {E : Value → Shared → Prop} {s : Shared} {l : Addr} {items : Array Value} {Q : Value → Shared → Prop} (hL : s.heap.IsTuple l items)
    (h : ∀ h', IsEnum h' (s.heap.objs.size + 1) s.heap.objs.size 0 .none → h'.IsTupleIter s.heap.objs.size l 0 → h'.objs.size = s.heap.objs.size + 2 →
      (∀ b o, s.heap.get? b = some o → h'.get? b = some o) → Q (.ref (s.heap.objs.size + 1)) { s with heap := h' }) :
    wpAny (model prog w) A (call (.type "enumerate") [.ref l]) Q E s := by
  obtain ⟨⟨c, dct, dt, sl⟩, hl, hc, n, hd⟩ := hL
  replace hc : c = .type "tuple" := hc
  replace hd : dt = .seq items n := hd
  subst hc hd
  refine callType_new F.called_enumerate (by decide) (F.typeCall_enumerate_1 _) (F.newCall_enumerate_1 _) (fun obj => F.args_object_init_2 obj _) F.entry_enumerate_new
    (mini_enum_newT l items n dct sl) ⟨hl, ?_⟩
  have hz : (s.heap.push { cls := .type "tuple_iterator", data := .fields #[.ref l, .int 0 0] }).objs.size = s.heap.objs.size + 1 := Heap.size_push ..
  show _ ∧ _
  rw [hz]
  have he : IsEnum ((s.heap.push { cls := .type "tuple_iterator", data := .fields #[.ref l, .int 0 0] }).push
      { cls := .type "enumerate", data := .fields #[.none, .bool false, .ref s.heap.objs.size, rawInt 0, .none, .none] }) (s.heap.objs.size + 1) s.heap.objs.size 0 .none := by
    have := Heap.get?_push_size (s.heap.push { cls := .type "tuple_iterator", data := .fields #[.ref l, .int 0 0] })
      (o := { cls := .type "enumerate", data := .fields #[.none, .bool false, .ref s.heap.objs.size, rawInt 0, .none, .none] }) rfl
    rw [hz] at this; exact this
  refine ⟨⟨_, he, rfl⟩, h _ he ⟨_, Heap.get?_push_of_some _ (Heap.get?_push_size _ rfl), rfl, rfl⟩ (by rw [Heap.size_push, hz]) fun b o x => Heap.get?_push_of_some _ (Heap.get?_push_of_some _ x)⟩
end PySem
namespace Mini
open PySem PySem.Spec PyProof.Rows L2
/-- the tuple at a, each item in a new pair -/
def IteT (K : PySem.W.Frag) (a : Addr) : It :=
  ⟨fun i H => ∃ (xs : List V) (x : V), SqT K H a xs ∧ xs[i]? = some x, fun i H v H' => ∃ T x, v = .ref T ∧ H T = none ∧ H' = upd H T (.tup [.int (i : Nat), x]) ∧ ∀ xs, SqT K H a xs → xs[i]? = some x, fun i H => ∃ xs : List V, SqT K H a xs ∧ xs.length = i⟩
theorem turn_enumT {P : Program} {w : World} {K : PySem.W.Frag} {elts : List Expr} {kk : Nat} {tpos : Pos} (a e it : Addr) :
    Turn P w K (.Tuple elts kk tpos) (IteT K a) [e, it] e (fun i h => (∃ old, IsEnum h e it ((i : Nat) : Int) old) ∧ h.IsTupleIter it a i ∧ e ≠ it ∧ a ≠ it) where
  mem := by simp
  obj := fun i h st b hb => by
    obtain ⟨⟨old, he⟩, ⟨o, ho, hc, hd⟩, _⟩ := st
    have e' : b = e ∨ b = it := by simpa using hb
    rcases e' with z | z
    · rw [z]; exact ⟨_, he, fun v q => nomatch q⟩
    · rw [z]; exact ⟨o, ho, fun v q => by rw [hd] at q; cases q⟩
  keep := fun i h h' st k => let ⟨⟨old, he⟩, hi, hne⟩ := st; ⟨⟨old, k e (by simp) _ he⟩, hi.at fun o q => k it (by simp) o q, hne⟩
  item := by
    intro X hP hw hK hc i pins s σ H E I hf st hg
    subst hP hw hK
    obtain ⟨⟨old, he⟩, hit, hne, hna⟩ := st
    obtain ⟨xs, x, hq, hx⟩ := hg
    obtain ⟨its, rv, p, hz⟩ := I.tuple hq
    obtain ⟨u, hu, ru⟩ := rv.get hx
    have hel : e < s.heap.objs.size := Heap.lt_size he
    have hil : it < s.heap.objs.size := by obtain ⟨_, q, _⟩ := hit; exact Heap.lt_size q
    have hlt : i < its.toArray.size := by
      have := (List.getElem?_eq_some_iff.mp hu).1
      simpa using this
    have hea : e ∉ [it, a] := by
      intro z
      have z' : e = it ∨ e = a := by simpa using z
      rcases z' with z | z
      · exact hne z
      · obtain ⟨o, ho, hcl, _⟩ := p
        rw [← z] at ho
        have he' : s.heap.get? e = some _ := he
        rw [he'] at ho
        cases ho
        have hcl : Value.type "enumerate" = Value.type "tuple" := hcl
        exact absurd hcl (by decide +kernel)
    refine wpAny_pyNext_enum_itemD (Draws.tuple (A := X.A.in1) (show X.A.in1.handled = none from I.ok.hd hc) it a hna its.toArray) he ⟨hit, p⟩ hlt hne hea fun x' h' tk hx' ho hst hT hsz hk => ?_
    have hxu : x' = u := by
      have hx' : its.toArray[i]? = some x' := hx'
      rw [show its.toArray[i]? = some u by simpa using hu] at hx'
      exact (Option.some.inj hx').symm
    subst hxu
    refine ⟨_, rfl, wpAny_letOwnedTupleGo_enum (s := { s with heap := h', toks := tk + 1 }) ho fun h'' he' sb => ?_⟩
    have hT2 : h''.get? s.heap.objs.size = some { cls := .type "tuple", data := .seq #[.int i tk, x'] } := (sb.2 _ (Nat.ne_of_gt hel)).trans hT
    have new : ObjOk X.prog X.w (upd H s.heap.objs.size (.tup [.int (i : Nat), x])) h'' s.heap.objs.size (.tup [.int (i : Nat), x]) :=
      ⟨by show 2 ≤ sizeLine; decide, [.int i tk, x'], .cons ⟨_, rfl⟩ (.cons ru .nil), ⟨_, hT2, rfl, _, rfl⟩⟩
    have I1 : Inv X pins σ (upd H s.heap.objs.size (.tup [.int (i : Nat), x])) { s with heap := h'', toks := tk + 1 } :=
      I.turnedNew (ch := [e, it]) (fun b ob hb q => (sb.2 b (fun z => hb (by simp [z]))).trans (hk b ob (fun z => hb (by simp [z])) (fun z => hb (by simp [z])) q)) hf (Nat.le_refl _) new
    refine ⟨.ref s.heap.objs.size, _, I1, rfl, ⟨_, x, rfl, I.hok.fresh (Nat.le_refl _), rfl, fun ys hy => by rw [I.tuple_inj hy hq]; exact hx⟩, ⟨⟨x', ?_⟩, hst.1.at fun o q => (sb.2 it (Ne.symm hne)).trans q, hne, hna⟩, fun b hb => ?_⟩
    · have e1 : ((i + 1 : Nat) : Int) = (i : Int) + 1 := by omega
      rw [e1]; exact he'
    · have hb' : b < s.heap.objs.size := by
        have e' : b = e ∨ b = it := by simpa using hb
        rcases e' with z | z
        · rw [z]; exact hel
        · rw [z]; exact hil
      rw [upd_ne (Nat.ne_of_lt hb')]
      exact (hf b hb).1
  done := by
    intro X hP hw hK hc i pins s σ H E I hf st hg
    subst hP hw hK
    obtain ⟨⟨old, he⟩, hit, hne, hna⟩ := st
    obtain ⟨xs, hq, hx⟩ := hg
    obtain ⟨its, rv, p, hz⟩ := I.tuple hq
    obtain ⟨f0, f1, f2, f3, f4, f5⟩ := hf it (by simp)
    have hl := rv.length
    have hn : its.toArray.size = i := by
      rw [List.size_toArray]
      omega
    have hst : s.heap.IsTupleIter it a its.toArray.size := by rw [hn]; exact hit
    exact wpAny_pyNext_enum_endD (Draws.tuple (A := X.A.in1) (show X.A.in1.handled = none from I.ok.hd hc) it a hna its.toArray) he ⟨hst, p⟩ fun h' eb => ⟨rfl, I.turned (t' := s.toks) (fun b o hb q => eb b o hb q) f0 f1 f3 f4 f5⟩
  self := fun A i s Q E st h => let ⟨⟨_, he⟩, _⟩ := st; wpAny_pyIter_enum he h

/-! ### iter(..) -/
section
variable {X : Cx} {tg : Expr}
/-- a list or a tuple -/
def iSeq (K : PySem.W.Frag) (tl : TE) : TI := fun σ H R => tl σ H fun x H1 => ∃ a, x = .ref a ∧ ((∃ xs, H1 a = some (.lst xs) ∧ R (Itl K a) H1) ∨ (∃ xs, H1 a = some (.tup xs) ∧ R (Itt K a) H1))
theorem pi_seq {l : Expr} {tl : TE} (hl : PE X l tl) : PI X tg l (iSeq X.K tl) := by
  refine ⟨fun pins s σ H R I h => ?_⟩
  refine thn (hl.run pins s σ H _ I h) fun v s1 ⟨x, H1, I1, r1, q1⟩ => ?_
  obtain ⟨a, e, ⟨xs, hq, q⟩ | ⟨xs, hq, q⟩⟩ := q1
  · subst e
    cases r1
    obtain ⟨its, rv, p, hz⟩ := I1.list (SqL.of hq)
    refine wpAny_pyIter_list p.isList ?_
    refine ⟨s1.heap.objs.size, [s1.heap.objs.size], _, _, H1, rfl, I1.kept (t' := s1.toks) fun b o e => Heap.get?_push_of_some _ e, turn_list a _, ⟨_, Heap.get?_push_size _ rfl, rfl, rfl⟩, fun b hb => ?_, q⟩
    have e : b = s1.heap.objs.size := by simpa using hb
    subst e
    exact I1.fpOk (Nat.le_refl _) (I1.hok.fresh (Nat.le_refl _))
  · subst e
    cases r1
    obtain ⟨its, rv, p, hz⟩ := I1.tuple (SqT.of hq)
    refine wpAny_pyIter_tuple (show s1.heap.IsTuple a its.toArray from p) ?_
    refine ⟨s1.heap.objs.size, [s1.heap.objs.size], _, _, H1, rfl, I1.kept (t' := s1.toks) fun b o e => Heap.get?_push_of_some _ e, turn_tuple a _, ⟨_, Heap.get?_push_size _ rfl, rfl, rfl⟩, fun b hb => ?_, q⟩
    have e : b = s1.heap.objs.size := by simpa using hb
    subst e
    exact I1.fpOk (Nat.le_refl _) (I1.hok.fresh (Nat.le_refl _))
def iEnumA (K : PySem.W.Frag) (ta : TA) : TI := fun σ H R => ta σ H fun vs H1 => ∃ a, vs = [.ref a] ∧ ((∃ xs, H1 a = some (.lst xs) ∧ R (Ite K a) H1) ∨ (∃ xs, H1 a = some (.tup xs) ∧ R (IteT K a) H1))
theorem pi_enumA {e : Expr} {ta : TA} {p pos tpos : Pos} {elts : List Expr} {kk : Nat} (hg : Gl X "enumerate") (hm : X.mg "enumerate" = none) (ha : PA X [e] ta) (hs : starEach [e] X.env = [(false, eval e X.env)]) :
    PI X (.Tuple elts kk tpos) (.Call (.Name "enumerate" p) [e] [] pos) (iEnumA X.K ta) := by
  refine ⟨fun pins s σ H R I h => ?_⟩
  refine Call_ (ld_blt I hg hm boot_enumerate (PyProof.Rows.callWith_type1 (thn (ha.run pos pins s σ H _ I h) fun us s1 ⟨vs, H1, I1, r1, q1⟩ => ?_) hs rfl))
  obtain ⟨a, ex, q⟩ := q1
  subst ex
  cases r1 with
  | cons r rr =>
    cases rr
    cases r
    have fr : ∀ b, b ∈ [s1.heap.objs.size + 1, s1.heap.objs.size] → FpOk X pins H1 b := fun b hb => by
      have e' : b = s1.heap.objs.size + 1 ∨ b = s1.heap.objs.size := by simpa using hb
      have hle : s1.heap.objs.size ≤ b := by
        rcases e' with z | z
        · rw [z]; exact Nat.le_add_right _ _
        · rw [z]; exact Nat.le_refl _
      exact I1.fpOk hle (I1.hok.fresh hle)
    rcases q with ⟨xs, hq, q⟩ | ⟨xs, hq, q⟩
    · obtain ⟨its, rv, p', hz⟩ := I1.list (SqL.of hq)
      refine call_enumerate_list p'.isList fun h' he hit hsz hk => wpAny_pyIter_enum he ?_
      have I2 : Inv X pins σ H1 { s1 with heap := h' } := I1.kept (t' := s1.toks) hk
      exact ⟨s1.heap.objs.size + 1, [s1.heap.objs.size + 1, s1.heap.objs.size], _, _, H1, rfl, I2, turn_enum a (s1.heap.objs.size + 1) s1.heap.objs.size, ⟨⟨.none, he⟩, hit, Nat.succ_ne_self _⟩, fr, q⟩
    · obtain ⟨its, rv, p', hz⟩ := I1.tuple (SqT.of hq)
      have hal : a ≠ s1.heap.objs.size := by
        obtain ⟨o, ho, _⟩ := id p'
        exact Nat.ne_of_lt (Heap.lt_size ho)
      refine mini_call_enum_tuple p' fun h' he hit hsz hk => wpAny_pyIter_enum he ?_
      have I2 : Inv X pins σ H1 { s1 with heap := h' } := I1.kept (t' := s1.toks) hk
      exact ⟨s1.heap.objs.size + 1, [s1.heap.objs.size + 1, s1.heap.objs.size], _, _, H1, rfl, I2, turn_enumT a (s1.heap.objs.size + 1) s1.heap.objs.size, ⟨⟨.none, he⟩, hit, Nat.succ_ne_self _, hal⟩, fr, q⟩
end

/-! ### walks of deep data -/
/-- what stays while it is walked: all that stood (rd), or what is fixed -/
def Rel (rd : Bool) (g : G) (H : Hp) (g2 : G) (H2 : Hp) : Prop := if rd then Evo g H g2 H2 else Ext g g2
theorem Rel.trans {rd : Bool} {g g1 g2 : G} {H H1 H2 : Hp} (a : Rel rd g H g1 H1) (b : Evo g1 H1 g2 H2) : Rel rd g H g2 H2 := by
  cases rd with
  | true => exact Evo.trans (show Evo g H g1 H1 from a) b
  | false => exact Ext.trans (show Ext g g1 from a) b.ext
theorem Rel.refl (rd : Bool) (g : G) (H : Hp) : Rel rd g H g H := by
  cases rd with
  | true => exact Evo.refl g H
  | false => exact Ext.refl g
structure WalkOf (K : PySem.W.Frag) (rd : Bool) (g : G) (H : Hp) (J : It) (ds : List D) : Prop where
  go : ∀ i g2 H2 S2, i < ds.length → Rel rd g H g2 H2 → Wok K g2 H2 S2 → J.go i H2
  stop : ∀ g2 H2 S2, Rel rd g H g2 H2 → Wok K g2 H2 S2 → J.stop ds.length H2
  yld : ∀ (i : Nat) d g2 H2 S2 x H3, ds[i]? = some d → Rel rd g H g2 H2 → Wok K g2 H2 S2 → J.yld i H2 x H3 → ∃ g3, Evo g2 H2 g3 H3 ∧ Wok K g3 H3 S2 ∧ RD K g3 x d
section
variable {K : PySem.W.Frag} {g : G} {H H0 : Hp} {S : Store}
/-- a list that is read (rd) or fixed -/
def Sd (K : PySem.W.Frag) (rd : Bool) (g : G) (H : Hp) (v : V) (d : D) : Prop := if rd then Rb K g H v d else RD K g v d
theorem Sd.lst {rd : Bool} {v : V} {ds : List D} (w : Wok K g H S) (h : Sd K rd g H v (.lst ds)) : ∃ a vs, v = .ref a ∧ H a = some (.lst vs) ∧ ∀ g2 H2 S2, Rel rd g H g2 H2 → Wok K g2 H2 S2 → H2 a = some (.lst vs) ∧ RDs K g2 vs ds := by
  cases rd with
  | true =>
    rcases (show Rb K g H v (.lst ds) from h) with h | ⟨a, vs, ds', e1, e2, e3, e4, e5⟩
    · cases h with
      | lst hh r => exact ⟨_, _, rfl, w.sub _ _ hh, fun g2 H2 S2 e w2 => ⟨w2.sub _ _ ((show Evo g H g2 H2 from e).ext.1 _ _ hh), r.mono (show Evo g H g2 H2 from e).ext⟩⟩
    · cases e2
      exact ⟨a, vs, e1, e3, fun g2 H2 S2 e w2 => ⟨(show Evo g H g2 H2 from e).keep _ _ e3 e5, e4.mono (show Evo g H g2 H2 from e).ext⟩⟩
  | false =>
    cases (show RD K g v (.lst ds) from h) with
    | lst hh r => exact ⟨_, _, rfl, w.sub _ _ hh, fun g2 H2 S2 e w2 => ⟨w2.sub _ _ ((show Ext g g2 from e).1 _ _ hh), r.mono (show Ext g g2 from e)⟩⟩
theorem Sd.tup {rd : Bool} {v : V} {ds : List D} (w : Wok K g H S) (h : Sd K rd g H v (.tup ds)) : ∃ a vs, v = .ref a ∧ H a = some (.tup vs) ∧ ∀ g2 H2 S2, Rel rd g H g2 H2 → Wok K g2 H2 S2 → H2 a = some (.tup vs) ∧ RDs K g2 vs ds := by
  cases rd with
  | true =>
    rcases (show Rb K g H v (.tup ds) from h) with h | ⟨a, vs, ds', e1, e2, e3, e4, e5⟩
    · cases h with
      | tup hh r => exact ⟨_, _, rfl, w.sub _ _ hh, fun g2 H2 S2 e w2 => ⟨w2.sub _ _ ((show Evo g H g2 H2 from e).ext.1 _ _ hh), r.mono (show Evo g H g2 H2 from e).ext⟩⟩
    · cases e2
  | false =>
    cases (show RD K g v (.tup ds) from h) with
    | tup hh r => exact ⟨_, _, rfl, w.sub _ _ hh, fun g2 H2 S2 e w2 => ⟨w2.sub _ _ ((show Ext g g2 from e).1 _ _ hh), r.mono (show Ext g g2 from e)⟩⟩
theorem Sd.int {rd : Bool} {v : V} {i : Int} (h : Sd K rd g H v (.int i)) : v = .int i := by
  cases rd with
  | true => exact Rb.int (show Rb K g H v (.int i) from h)
  | false => cases (show RD K g v (.int i) from h); rfl
theorem walk_lst {rd : Bool} {a : Addr} {vs : List V} {ds : List D} (h : ∀ g2 H2 S2, Rel rd g H g2 H2 → Wok K g2 H2 S2 → H2 a = some (.lst vs) ∧ RDs K g2 vs ds) : WalkOf K rd g H (Itl K a) ds := by
  refine ⟨fun i g2 H2 S2 hi e w => ?_, fun g2 H2 S2 e w => ?_, fun i d g2 H2 S2 x H3 hd e w y => ?_⟩
  · obtain ⟨h1, h2⟩ := h g2 H2 S2 e w
    have : i < vs.length := by rw [h2.length]; exact hi
    exact ⟨vs, vs[i], SqL.of h1, List.getElem?_eq_getElem this⟩
  · obtain ⟨h1, h2⟩ := h g2 H2 S2 e w
    exact ⟨vs, SqL.of h1, by rw [h2.length]; exact Nat.le_refl _⟩
  · obtain ⟨h1, h2⟩ := h g2 H2 S2 e w
    obtain ⟨rfl, y2⟩ := y
    obtain ⟨v, hv, hr⟩ := h2.get hd
    have := y2 vs (SqL.of h1)
    rw [hv] at this
    cases this
    exact ⟨g2, .refl _ _, w, hr⟩
theorem walk_tpl {rd : Bool} {a : Addr} {vs : List V} {ds : List D} (h : ∀ g2 H2 S2, Rel rd g H g2 H2 → Wok K g2 H2 S2 → H2 a = some (.tup vs) ∧ RDs K g2 vs ds) : WalkOf K rd g H (Itt K a) ds := by
  refine ⟨fun i g2 H2 S2 hi e w => ?_, fun g2 H2 S2 e w => ?_, fun i d g2 H2 S2 x H3 hd e w y => ?_⟩
  · obtain ⟨h1, h2⟩ := h g2 H2 S2 e w
    have : i < vs.length := by rw [h2.length]; exact hi
    exact ⟨vs, vs[i], SqT.of h1, List.getElem?_eq_getElem this⟩
  · obtain ⟨h1, h2⟩ := h g2 H2 S2 e w
    exact ⟨vs, SqT.of h1, by rw [h2.length]; exact Nat.le_refl _⟩
  · obtain ⟨h1, h2⟩ := h g2 H2 S2 e w
    obtain ⟨rfl, y2⟩ := y
    obtain ⟨v, hv, hr⟩ := h2.get hd
    have := y2 vs (SqT.of h1)
    rw [hv] at this
    cases this
    exact ⟨g2, .refl _ _, w, hr⟩
theorem walk_rngD {rd : Bool} {n : Int} : WalkOf K rd g H (Itr 0 n.toNat) (rngD n) := by
  have hl : (rngD n).length = n.toNat := by unfold rngD; rw [List.length_map, List.length_range]
  refine ⟨fun i g2 H2 S2 hi e w => by rw [hl] at hi; exact hi, fun g2 H2 S2 e w => by rw [hl]; exact Nat.le_refl _, fun i d g2 H2 S2 x H3 hd e w y => ?_⟩
  obtain ⟨rfl, rfl⟩ := y
  unfold rngD at hd
  rw [List.getElem?_map] at hd
  obtain ⟨j, hj, rfl⟩ := Option.map_eq_some_iff.mp hd
  obtain ⟨hj1, hj2⟩ := List.getElem?_eq_some_iff.mp hj
  rw [List.getElem_range] at hj2
  subst hj2
  refine ⟨g2, .refl _ _, w, ?_⟩
  rw [Int.zero_add]
  exact .int _
/-- a new pair -/
theorem new_pair {g2 : G} {H2 : Hp} {S2 : Store} (w : Wok K g2 H2 S2) {T : Addr} (hT : H2 T = none) {x y : V} {dx dy : D} (hx : RD K g2 x dx) (hy : RD K g2 y dy) :
    ∃ g3, Evo g2 H2 g3 (upd H2 T (.tup [x, y])) ∧ Wok K g3 (upd H2 T (.tup [x, y])) S2 ∧ RD K g3 (.ref T) (.tup [dx, dy]) := by
  obtain ⟨w', e⟩ := w.newFz (o := .tup [x, y]) hT
  exact ⟨_, e, w', .tup upd_same (.cons (hx.mono e.ext) (.cons (hy.mono e.ext) .nil))⟩
theorem enm_get {ds : List D} {i : Nat} {d : D} (h : ((List.range ds.length).zipWith (fun i d => D.tup [.int (i : Nat), d]) ds)[i]? = some d) : ∃ x, ds[i]? = some x ∧ d = .tup [.int (i : Nat), x] := by
  rw [List.getElem?_zipWith] at h
  split at h
  · rename_i a b h1 h2
    obtain ⟨hj1, hj2⟩ := List.getElem?_eq_some_iff.mp h1
    rw [List.getElem_range] at hj2
    subst hj2
    cases h
    exact ⟨b, h2, rfl⟩
  · cases h
theorem enm_len {ds : List D} : ((List.range ds.length).zipWith (fun i d => D.tup [.int (i : Nat), d]) ds).length = ds.length := by
  rw [List.length_zipWith, List.length_range, Nat.min_self]
theorem walk_enmL {rd : Bool} {a : Addr} {vs : List V} {ds : List D} (h : ∀ g2 H2 S2, Rel rd g H g2 H2 → Wok K g2 H2 S2 → H2 a = some (.lst vs) ∧ RDs K g2 vs ds) : WalkOf K rd g H (Ite K a) ((List.range ds.length).zipWith (fun i d => D.tup [.int (i : Nat), d]) ds) := by
  refine ⟨fun i g2 H2 S2 hi e w => ?_, fun g2 H2 S2 e w => ?_, fun i d g2 H2 S2 x H3 hd e w y => ?_⟩
  · obtain ⟨h1, h2⟩ := h g2 H2 S2 e w
    rw [enm_len] at hi
    have : i < vs.length := by rw [h2.length]; exact hi
    exact ⟨vs, vs[i], SqL.of h1, List.getElem?_eq_getElem this⟩
  · obtain ⟨h1, h2⟩ := h g2 H2 S2 e w
    exact ⟨vs, SqL.of h1, by rw [h2.length, enm_len]; exact Nat.le_refl _⟩
  · obtain ⟨h1, h2⟩ := h g2 H2 S2 e w
    obtain ⟨T, x', rfl, hT, rfl, y2⟩ := y
    obtain ⟨z, hz, rfl⟩ := enm_get hd
    obtain ⟨v, hv, hr⟩ := h2.get hz
    have := y2 vs (SqL.of h1)
    rw [hv] at this
    cases this
    exact new_pair w hT (.int _) hr
theorem walk_enmT {rd : Bool} {a : Addr} {vs : List V} {ds : List D} (h : ∀ g2 H2 S2, Rel rd g H g2 H2 → Wok K g2 H2 S2 → H2 a = some (.tup vs) ∧ RDs K g2 vs ds) : WalkOf K rd g H (IteT K a) ((List.range ds.length).zipWith (fun i d => D.tup [.int (i : Nat), d]) ds) := by
  refine ⟨fun i g2 H2 S2 hi e w => ?_, fun g2 H2 S2 e w => ?_, fun i d g2 H2 S2 x H3 hd e w y => ?_⟩
  · obtain ⟨h1, h2⟩ := h g2 H2 S2 e w
    rw [enm_len] at hi
    have : i < vs.length := by rw [h2.length]; exact hi
    exact ⟨vs, vs[i], SqT.of h1, List.getElem?_eq_getElem this⟩
  · obtain ⟨h1, h2⟩ := h g2 H2 S2 e w
    exact ⟨vs, SqT.of h1, by rw [h2.length, enm_len]⟩
  · obtain ⟨h1, h2⟩ := h g2 H2 S2 e w
    obtain ⟨T, x', rfl, hT, rfl, y2⟩ := y
    obtain ⟨z, hz, rfl⟩ := enm_get hd
    obtain ⟨v, hv, hr⟩ := h2.get hz
    have := y2 vs (SqT.of h1)
    rw [hv] at this
    cases this
    exact new_pair w hT (.int _) hr
theorem zip_get {ds es : List D} {i : Nat} {d : D} (h : (ds.zipWith (fun x y => D.tup [x, y]) es)[i]? = some d) : ∃ x y, ds[i]? = some x ∧ es[i]? = some y ∧ d = .tup [x, y] := by
  rw [List.getElem?_zipWith] at h
  split at h
  · rename_i a b h1 h2
    cases h
    exact ⟨a, b, h1, h2, rfl⟩
  · cases h
theorem walk_zpL {rd : Bool} {a b : Addr} {vs us : List V} {ds es : List D} (h : ∀ g2 H2 S2, Rel rd g H g2 H2 → Wok K g2 H2 S2 → H2 a = some (.lst vs) ∧ RDs K g2 vs ds) (h' : ∀ g2 H2 S2, Rel rd g H g2 H2 → Wok K g2 H2 S2 → H2 b = some (.lst us) ∧ RDs K g2 us es) :
    WalkOf K rd g H (Itz K a b) (ds.zipWith (fun x y => D.tup [x, y]) es) := by
  refine ⟨fun i g2 H2 S2 hi e w => ?_, fun g2 H2 S2 e w => ?_, fun i d g2 H2 S2 x H3 hd e w y => ?_⟩
  · obtain ⟨h1, h2⟩ := h g2 H2 S2 e w
    obtain ⟨h3, h4⟩ := h' g2 H2 S2 e w
    rw [List.length_zipWith] at hi
    have i1 : i < vs.length := by rw [h2.length]; omega
    have i2 : i < us.length := by rw [h4.length]; omega
    exact ⟨vs, us, vs[i], us[i], SqL.of h1, SqL.of h3, List.getElem?_eq_getElem i1, List.getElem?_eq_getElem i2⟩
  · obtain ⟨h1, h2⟩ := h g2 H2 S2 e w
    obtain ⟨h3, h4⟩ := h' g2 H2 S2 e w
    refine ⟨vs, us, SqL.of h1, SqL.of h3, ?_⟩
    rw [List.length_zipWith, h2.length, h4.length]
    omega
  · obtain ⟨h1, h2⟩ := h g2 H2 S2 e w
    obtain ⟨h3, h4⟩ := h' g2 H2 S2 e w
    obtain ⟨T, x', y', rfl, hT, rfl, y2, y3⟩ := y
    obtain ⟨z, z', hz, hz', rfl⟩ := zip_get hd
    obtain ⟨v, hv, hr⟩ := h2.get hz
    obtain ⟨u, hu, hr'⟩ := h4.get hz'
    have := y2 vs (SqL.of h1)
    rw [hv] at this
    cases this
    have := y3 us (SqL.of h3)
    rw [hu] at this
    cases this
    exact new_pair w hT hr hr'
theorem walk_zpT {rd : Bool} {a b : Addr} {vs us : List V} {ds es : List D} (h : ∀ g2 H2 S2, Rel rd g H g2 H2 → Wok K g2 H2 S2 → H2 a = some (.tup vs) ∧ RDs K g2 vs ds) (h' : ∀ g2 H2 S2, Rel rd g H g2 H2 → Wok K g2 H2 S2 → H2 b = some (.tup us) ∧ RDs K g2 us es) :
    WalkOf K rd g H (RZ.ItzT K a b) (ds.zipWith (fun x y => D.tup [x, y]) es) := by
  refine ⟨fun i g2 H2 S2 hi e w => ?_, fun g2 H2 S2 e w => ?_, fun i d g2 H2 S2 x H3 hd e w y => ?_⟩
  · obtain ⟨h1, h2⟩ := h g2 H2 S2 e w
    obtain ⟨h3, h4⟩ := h' g2 H2 S2 e w
    rw [List.length_zipWith] at hi
    have i1 : i < vs.length := by rw [h2.length]; omega
    have i2 : i < us.length := by rw [h4.length]; omega
    exact ⟨vs, us, vs[i], us[i], SqT.of h1, SqT.of h3, List.getElem?_eq_getElem i1, List.getElem?_eq_getElem i2⟩
  · obtain ⟨h1, h2⟩ := h g2 H2 S2 e w
    obtain ⟨h3, h4⟩ := h' g2 H2 S2 e w
    refine ⟨vs, us, SqT.of h1, SqT.of h3, ?_⟩
    rw [List.length_zipWith, h2.length, h4.length]
    omega
  · obtain ⟨h1, h2⟩ := h g2 H2 S2 e w
    obtain ⟨h3, h4⟩ := h' g2 H2 S2 e w
    obtain ⟨T, x', y', rfl, hT, rfl, y2, y3⟩ := y
    obtain ⟨z, z', hz, hz', rfl⟩ := zip_get hd
    obtain ⟨v, hv, hr⟩ := h2.get hz
    obtain ⟨u, hu, hr'⟩ := h4.get hz'
    have := y2 vs (SqT.of h1)
    rw [hv] at this
    cases this
    have := y3 us (SqT.of h3)
    rw [hu] at this
    cases this
    exact new_pair w hT hr hr'
end
end Mini
/-! SoundH: targets, what is walked, comprehensions. -/
namespace Mini
open PySem PySem.Spec PyProof.Rows L2

/-! ### slots -/
section
variable {K : PySem.W.Frag} {g g' : G} {H H' H0 : Hp} {S : Store} {env : Env} {σ : L2.St} {v : V} {d : D}
theorem EnvOk.setR (en : EnvOk K H0 g H env σ) (i : Nat) {r : Rv} (h : RvS K H0 g H v r) (hn : ∀ xs, r = .ow xs → ∀ (j : Nat) ys, j ≠ i → env[j]? = some (some (.ow ys)) → σ[j]? ≠ some (some v)) : EnvOk K H0 g H (env.set i (some r)) (σ.set i (some v)) := by
  refine ⟨by rw [List.length_set, List.length_set]; exact en.len, fun j q e => ?_, fun j k a xs ys hjk h1 h2 h3 h4 => ?_⟩
  · by_cases hj : j = i
    · subst hj
      have hl : j < env.length := by
        have := (List.getElem?_eq_some_iff.mp e).1
        rwa [List.length_set] at this
      rw [List.getElem?_set_self hl] at e
      cases e
      exact ⟨v, by rw [List.getElem?_set_self (by rw [← en.len]; exact hl)], h⟩
    · rw [List.getElem?_set_ne (Ne.symm hj)] at e
      obtain ⟨u, h1, h2⟩ := en.slot j q e
      exact ⟨u, by rw [List.getElem?_set_ne (Ne.symm hj)]; exact h1, h2⟩
  · by_cases hj : j = i
    · subst hj
      have hl : j < env.length := by
        have := (List.getElem?_eq_some_iff.mp h1).1
        rwa [List.length_set] at this
      rw [List.getElem?_set_self hl] at h1
      cases h1
      rw [List.getElem?_set_self (by rw [← en.len]; exact hl)] at h3
      cases h3
      rw [List.getElem?_set_ne hjk] at h2 h4
      exact hn xs rfl k ys (Ne.symm hjk) h2 h4
    · rw [List.getElem?_set_ne (Ne.symm hj)] at h1 h3
      by_cases hk : k = i
      · subst hk
        have hl : k < env.length := by
          have := (List.getElem?_eq_some_iff.mp h2).1
          rwa [List.length_set] at this
        rw [List.getElem?_set_self hl] at h2
        cases h2
        rw [List.getElem?_set_self (by rw [← en.len]; exact hl)] at h4
        cases h4
        exact hn ys rfl j xs hjk h1 h3
      · rw [List.getElem?_set_ne (Ne.symm hk)] at h2 h4
        exact en.apart j k a xs ys hjk h1 h2 h3 h4
theorem EnvOk.setF (en : EnvOk K H0 g H env σ) (i : Nat) (h : RD K g v d) : EnvOk K H0 g H (env.set i (some (.fz d))) (σ.set i (some v)) :=
  en.setR (r := .fz d) i h fun _ e => nomatch e
theorem EnvOk.clr (en : EnvOk K H0 g H env σ) (i : Nat) : EnvOk K H0 g H (env.set i none) (σ.set i none) := by
  refine ⟨by rw [List.length_set, List.length_set]; exact en.len, fun j q e => ?_, fun j k a xs ys hjk h1 h2 h3 h4 => ?_⟩
  · by_cases hj : j = i
    · subst hj
      have hl : j < env.length := by
        have := (List.getElem?_eq_some_iff.mp e).1
        rwa [List.length_set] at this
      rw [List.getElem?_set_self hl] at e
      cases e
    · rw [List.getElem?_set_ne (Ne.symm hj)] at e
      obtain ⟨u, h1, h2⟩ := en.slot j q e
      exact ⟨u, by rw [List.getElem?_set_ne (Ne.symm hj)]; exact h1, h2⟩
  · have ne : ∀ (m : Nat) {zs : List D}, (env.set i none)[m]? = some (some (.ow zs)) → m ≠ i := fun m zs e z => by
      subst z
      have hl : m < env.length := by
        have := (List.getElem?_eq_some_iff.mp e).1
        rwa [List.length_set] at this
      rw [List.getElem?_set_self hl] at e
      cases e
    have hj := ne j h1
    have hk := ne k h2
    rw [List.getElem?_set_ne (Ne.symm hj)] at h1 h3
    rw [List.getElem?_set_ne (Ne.symm hk)] at h2 h4
    exact en.apart j k a xs ys hjk h1 h2 h3 h4
theorem EnvOk.wipe (en : EnvOk K H0 g H env σ) : ∀ is : List Nat, EnvOk K H0 g H (wipeE env is) (L2.wipe σ is)
  | [] => en
  | i :: is => (EnvOk.wipe en is).clr i
end
mutual
def Tg.slots : Tg → List Nat
  | .nm i => [i]
  | .tp ts => Tg.slotss ts
def Tg.slotss : List Tg → List Nat
  | [] => []
  | t :: ts => Tg.slots t ++ Tg.slotss ts
end
theorem wipe_at (τ : L2.St) (is : List Nat) (j : Nat) : (L2.wipe τ is)[j]? = if j ∈ is ∧ j < τ.length then some none else τ[j]? := by
  induction is with
  | nil => simp [L2.wipe]
  | cons i is ih =>
    unfold L2.wipe
    by_cases hij : i = j
    · subst hij
      by_cases hlt : i < τ.length
      · rw [List.getElem?_set_self (by rw [wipe_length]; exact hlt)]
        simp [hlt]
      · rw [List.getElem?_eq_none (by rw [List.length_set, wipe_length]; omega)]
        simp [hlt]
    · rw [List.getElem?_set_ne hij, ih]
      simp [Ne.symm hij]
theorem wipe_get {τ : L2.St} {is : List Nat} {j : Nat} (h : j ∉ is) : (L2.wipe τ is)[j]? = τ[j]? := by
  rw [wipe_at]
  simp [h]
theorem wipe_eq {σ σ' : L2.St} {is : List Nat} (hl : σ'.length = σ.length) (h : ∀ j, j ∉ is → σ'[j]? = σ[j]?) : L2.wipe σ' is = L2.wipe σ is := by
  refine List.ext_getElem? fun j => ?_
  rw [wipe_at, wipe_at, hl]
  by_cases hm : j ∈ is
  · by_cases hlt : j < σ.length
    · simp [hm, hlt]
    · simp only [hm, hlt, and_false, if_false]
      rw [List.getElem?_eq_none (by omega), List.getElem?_eq_none (by omega)]
  · simp only [hm, false_and, if_false]
    exact h j hm

/-! ### targets -/
def semG (W : Wd) (t : Tg) : TG := fun v σ H Q => ∃ H0 g env S d env', Wok W.K g H S ∧ EnvOk W.K H0 g H env σ ∧ RD W.K g v d ∧ bindTg t d env = some env' ∧
  ∀ σ', EnvOk W.K H0 g H env' σ' → σ'.length = σ.length → (∀ j, j ∉ t.slots → σ'[j]? = σ[j]?) → Q σ' H
def semGs (W : Wd) (ts : List Tg) : TGs := fun vs σ H Q => ∃ H0 g env S ds env', Wok W.K g H S ∧ EnvOk W.K H0 g H env σ ∧ RDs W.K g vs ds ∧ bindTgs ts ds env = some env' ∧
  ∀ σ', EnvOk W.K H0 g H env' σ' → σ'.length = σ.length → (∀ j, j ∉ Tg.slotss ts → σ'[j]? = σ[j]?) → Q σ' H
theorem PG.imp {X : Cx} {e : Expr} {t t' : TG} (h : PG X e t) (w : ∀ v σ H Q, t' v σ H Q → t v σ H Q) : PG X e t' := ⟨fun pins s σ H v u Q I r hw => h.run pins s σ H v u Q I r (w _ _ _ _ hw)⟩
theorem PGs.imp {X : Cx} {e : List Expr} {t t' : TGs} (h : PGs X e t) (w : ∀ v σ H Q, t' v σ H Q → t v σ H Q) : PGs X e t' := ⟨fun pins s σ H v u Q I r hw => h.run pins s σ H v u Q I r (w _ _ _ _ hw)⟩
/-- a target's form: a name, a tuple of such -/
def isTgt : Expr → Bool
  | .Name .. | .Tuple .. => true
  | _ => false
structure SG (W : Wd) (c : Ct) (e : Expr) (t : Tg) : Prop where
  val : ∀ X, XOk W c X → PG X e (semG W t)
  shape : isTgt e = true
structure SGs (W : Wd) (c : Ct) (es : List Expr) (ts : List Tg) : Prop where
  val : ∀ X, XOk W c X → PGs X es (semGs W ts)
  each : ∀ env : PySem.Env, (assignEach es env).length = es.length ∧ (assignEach es env).findIdx? (·.1) = none
  len : es.length = ts.length
/-- a name that may be stored here -/
def isLoc (c : Ct) (x : Str) : Bool := c.sc.names.lookup x == some .local || (c.sc.names.lookup x == some .cell && c.fn x)
section
variable {W : Wd} {c : Ct}
theorem loc_of {X : Cx} (x : XOk W c X) {n : Str} (h : isLoc c n = true) : Loc X.env.scope n ∧ (X.fn n = true ∨ X.env.scope.names.lookup n = some .local) := by
  unfold isLoc at h
  rw [Bool.or_eq_true, Bool.and_eq_true] at h
  rw [x.sc, x.fn]
  rcases h with h | ⟨h1, h2⟩
  · have h : c.sc.names.lookup n = some .local := by simpa using h
    exact ⟨.inl h, .inr h⟩
  · have h1 : c.sc.names.lookup n = some .cell := by simpa using h1
    exact ⟨.inr h1, .inl h2⟩
theorem sg_name {n : Str} {i : Nat} {pos : Pos} (hN : c.N.Nodup) (hi : c.N[i]? = some n) (hl : isLoc c n = true) : SG W c (.Name n pos) (.nm i) := by
  refine ⟨fun X x => PG.imp (pg_name (i := i) (by rw [x.N]; exact hN) (by rw [x.N]; exact hi) (loc_of x hl).1 (loc_of x hl).2) fun v σ H Q q => ?_, rfl⟩
  obtain ⟨H0, g, env, S, d, env', wk, en, r, e, q⟩ := q
  cases e
  refine q _ (en.setF i r) (List.length_set ..) fun j hj => ?_
  have hj : ¬ j ∈ [i] := hj
  rw [List.mem_singleton] at hj
  rw [List.getElem?_set_ne (Ne.symm hj)]
theorem sgs_nil : SGs W c [] [] := by
  refine ⟨fun X x => PGs.imp pgs_nil fun v σ H Q q => ?_, fun _ => ⟨rfl, rfl⟩, rfl⟩
  obtain ⟨H0, g, env, S, d, env', wk, en, r, e, q⟩ := q
  cases r with
  | nil =>
    cases e
    exact ⟨rfl, q σ en rfl fun _ _ => rfl⟩
  | cons _ _ => cases e
theorem each_cons {e : Expr} {es : List Expr} {env : PySem.Env} (h : isTgt e = true) : assignEach (e :: es) env = (false, assign e env) :: assignEach es env := by
  cases e <;> first | rfl | cases h
theorem sgs_cons {e : Expr} {es : List Expr} {t : Tg} {ts : List Tg} (h : SG W c e t) (hr : SGs W c es ts) : SGs W c (e :: es) (t :: ts) := by
  refine ⟨fun X x => PGs.imp (pgs_cons (h.val X x) (hr.val X x) (by rw [each_cons h.shape]; rfl)) fun v σ H Q q => ?_, fun env => ?_, by rw [List.length_cons, List.length_cons, hr.len]⟩
  · obtain ⟨H0, g, env, S, ds, env', wk, en, r, e, q⟩ := q
    cases r with
    | nil => cases e
    | cons r1 r2 =>
      rename_i v vs d ds
      have e : (match bindTg t d env with | some env' => bindTgs ts ds env' | none => none) = some env' := e
      split at e
      · rename_i env1 e1
        refine ⟨v, vs, rfl, H0, g, env, S, d, env1, wk, en, r1, e1, fun σ1 en1 l1 o1 => ?_⟩
        refine ⟨H0, g, env1, S, ds, env', wk, en1, r2, e, fun σ2 en2 l2 o2 => q σ2 en2 (l2.trans l1) fun j hj => ?_⟩
        have hj : ¬ j ∈ t.slots ++ Tg.slotss ts := hj
        rw [List.mem_append, not_or] at hj
        rw [o2 j hj.2, o1 j hj.1]
      · cases e
  · obtain ⟨h1, h2⟩ := hr.each env
    rw [each_cons h.shape]
    exact ⟨by rw [List.length_cons, List.length_cons, h1], by rw [List.findIdx?_cons]; simp [h2]⟩
theorem bindTgs_len : ∀ {ts : List Tg} {ds : List D} {env env' : Env}, bindTgs ts ds env = some env' → ds.length = ts.length
  | [], [], _, _, _ => rfl
  | t :: ts, d :: ds, env, env', h => by
    have h : (match bindTg t d env with | some env' => bindTgs ts ds env' | none => none) = some env' := h
    split at h
    · rw [List.length_cons, List.length_cons, bindTgs_len h]
    · cases h
  | [], _ :: _, _, _, h => by cases h
  | _ :: _, [], _, _, h => by cases h
theorem sg_tup {es : List Expr} {ts : List Tg} {k : Nat} {pos : Pos} (h : SGs W c es ts) : SG W c (.Tuple es k pos) (.tp ts) := by
  refine ⟨fun X x => PG.imp (pg_tup (n := es.length) x.calm (h.val X x) (h.each X.env).1 (h.each X.env).2) fun v σ H Q q => ?_, rfl⟩
  obtain ⟨H0, g, env, S, d, env', wk, en, r, e, q⟩ := q
  cases d with
  | tup ds =>
    cases r with
    | tup hh r =>
      rename_i a vs
      have e : bindTgs ts ds env = some env' := e
      exact ⟨a, vs, rfl, SqT.of (wk.sub _ _ hh), by rw [r.length, bindTgs_len e, h.len], H0, g, env, S, ds, env', wk, en, r, e, q⟩
  | _ => cases e
end

/-! ### what a for or a comprehension walks -/
def semI (W : Wd) (E : XK) (rd : Bool) (p : Src) : TI := fun σ H R => ∃ H0 g env S, Wok W.K g H S ∧ EnvOk W.K H0 g H env σ ∧
  WP (evalIt W.cs rd p env S) (fun ds S' => ∀ g' H' J, Evo g H g' H' → Wok W.K g' H' S' → EnvOk W.K H0 g' H' env σ → WalkOf W.K rd g' H' J ds → R J H') (QX W.K W.cl E g H)
theorem PI.imp {X : Cx} {tg iter : Expr} {t t' : TI} (h : PI X tg iter t) (w : ∀ σ H R, t' σ H R → t σ H R) : PI X tg iter t' := ⟨fun pins s σ H R I hw => h.run pins s σ H R I (w _ _ _ hw)⟩
structure SI (W : Wd) (c : Ct) (rd : Bool) (tg iter : Expr) (p : Src) : Prop where
  val : ∀ X, XOk W c X → PI X tg iter (semI W c.E rd p)
section
variable {W : Wd} {c : Ct}
theorem sd_of {K : PySem.W.Frag} {rd : Bool} {g g1 : G} {H H1 H0 : Hp} {S1 : Store} {env : Env} {σ : L2.St} {v : V} {r : Rv} (en : EnvOk K H0 g H env σ) (e : Evo g H g1 H1) (w : Wok K g1 H1 S1) (x : Res K rd H g1 H1 v r) :
    ∃ g', Evo g H g' H1 ∧ Wok K g' H1 S1 ∧ EnvOk K H0 g' H1 env σ ∧ Sd K rd g' H1 v r.d := by
  cases rd with
  | true => exact ⟨g1, e, w, en.evo e, RvR.rb (show RvR K g1 H1 v r from x)⟩
  | false =>
    obtain ⟨g', h1, h2, h3, h4, _⟩ := freeze1 en e w (show RvS K H g1 H1 v r from x)
    exact ⟨g', h1, h2, h3, h4⟩
theorem Sd.evo {K : PySem.W.Frag} {rd : Bool} {g g' : G} {H H' : Hp} {v : V} {d : D} (e : Evo g H g' H') (h : Sd K rd g H v d) : Sd K rd g' H' v d := by
  cases rd with
  | true => exact Rb.evo e (show Rb K g H v d from h)
  | false => exact RD.mono e.ext (show RD K g v d from h)
theorem wp_k {α β : Type} {m : M α} {f : α → M β} {S : Store} {Q : β → Store → Prop} {X : Nat → Store → Prop} {Q' : α → Store → Prop} (h : WP (M.bnd m f S) Q X) (k : ∀ a S', WP (f a S') Q X → Q' a S') : WP (m S) Q' X := (WP.bnd h).mono k fun _ _ h => h
theorem si_val {rd : Bool} {tg e : Expr} {p : Ep} (h : SE W c e p) : SI W c rd tg e (.val p) := by
  refine ⟨fun X x => PI.imp (pi_seq (h.val rd X x)) fun σ H R q => ?_⟩
  obtain ⟨H0, g, env, S, wk, en, w⟩ := q
  refine ⟨H0, g, env, S, wk, en, wp_k w fun r S1 w1 v g1 H1 e1 wk1 x1 => ?_⟩
  obtain ⟨g', e', wk', en', sd⟩ := sd_of en e1 wk1 x1
  obtain ⟨ds, h1, h2⟩ := WP.opt w1
  cases hd : r.d with
  | tup xs =>
    rw [hd] at sd h1
    cases h1
    obtain ⟨a, vs, rfl, ha, hw⟩ := sd.tup wk'
    exact ⟨a, rfl, .inr ⟨vs, ha, by rw [x.K]; exact h2 g' H1 _ e' wk' en' (walk_tpl hw)⟩⟩
  | lst xs =>
    rw [hd] at sd h1
    cases h1
    obtain ⟨a, vs, rfl, ha, hw⟩ := sd.lst wk'
    exact ⟨a, rfl, .inl ⟨vs, ha, by rw [x.K]; exact h2 g' H1 _ e' wk' en' (walk_lst hw)⟩⟩
  | _ => rw [hd] at h1; cases h1
theorem si_rng {rd : Bool} {tg e : Expr} {p : Ep} {p1 pos : Pos} (hg : isGl c.sc "range" = true) (hm : W.mg "range" = none) (hs : notStar e = true) (h : SE W c e p) : SI W c rd tg (.Call (.Name "range" p1) [e] [] pos) (.rng p) := by
  refine ⟨fun X x => PI.imp (pi_range1 (gl_of x hg) (by rw [x.mg]; exact hm) (pa_cons (h.val rd X x) pa_nil (star_eq hs)) (by rw [star_eq hs]; rfl)) fun σ H R q => ?_⟩
  obtain ⟨H0, g, env, S, wk, en, w⟩ := q
  refine ⟨H0, g, env, S, wk, en, wp_k w fun r S1 w1 v g1 H1 e1 wk1 x1 => ?_⟩
  obtain ⟨g', e', wk', en', sd⟩ := sd_of en e1 wk1 x1
  obtain ⟨ds, h1, h2⟩ := WP.opt w1
  unfold rngO at h1
  split at h1 <;> first | (cases h1; done) | skip
  rename_i n hd
  rw [hd] at sd
  obtain ⟨ho, h1⟩ := Option.ite_none_right_eq_some.mp h1
  cases h1
  obtain ⟨o1, o2⟩ := okRng_of ho
  have := sd.int
  subst this
  exact ⟨n, rfl, o1, by omega, h2 g' H1 _ e' wk' en' walk_rngD⟩
theorem si_enum {rd : Bool} {e : Expr} {elts : List Expr} {kk : Nat} {p : Ep} {p1 pos tpos : Pos} (hg : isGl c.sc "enumerate" = true) (hm : W.mg "enumerate" = none) (hs : notStar e = true) (h : SE W c e p) :
    SI W c rd (.Tuple elts kk tpos) (.Call (.Name "enumerate" p1) [e] [] pos) (.enum p) := by
  refine ⟨fun X x => PI.imp (pi_enumA (gl_of x hg) (by rw [x.mg]; exact hm) (pa_cons (h.val rd X x) pa_nil (star_eq hs)) (by rw [star_eq hs]; rfl)) fun σ H R q => ?_⟩
  obtain ⟨H0, g, env, S, wk, en, w⟩ := q
  refine ⟨H0, g, env, S, wk, en, wp_k w fun r S1 w1 v g1 H1 e1 wk1 x1 => ?_⟩
  obtain ⟨g', e', wk', en', sd⟩ := sd_of en e1 wk1 x1
  obtain ⟨ds, h1, h2⟩ := WP.opt w1
  obtain ⟨xs, hx, rfl⟩ := Option.map_eq_some_iff.mp (show (items r.d).map _ = some ds from h1)
  cases hd : r.d with
  | tup xs =>
    rw [hd] at sd hx
    cases hx
    obtain ⟨a, vs, rfl, ha, hw⟩ := sd.tup wk'
    exact ⟨a, rfl, .inr ⟨vs, ha, by rw [x.K]; exact h2 g' H1 _ e' wk' en' (walk_enmT hw)⟩⟩
  | lst xs =>
    rw [hd] at sd hx
    cases hx
    obtain ⟨a, vs, rfl, ha, hw⟩ := sd.lst wk'
    exact ⟨a, rfl, .inl ⟨vs, ha, by rw [x.K]; exact h2 g' H1 _ e' wk' en' (walk_enmL hw)⟩⟩
  | _ => rw [hd] at hx; cases hx
theorem si_zip {rd : Bool} {e e2 : Expr} {elts : List Expr} {kk : Nat} {p p' : Ep} {p1 pos tpos : Pos} (hg : isGl c.sc "zip" = true) (hm : W.mg "zip" = none) (hs : notStar e = true) (hs2 : notStar e2 = true) (h : SE W c e p) (h' : SE W c e2 p') :
    SI W c rd (.Tuple elts kk tpos) (.Call (.Name "zip" p1) [e, e2] [] pos) (.zip p p') := by
  refine ⟨fun X x => PI.imp (RZ.pi_zipA (gl_of x hg) (by rw [x.mg]; exact hm) (pa_cons (h.val rd X x) (pa_cons (h'.val rd X x) pa_nil (star_eq hs2)) (star_eq hs)) (star_eq hs) (stars_plain (by simp [hs2]))) fun σ H R q => ?_⟩
  obtain ⟨H0, g, env, S, wk, en, w⟩ := q
  refine ⟨H0, g, env, S, wk, en, wp_k w fun r S1 w1 v g1 H1 e1 wk1 x1 => ?_⟩
  obtain ⟨g', e', wk', en', sd⟩ := sd_of en e1 wk1 x1
  have w1 := WP.bnd w1
  refine ⟨H0, g', env, S1, wk', en', w1.mono (fun r2 S2 w2 v2 g2 H2 e2 wk2 x2 => ?_) fun n S2 q g2 H2 e2 wk2 => q g2 H2 (e'.trans e2) wk2⟩
  obtain ⟨g2', e2', wk2', en2', sd2⟩ := sd_of en' e2 wk2 x2
  have sd1 := sd.evo e2'
  obtain ⟨ds, h1, h2⟩ := WP.opt w2
  unfold zipO at h1
  split at h1 <;> first | (cases h1; done) | skip
  · rename_i xs ys hd hd2
    cases h1
    rw [hd] at sd1
    rw [hd2] at sd2
    obtain ⟨a, vs, rfl, ha, hw⟩ := sd1.lst wk2'
    obtain ⟨b, us, rfl, hb, hw2⟩ := sd2.lst wk2'
    exact ⟨a, b, vs, us, rfl, .inl ⟨SqL.of ha, SqL.of hb, by rw [x.K]; exact h2 g2' H2 _ (e'.trans e2') wk2' en2' (walk_zpL hw hw2)⟩⟩
  · rename_i xs ys hd hd2
    cases h1
    rw [hd] at sd1
    rw [hd2] at sd2
    obtain ⟨a, vs, rfl, ha, hw⟩ := sd1.tup wk2'
    obtain ⟨b, us, rfl, hb, hw2⟩ := sd2.tup wk2'
    exact ⟨a, b, vs, us, rfl, .inr ⟨SqT.of ha, SqT.of hb, by rw [x.K]; exact h2 g2' H2 _ (e'.trans e2') wk2' en2' (walk_zpT hw hw2)⟩⟩

/-! ### comprehensions -/
structure SC (W : Wd) (c : Ct) (ifs : List Expr) (p : Oep) : Prop where
  val : ∀ X, XOk W c X → PTs X ifs (sem W c.E RBo fun env => evalC W.cs p env)
theorem PTs.imp {X : Cx} {e : List Expr} {t t' : TT} (h : PTs X e t) (w : ∀ σ H Q, t' σ H Q → t σ H Q) : PTs X e t' := ⟨fun pins s σ H Q I hw => h.run pins s σ H Q I (w _ _ _ hw)⟩
theorem sc_no : SC W c [] .no := by
  refine ⟨fun X x => PTs.imp pts_nil fun σ H Q q => ?_⟩
  obtain ⟨H0, g, env, S, wk, en, w⟩ := q
  exact w true g H (.refl _ _) wk rfl
theorem sc_yes {e : Expr} {p : Ep} (h : SE W c e p) : SC W c [e] (.yes p) := ⟨fun X x => pts_one (h.tst X x)⟩
/-- a block's context -/
def blkT (c : Ct) (scope : Scope) : Ct := ⟨c.N, relS scope c.sc, fun x => scope.names.lookup x == some .cell, E0⟩
theorem blk_ok {X : Cx} (x : XOk W c X) {s : Shared} {H : Hp} {scope : Scope} {C : Addr} {cl : List (Str × Addr)} {fp : List Addr} : XOk W (blkT c scope) (X.blk s H scope (compEnvC scope cl C X.env) fp) := by
  refine ⟨x.prog, x.w, x.K, x.mg, x.base, x.N, ?_, rfl, x.calm, x.room, takes0⟩
  show relS scope X.env.scope = relS scope c.sc
  rw [x.sc]
theorem Evo.stayF {g g' : G} {H H' : Hp} (e : Evo g H g' H') {a : Addr} {o : HO} (h : H a = some o) (hf : g.F a = none) (hc : a ∉ g.C) : g'.F a = none ∧ a ∉ g'.C ∧ H' a = some o := by
  refine ⟨?_, fun m => ?_, e.keep a o h hc⟩
  · cases q : g'.F a with
    | none => rfl
    | some u =>
      have := e.newF a hf (by rw [q]; simp)
      rw [h] at this
      cases this
  · have := e.newC a m hc
    rw [h] at this
    cases this
theorem wp_noX {α : Type} {m : M α} {S : Store} {Q : α → Store → Prop} {X : Nat → Store → Prop} (h : WP (M.noX m S) Q X) : WP (m S) Q fun _ _ => False := by
  unfold M.noX at h
  cases e : m S with
  | ok a S' => rw [e] at h; exact h
  | exc n S' => rw [e] at h; exact h
  | stuck => rw [e] at h; exact h
theorem se_comp {elt tg iter : Expr} {ifs : List Expr} {scope : Scope} {own : List (Str × Nat)} {t : Tg} {src : Src} {oe : Oep} {pe : Ep} (hN : c.N.Nodup) (hok : blkC c.N c.sc scope own = true) (hset : notSet iter = true) (hsl : ∀ j ∈ t.slots, j ∈ own.map (·.2))
    (hi : SI W c true tg iter src) (hg : SG W (blkT c scope) tg t) (hc : SC W (blkT c scope) ifs oe) (he : SE W (blkT c scope) elt pe) :
    (∀ X, XOk W c X → ∀ σ H Q, semE W c.E false (.comp (own.map (·.2)) t src oe pe) σ H Q → tLc (semI W c.E true src) (semG W t) (sem W E0 RBo fun env => evalC W.cs oe env) (semE W E0 false pe) (own.map (·.2)) σ H Q) := by
  intro X x σ H Q q
  obtain ⟨H0, g, env, S, wk, en, w⟩ := q
  refine ⟨H0, g, env, S, wk, en, wp_k w fun ds S1 w1 g1 H1 J e1 wk1 en1 wJ Da hD => ?_⟩
  generalize hf : (fun x => M.bnd (M.opt (bindTg t x (wipeE env (own.map (·.2))))) fun env' => M.bnd (evalC W.cs oe env') fun k => if k then M.bnd (evalE W.cs false pe env') fun r => M.ret (some r.d) else M.ret none) = f at w1
  have w1 : WP (compM f ds [] S1) (fun ys S' => Fin W.K (RV W.K false) g H Q (.ow ys) S') fun _ _ => False := wp_noX (WP.bnd w1)
  have enW := en.wipe (own.map (·.2))
  have hDH : H Da = none := e1.alive _ hD
  -- what holds between two turns
  let Wt : Nat → Hp → Prop := fun i H2 => i ≤ ds.length ∧ ∃ g2 S2 acc vs, Evo g1 H1 g2 H2 ∧ Wok W.K g2 H2 S2 ∧ H2 Da = some (.lst vs) ∧ RDs W.K g2 vs acc ∧ g2.F Da = none ∧ Da ∉ g2.C ∧
    WP (compM f (ds.drop i) acc S2) (fun ys S' => Fin W.K (RV W.K false) g H Q (.ow ys) S') fun _ _ => False
  refine ⟨fun i m H2 => m = ds.length - i ∧ Wt i H2, ⟨ds.length, by simp, Nat.zero_le _, ?_⟩, ?_⟩
  · obtain ⟨wk2, e2⟩ := wk1.newOw (o := .lst []) hD
    exact ⟨g1, S1, [], [], e2, wk2, upd_same, .nil, wk1.newF hD, wk1.newC hD, w1⟩
  · rintro i m H2 ⟨rfl, hi', g2, S2, acc, vs, e2, wk2, hL, hR, hF, hC, w2⟩
    by_cases hlt : i < ds.length
    · refine .inr ⟨wJ.go i g2 H2 S2 hlt e2 wk2, Wt (i + 1), fun H' p => ⟨ds.length - (i + 1), by omega, rfl, p⟩, fun v H3 y => ?_⟩
      obtain ⟨g3, e3, wk3, r3⟩ := wJ.yld i ds[i] g2 H2 S2 v H3 (List.getElem?_eq_getElem hlt) e2 wk2 y
      rw [List.drop_eq_getElem_cons hlt] at w2
      have w2 : WP (M.bnd (f ds[i]) (fun o => match o with | none => compM f (ds.drop (i + 1)) acc | some d => if acc.length < sizeLine then compM f (ds.drop (i + 1)) (acc ++ [d]) else M.stk) S2) (fun ys S' => Fin W.K (RV W.K false) g H Q (.ow ys) S') (fun _ _ => False) := w2
      have w2 := WP.bnd w2
      have hfi : f ds[i] = M.bnd (M.opt (bindTg t ds[i] (wipeE env (own.map (·.2))))) fun env' => M.bnd (evalC W.cs oe env') fun k => if k then M.bnd (evalE W.cs false pe env') fun r => M.ret (some r.d) else M.ret none := by rw [← hf]
      rw [hfi] at w2
      obtain ⟨env', hb, w3⟩ := WP.optB w2
      have eg3 : Evo g H g3 H3 := (e1.trans e2).trans e3
      obtain ⟨f3, c3, l3⟩ := e3.stayF hL hF hC
      refine ⟨H0, g3, wipeE env (own.map (·.2)), S2, ds[i], env', wk3, enW.evo eg3, r3, hb, fun σ' en' hl' ho' => ⟨?_, ?_⟩⟩
      · exact wipe_eq (hl'.trans (wipe_length ..)) fun j hj => (ho' j fun z => hj (hsl j z)).trans (wipe_get hj)
      · have w3 := WP.bnd w3
        refine ⟨H0, g3, env', S2, wk3, en', w3.mono (fun k S4 w4 b g4 H4 e4 wk4 x4 => ?_) fun _ _ z => z.elim⟩
        cases x4
        obtain ⟨f4, c4, l4⟩ := e4.stayF l3 f3 c3
        have en4 := en'.evo e4
        cases k with
        | false => exact iteF ⟨by omega, g4, S4, acc, vs, (e2.trans e3).trans e4, wk4, l4, hR.mono (e3.ext.trans e4.ext), f4, c4, w4⟩
        | true =>
          have w4 := WP.bnd w4
          refine iteT ⟨H0, g4, env', S4, wk4, en4, w4.mono (fun r S5 w5 y g5 H5 e5 wk5 x5 => ?_) fun _ _ z => z.elim⟩
          obtain ⟨g5', e5', wk5', en5', d5, _⟩ := freeze1 en4 e5 wk5 (show RvS W.K H4 g5 H5 y r from x5)
          obtain ⟨f5, c5, l5⟩ := e5'.stayF l4 f4 c4
          obtain ⟨hz, w5⟩ := WP.ite (show WP ((if acc.length < sizeLine then compM f (ds.drop (i + 1)) (acc ++ [r.d]) else M.stk) S5) _ _ from w5)
          refine ⟨vs, l5, by rw [hR.length]; exact hz, by omega, g5', S5, acc ++ [r.d], vs ++ [y], ?_, wk5'.chg f5 c5, upd_same, (hR.mono ((e3.ext.trans e4.ext).trans e5'.ext)).append (.cons d5 .nil), f5, c5, w5⟩
          exact (((e2.trans e3).trans e4).trans e5').chg hD
    · have hie : i = ds.length := by omega
      subst hie
      refine .inl ⟨wJ.stop g2 H2 S2 e2 wk2, ?_⟩
      rw [List.drop_length] at w2
      have w2 : Fin W.K (RV W.K false) g H Q (.ow acc) S2 := w2
      exact w2 (.ref Da) g2 H2 (e1.trans e2) wk2 ⟨Da, vs, rfl, hL, hR, hF, hC, hDH⟩
end
end Mini
/-! SoundI: comprehensions as values, calls of defs, statements. -/
namespace Mini
open PySem PySem.Spec PyProof.Rows L2
section
variable {W : Wd} {c : Ct}
theorem se_lc {elt tg iter : Expr} {ifs : List Expr} {scope : Scope} {own : List (Str × Nat)} {pos : Pos} {t : Tg} {src : Src} {oe : Oep} {pe : Ep} (hN : c.N.Nodup) (hok : blkC c.N c.sc scope own = true) (hset : notSet iter = true) (hsl : ∀ j ∈ t.slots, j ∈ own.map (·.2))
    (hi : SI W c true tg iter src) (hg : SG W (blkT c scope) tg t) (hc : SC W (blkT c scope) ifs oe) (he : SE W (blkT c scope) elt pe) : SE W c (.ListComp elt [⟨tg, iter, ifs, 0⟩] scope pos) (.comp (own.map (·.2)) t src oe pe) := by
  refine .of rfl (fun _ => rfl) fun X x => PE.imp (pe_lc x.calm (by rw [x.N]; exact hN) (hi.val X x) (blkOk_by (by rw [x.N, x.sc]; exact hok)) (fun s H C cl fp => hg.val _ (blk_ok x)) (fun s H C cl fp => hc.val _ (blk_ok x)) (fun s H C cl fp => he.val false _ (blk_ok x)) (set_eq hset))
    fun σ H Q q => se_comp hN hok hset hsl hi hg hc he X x σ H Q q

/-! ### calls of defs -/
/-- what a def promises: what m says of its arguments -/
def spF (K : PySem.W.Frag) (cl : Nat → Addr) (m : List D → M Rv) : Sp := fun vs H Q E => ∃ ds S g, Wok K g H S ∧ RDs K g vs ds ∧ WP (m ds S) (Fin K (RV K false) g H Q) (QX K cl E g H)
/-- the def that stands by the name x, at W's level -/
structure FnAt (W : Wd) (x : Str) (f : Nat) : Prop where
  ex : ∃ (fa : Addr) (fd : FuncData) (ps : List Str), FnOk W.P W.w W.K W.mg W.base (L2.CX W.P W.w) W.k fa fd ps (spF W.K W.cl (W.cs f)) ∧ W.mg x = some (.ref fa) ∧ PySem.W.keepIn W.K (.ref fa) = true ∧ Binds W.K fd ps []
theorem se_call {n : Str} {f : Nat} {e : Expr} {es : List Expr} {ps : Eps} {p pos : Pos} (hF : FnAt W n f) (hg : isGl c.sc n = true) (hd : (n == ("__debug__" : Str)) = false) (h : SEs W c (e :: es) ps) : SE W c (.Call (.Name n p) (e :: es) [] pos) (.call f ps) := by
  obtain ⟨fa, fd, pn, F, hm, hk, hb⟩ := hF.ex
  have hs := h.star
  rw [List.all_cons, Bool.and_eq_true] at hs
  refine .of rfl (fun _ => rfl) fun X x => ?_
  have F' : FnOk X.prog X.w X.K X.mg X.base (L2.CX X.prog X.w) W.k fa fd pn (spF W.K W.cl (W.cs f)) := by
    rw [x.prog, x.w, x.K, x.mg, x.base]
    exact F
  refine PE.imp (pe_call F' x.room (gl_of x hg) (by rw [x.mg]; exact hm) (by rw [x.K]; exact hk) (by rw [x.K]; exact hb) .nil (passes_call (E := c.E) x.tk fun _ _ _ _ h => h) (h.val X x) hd (star_eq hs.1) (stars_plain hs.2)) fun σ H Q q => ?_
  obtain ⟨H0, g, env, S, wk, en, w⟩ := q
  refine sem_seq anti_RV wk en w fun r S1 v g1 H1 e1 wk1 en1 x1 w1 => ?_
  rw [List.append_nil]
  exact ⟨r, S1, g1, wk1, x1, w1⟩
theorem se_call0 {n : Str} {f : Nat} {p pos : Pos} (hF : FnAt W n f) (hg : isGl c.sc n = true) (hd : (n == ("__debug__" : Str)) = false) : SE W c (.Call (.Name n p) [] [] pos) (.call f .nil) := by
  obtain ⟨fa, fd, pn, F, hm, hk, hb⟩ := hF.ex
  refine .of rfl (fun _ => rfl) fun X x => ?_
  have F' : FnOk X.prog X.w X.K X.mg X.base (L2.CX X.prog X.w) W.k fa fd pn (spF W.K W.cl (W.cs f)) := by
    rw [x.prog, x.w, x.K, x.mg, x.base]
    exact F
  refine PE.imp (pe_call0 F' x.room (gl_of x hg) (by rw [x.mg]; exact hm) (by rw [x.K]; exact hk) (by rw [x.K]; exact hb) .nil (passes_call (E := c.E) x.tk fun _ _ _ _ h => h) hd) fun σ H Q q => ?_
  obtain ⟨H0, g, env, S, wk, en, w⟩ := q
  exact ⟨[], S, g, wk, .nil, w⟩
end

/-! ### statements -/
/-- a statement's end -/
def StQ (W : Wd) (g0 : G) (H0 : Hp) (g : G) (D : Ends) : Fl × Env → Store → Prop := fun o S' => ∀ σ' g' H', Evo g0 H0 g' H' → Ext g g' → Wok W.K g' H' S' → EnvOk W.K H0 g' H' o.2 σ' → match o.1 with
  | .nx => D.nx σ' H'
  | .brk => D.bk σ' H'
  | .ct => D.ct σ' H'
  | .ret r => ∀ v, RvS W.K H0 g' H' v r → D.rt v H'
theorem StQ.shift {W : Wd} {g0 g g1 : G} {H0 : Hp} {D : Ends} {o : Fl × Env} {S : Store} (e : Ext g g1) (h : StQ W g0 H0 g D o S) : StQ W g0 H0 g1 D o S := fun σ' g' H' e0 e1 w en => h σ' g' H' e0 (e.trans e1) w en
def semS (W : Wd) (E : XK) (m : Env → M (Fl × Env)) : TS := fun D σ H => ∃ g0 H0 g env S, Evo g0 H0 g H ∧ Wok W.K g H S ∧ EnvOk W.K H0 g H env σ ∧ WP (m env S) (StQ W g0 H0 g D) (QX W.K W.cl E g0 H0)
/-- a body's context: what leaves a statement is noted -/
structure XS (W : Wd) (c : Ct) (X : Cx) : Prop extends XOk W c X where
  po : PassesOwn (model X.prog X.w) X.A X.env X.xe
structure SS (W : Wd) (c : Ct) (s : Stmt) (p : Sm) : Prop where
  val : ∀ X, XS W c X → PS X s (semS W c.E fun env => execS W.cs p env)
structure SSs (W : Wd) (c : Ct) (s : List Stmt) (p : Sms) : Prop where
  val : ∀ X, XS W c X → PSs X s (semS W c.E fun env => execSs W.cs p env)
section
variable {W : Wd} {c : Ct}
/-- an expression first, then the rest -/
theorem sem_st {E : XK} {α β : Type} {R : Hp → G → Hp → β → α → Prop} {m : Env → M α} {f : α → M (Fl × Env)} {σ : L2.St} {H H0 : Hp} {g0 g : G} {env : Env} {S : Store} {D : Ends} {Y : β → Hp → Prop} (e0 : Evo g0 H0 g H) (wk : Wok W.K g H S) (en : EnvOk W.K H0 g H env σ)
    (w : WP (M.bnd (m env) f S) (StQ W g0 H0 g D) (QX W.K W.cl E g0 H0)) (k : ∀ r S1 v g1 H1, Evo g H g1 H1 → Wok W.K g1 H1 S1 → R H g1 H1 v r → WP (f r S1) (StQ W g0 H0 g D) (QX W.K W.cl E g0 H0) → Y v H1) : sem W E R m σ H Y :=
  ⟨H0, g, env, S, wk, en, (WP.bnd w).mono (fun r S1 h v g1 H1 e w1 x => k r S1 v g1 H1 e w1 x h) fun _ _ h => h.shift e0⟩
/-- a kept result goes into a slot -/
theorem EnvOk.put {K : PySem.W.Frag} {g g1 : G} {H H1 H0 : Hp} {g0 : G} {env : Env} {σ : L2.St} {v : V} {r : Rv} (en : EnvOk K H0 g H env σ) (e0 : Evo g0 H0 g H) (e : Evo g H g1 H1) (x : RvS K H g1 H1 v r) (i : Nat) : EnvOk K H0 g1 H1 (env.set i (some r)) (σ.set i (some v)) := by
  refine (en.evo e).setR i (x.base e0.alive) fun xs er j ys hj hs hv => ?_
  subst er
  obtain ⟨a, vs, rfl, _, _, _, _, hn⟩ := x
  obtain ⟨u, h1, h2⟩ := en.slot j _ hs
  obtain ⟨b, us, rfl, hb, _⟩ := h2
  rw [h1] at hv
  cases hv
  rw [hn] at hb
  cases hb
theorem swap_none {e : Expr} {tg : Option Expr} {l : Nat} {env : PySem.Env} (h : notComp e = true) : swapsWith e tg l env = pure false := by
  cases e <;> first | rfl | cases h
theorem ss_set {n : Str} {i : Nat} {e : Expr} {p : Ep} {p1 pos : Pos} (hN : c.N.Nodup) (hi : c.N[i]? = some n) (hl : isLoc c n = true) (hc : notComp e = true) (h : SE W c e p) : SS W c (.Assign [.Name n p1] e pos) (.set i p) := by
  refine ⟨fun X x => PS.imp (ps_set (i := i) (by rw [x.N]; exact hN) (by rw [x.N]; exact hi) (loc_of x.toXOk hl).1 (h.val false X x.toXOk) (swap_none hc) (loc_of x.toXOk hl).2) fun D σ H q => ?_⟩
  obtain ⟨g0, H0, g, env, S, e0, wk, en, w⟩ := q
  refine sem_st e0 wk en w fun r S1 v g1 H1 e1 wk1 x1 w1 => ?_
  exact w1 _ g1 H1 (e0.trans e1) e1.ext wk1 (en.put e0 e1 (show RvS W.K H g1 H1 v r from x1) i)
theorem ss_setLc {n : Str} {i : Nat} {elt tg iter : Expr} {ifs : List Expr} {scope : Scope} {own : List (Str × Nat)} {p1 pos spos : Pos} {t : Tg} {src : Src} {oe : Oep} {pe : Ep} (hN : c.N.Nodup) (hi : c.N[i]? = some n) (hk : c.sc.kind = .function) (hl : c.sc.names.lookup n = some .local)
    (hln : (p1.line == pos.line) = true) (hown : (scope.names.any fun (m, k) => m == n && (k == .local || k == .cell)) = false)
    (hok : blkC c.N c.sc scope own = true) (hset : notSet iter = true) (hsl : ∀ j ∈ t.slots, j ∈ own.map (·.2))
    (hs : SI W c true tg iter src) (hg : SG W (blkT c scope) tg t) (hc : SC W (blkT c scope) ifs oe) (he : SE W (blkT c scope) elt pe) :
    SS W c (.Assign [.Name n p1] (.ListComp elt [⟨tg, iter, ifs, 0⟩] scope pos) spos) (.set i (.comp (own.map (·.2)) t src oe pe)) := by
  refine ⟨fun X x => PS.imp (ps_setLc (i := i) x.calm (by rw [x.N]; exact hN) (by rw [x.N]; exact hi) (by rw [x.sc]; exact hl) (sw_true (by rw [x.sc]; exact hk) (by rw [x.sc]; exact hl) hln hown) (hs.val X x.toXOk) (blkOk_by (by rw [x.N, x.sc]; exact hok))
    (fun s H C cl fp => hg.val _ (blk_ok x.toXOk)) (fun s H C cl fp => hc.val _ (blk_ok x.toXOk)) (fun s H C cl fp => he.val false _ (blk_ok x.toXOk)) (set_eq hset)) fun D σ H q => ?_⟩
  obtain ⟨g0, H0, g, env, S, e0, wk, en, w⟩ := q
  refine se_comp hN hok hset hsl hs hg hc he X x.toXOk σ H _ ?_
  refine sem_st e0 wk en w fun r S1 v g1 H1 e1 wk1 x1 w1 => ?_
  exact w1 _ g1 H1 (e0.trans e1) e1.ext wk1 (en.put e0 e1 (show RvS W.K H g1 H1 v r from x1) i)
theorem swap_tup {e : Expr} {es : List Expr} {k l : Nat} {p : Pos} {env : PySem.Env} (h : notComp e = true) : swapsWithSole [.Tuple es k p] e l env = pure false := by
  cases e <;> first | rfl | cases h
def notTup : Expr → Bool
  | .Tuple .. => false
  | _ => true
theorem stores_none {e : Expr} {es : List Expr} {k : Nat} {p : Pos} {env : PySem.Env} (h : notTup e = true) : swappedStores [.Tuple es k p] e env = pure none := by
  cases e <;> first | rfl | cases h
theorem ss_unp {es : List Expr} {ts : List Tg} {e : Expr} {p : Ep} {k : Nat} {p1 pos : Pos} (hc : notComp e = true) (ht : notTup e = true) (hg : SGs W c es ts) (h : SE W c e p) : SS W c (.Assign [.Tuple es k p1] e pos) (.unp (.tp ts) p) := by
  refine ⟨fun X x => PS.imp (ps_asg (h.val true X x.toXOk) ((sg_tup hg).val X x.toXOk) (swap_tup hc) (stores_none ht) rfl) fun D σ H q => ?_⟩
  obtain ⟨g0, H0, g, env, S, e0, wk, en, w⟩ := q
  refine sem_st e0 wk en w fun r S1 v g1 H1 e1 wk1 x1 w1 => ?_
  obtain ⟨env', hb, w2⟩ := WP.optB w1
  have hr : RD W.K g1 v r.d := by
    cases r with
    | fz d => exact x1
    | ow ds => cases hb
  exact ⟨H0, g1, env, S1, r.d, env', wk1, en.evo e1, hr, hb, fun σ' en' _ _ => w2 σ' g1 H1 (e0.trans e1) e1.ext wk1 en'⟩
theorem ss_expr {e : Expr} {p : Ep} {pos : Pos} (hc : notComp e = true) (h : SE W c e p) : SS W c (.Expr e pos) (.expr p) := by
  refine ⟨fun X x => PS.imp (ps_expr (h.val false X x.toXOk) (swap_none hc)) fun D σ H q => ?_⟩
  obtain ⟨g0, H0, g, env, S, e0, wk, en, w⟩ := q
  refine sem_st e0 wk en w fun r S1 v g1 H1 e1 wk1 x1 w1 => ?_
  exact w1 σ g1 H1 (e0.trans e1) e1.ext wk1 (en.evo e1)
theorem ss_ret {e : Expr} {p : Ep} {pos : Pos} (h : SE W c e p) : SS W c (.Return (some e) pos) (.ret p) := by
  refine ⟨fun X x => PS.imp (ps_ret (h.val false X x.toXOk)) fun D σ H q => ?_⟩
  obtain ⟨g0, H0, g, env, S, e0, wk, en, w⟩ := q
  refine sem_st e0 wk en w fun r S1 v g1 H1 e1 wk1 x1 w1 => ?_
  exact w1 σ g1 H1 (e0.trans e1) e1.ext wk1 (en.evo e1) v (RvS.base e0.alive (show RvS W.K H g1 H1 v r from x1))
theorem ss_rtv {i : Nat} {n : Str} {p1 pos : Pos} (hN : c.N[i]? = some n) (hv : Vis c.sc n) (hd : (n == ("__debug__" : Str)) = false) (hcd : (n == ("__classdict__" : Str)) = false) : SS W c (.Return (some (.Name n p1)) pos) (.rtv i) := by
  refine ⟨fun X x => PS.imp (ps_ret (pe_var (i := i) (by rw [x.N]; exact hN) (by rw [x.sc]; exact hv) hd hcd)) fun D σ H q => ?_⟩
  obtain ⟨g0, H0, g, env, S, e0, wk, en, w⟩ := q
  obtain ⟨r, h1, h2⟩ := WP.optB w
  unfold rdVar at h1
  split at h1
  · rename_i d hs
    cases h1
    obtain ⟨v, k1, k2⟩ := en.slot i _ hs
    exact ⟨v, k1, h2 σ g H e0 (.refl _) wk en v k2⟩
  · rename_i xs hs
    obtain ⟨_, h1⟩ := Option.ite_none_right_eq_some.mp h1
    cases h1
    obtain ⟨v, k1, k2⟩ := en.slot i _ hs
    exact ⟨v, k1, h2 σ g H e0 (.refl _) wk en v k2⟩
  · cases h1
theorem ss_rtn {pos : Pos} : SS W c (.Return none pos) .rtn := by
  refine ⟨fun X x => PS.imp ps_retN fun D σ H q => ?_⟩
  obtain ⟨g0, H0, g, env, S, e0, wk, en, w⟩ := q
  exact w σ g H e0 (.refl _) wk en .non .non
theorem ss_if {t : Expr} {a b : List Stmt} {pt : Ep} {pa pb : Sms} {pos : Pos} (ht : SE W c t pt) (ha : SSs W c a pa) (hb : SSs W c b pb) : SS W c (.If t a b pos) (.ite pt pa pb) := by
  refine ⟨fun X x => PS.imp (ps_if (ht.tst X x.toXOk) (ha.val X x) (hb.val X x)) fun D σ H q => ?_⟩
  obtain ⟨g0, H0, g, env, S, e0, wk, en, w⟩ := q
  refine sem_st (m := fun env => evalB W.cs pt env) e0 wk en w fun r S1 v g1 H1 e1 wk1 x1 w1 => ?_
  cases x1
  have w1' := WP.mono w1 (fun o S h => StQ.shift e1.ext h) fun _ _ h => h
  cases r with
  | true => exact iteT ⟨g0, H0, g1, env, S1, e0.trans e1, wk1, en.evo e1, w1'⟩
  | false => exact iteF ⟨g0, H0, g1, env, S1, e0.trans e1, wk1, en.evo e1, w1'⟩
theorem sss_nil : SSs W c [] .nil := by
  refine ⟨fun X x => PSs.imp pss_nil fun D σ H q => ?_⟩
  obtain ⟨g0, H0, g, env, S, e0, wk, en, w⟩ := q
  exact w σ g H e0 (.refl _) wk en
theorem sss_cons {s : Stmt} {ss : List Stmt} {p : Sm} {ps : Sms} (h : SS W c s p) (hr : SSs W c ss ps) : SSs W c (s :: ss) (.cons p ps) := by
  refine ⟨fun X x => PSs.imp (pss_cons (h.val X x) (hr.val X x)) fun D σ H q => ?_⟩
  obtain ⟨g0, H0, g, env, S, e0, wk, en, w⟩ := q
  refine ⟨g0, H0, g, env, S, e0, wk, en, (WP.bnd w).mono (fun o S1 h σ' g' H' e1 x1 wk1 en1 => ?_) fun _ _ h => h⟩
  obtain ⟨fl, env'⟩ := o
  cases fl with
  | nx => exact ⟨g0, H0, g', env', S1, e1, wk1, en1, WP.mono h (fun o S h => StQ.shift x1 h) fun _ _ h => h⟩
  | brk => exact h σ' g' H' e1 x1 wk1 en1
  | ct => exact h σ' g' H' e1 x1 wk1 en1
  | ret r => exact fun v hv => h σ' g' H' e1 x1 wk1 en1 v hv
theorem ss_never {s : Stmt} : SS W c s .never := by
  refine ⟨fun X x => PS.imp ps_never fun D σ H q => ?_⟩
  obtain ⟨g0, H0, g, env, S, e0, wk, en, w⟩ := q
  exact w
theorem frz_ok {K : PySem.W.Frag} {g0 g : G} {H0 H : Hp} {env : Env} {σ : L2.St} {S : Store} (e0 : Evo g0 H0 g H) (wk : Wok K g H S) (en : EnvOk K H0 g H env σ) : ∀ is : List Nat, ∃ g', Evo g0 H0 g' H ∧ Ext g g' ∧ Wok K g' H S ∧ EnvOk K H0 g' H (frzE env is) σ
  | [] => ⟨g, e0, .refl _, wk, en⟩
  | i :: is => by
    obtain ⟨g1, e1, x1, wk1, en1⟩ := frz_ok e0 wk en is
    unfold frzE
    split
    · rename_i xs hs
      obtain ⟨v, h1, a, vs, rfl, ha, hr, hf, hc, hn⟩ := en1.slot i _ hs
      refine ⟨⟨g1.C, upd g1.F a (.lst vs)⟩, e1.fix hf hn, x1.trans (ext_upd hf), wk1.fix ha hf hc, ⟨by rw [List.length_set]; exact en1.len, fun j r hj => ?_, fun j k b ys zs hjk h3 h4 h5 h6 => ?_⟩⟩
      · by_cases hij : j = i
        · subst hij
          have hl : j < (frzE env is).length := (List.getElem?_eq_some_iff.mp hs).1
          rw [List.getElem?_set_self hl] at hj
          cases hj
          exact ⟨_, h1, .lst upd_same (hr.mono (ext_upd hf))⟩
        · rw [List.getElem?_set_ne (Ne.symm hij)] at hj
          obtain ⟨u, k1, k2⟩ := en1.slot j r hj
          refine ⟨u, k1, ?_⟩
          cases r with
          | fz d => exact RD.mono (ext_upd hf) k2
          | ow ds =>
            obtain ⟨b, us, rfl, hb, hr2, hf2, hc2, hn2⟩ := k2
            refine ⟨b, us, rfl, hb, hr2.mono (ext_upd hf), ?_, hc2, hn2⟩
            have : b ≠ a := fun z => by
              subst z
              exact en1.apart j i b _ _ hij hj hs k1 h1
            show upd g1.F a (.lst vs) b = none
            rw [upd_ne this]
            exact hf2
      · have ne : ∀ (m : Nat) {zs : List D}, ((frzE env is).set i (some (.fz (.lst xs))))[m]? = some (some (.ow zs)) → m ≠ i := fun m zs e z => by
          subst z
          have hl : m < (frzE env is).length := (List.getElem?_eq_some_iff.mp hs).1
          rw [List.getElem?_set_self hl] at e
          cases e
        rw [List.getElem?_set_ne (Ne.symm (ne j h3))] at h3
        rw [List.getElem?_set_ne (Ne.symm (ne k h4))] at h4
        exact en1.apart j k b ys zs hjk h3 h4 h5 h6
    · exact ⟨g1, e1, x1, wk1, en1⟩
theorem ss_frz {s : Stmt} {p : Sm} {is : List Nat} (h : SS W c s p) : SS W c s (.frz is p) := by
  refine ⟨fun X x => PS.imp (h.val X x) fun D σ H q => ?_⟩
  obtain ⟨g0, H0, g, env, S, e0, wk, en, w⟩ := q
  obtain ⟨g', e', x', wk', en'⟩ := frz_ok e0 wk en is
  exact ⟨g0, H0, g', frzE env is, S, e', wk', en', WP.mono w (fun o S h => StQ.shift x' h) fun _ _ h => h⟩
end
end Mini
/-! SoundJ: xs[::-1], swapped stores, xs[i] = .., append, for, while. -/
namespace Mini
open PySem PySem.Spec PyProof.Rows L2
section
variable {prog : Program} {w : World} {A : Around} {E : Value → Shared → Prop} {s : Shared}
theorem adjust_rev (n : Nat) : Builtin.Slice.sliceAdjust none none (-1) (n : Int) = ((n : Int) - 1, -1) := by
  unfold Builtin.Slice.sliceAdjust
  simp
theorem places_rev (n : Nat) : Builtin.Slice.slicePlaces ((n : Int) - 1) (-1) (-1) = n := by
  unfold Builtin.Slice.slicePlaces
  simp
  omega
theorem sliceApplied_rev {sl : Addr} {vl vu vs : Value} {n : Nat} {Q : Int × Int × Nat → Shared → Prop} (hs : s.heap.IsSliceOf sl vl vu vs) (pl : IsPart vl none) (pu : IsPart vu none) (ps : IsPart vs (some (-1)))
    (h : Q ((n : Int) - 1, -1, n) s) : wpAny (model prog w) A (Builtin.Slice.sliceApplied (.ref sl) (pure (n : Int))) Q E s := by
  obtain ⟨os, hos, hcs, hds⟩ := id hs
  unfold Builtin.Slice.sliceApplied Builtin.Slice.sliceFields
  refine wpAny_bind (wpAny_bind (wpAny_field hos hds (x := vl) rfl (wpAny_bind (wpAny_field hos hds (x := vu) rfl (wpAny_bind (wpAny_field hos hds (x := vs) rfl (wpAny_pure ?_)))))))
  refine wpAny_bind (HT.slicePart_ ps ?_)
  show wpAny _ _ (if ((-1 : Int) == 0) = true then _ else _) _ _ s
  rw [if_neg (by decide)]
  refine wpAny_bind (HT.slicePart_ pl (wpAny_bind (HT.slicePart_ pu (wpAny_bind (wpAny_pure ?_)))))
  show wpAny _ _ (match Builtin.Slice.sliceAdjust none none (-1) (n : Int) with | (lo, hi) => pure (lo, (-1 : Int), Builtin.Slice.slicePlaces lo hi (-1))) _ _ s
  rw [adjust_rev]
  show wpAny _ _ (pure ((n : Int) - 1, (-1 : Int), Builtin.Slice.slicePlaces ((n : Int) - 1) (-1) (-1))) _ _ s
  rw [places_rev]
  exact wpAny_pure h
theorem pick_rev (xs : Array Value) : ((List.range xs.size).filterMap fun (m : Nat) => xs[(((xs.size : Int) - 1) + (m : Int) * -1).toNat]?).toArray = xs.toList.reverse.toArray := by
  have e : ∀ n : Nat, n ≤ xs.size → ((List.range n).filterMap fun (m : Nat) => xs[(((n : Int) - 1) + (m : Int) * -1).toNat]?) = (xs.toList.take n).reverse := by
    intro n
    induction n with
    | zero => intro _; simp
    | succ n ih =>
      intro h
      rw [List.range_succ_eq_map, List.filterMap_cons]
      have h0 : ((((n + 1 : Nat) : Int) - 1) + ((0 : Nat) : Int) * -1).toNat = n := by omega
      rw [h0, Array.getElem?_eq_getElem (by omega)]
      simp only [List.filterMap_map]
      have : (fun (m : Nat) => xs[((((n + 1 : Nat) : Int) - 1) + (m : Int) * -1).toNat]?) ∘ Nat.succ = fun (m : Nat) => xs[(((n : Int) - 1) + (m : Int) * -1).toNat]? := by
        funext m
        show xs[((((n + 1 : Nat) : Int) - 1) + ((m + 1 : Nat) : Int) * -1).toNat]? = _
        have : ((((n + 1 : Nat) : Int) - 1) + ((m + 1 : Nat) : Int) * -1).toNat = (((n : Int) - 1) + (m : Int) * -1).toNat := by omega
        rw [this]
      rw [this, ih (by omega), List.take_add_one, List.reverse_append]
      have : xs.toList[n]? = some xs[n] := by simp [Array.getElem?_eq_getElem (show n < xs.size by omega)]
      rw [this]
      rfl
  rw [e _ (Nat.le_refl _), ← Array.length_toList, List.take_length]
theorem getItem_tuple_rev {t sl : Addr} {items : Array Value} {vl vu vs : Value} {Q : Value → Shared → Prop} (ht : IsTup s.heap t items) (hs : s.heap.IsSliceOf sl vl vu vs) (pl : IsPart vl none) (pu : IsPart vu none) (ps : IsPart vs (some (-1)))
    (h : Q (.ref s.heap.objs.size) { s with heap := s.heap.push { cls := .type "tuple", data := .seq items.toList.reverse.toArray } })
    (hsz : items.size ≤ sizeLine) : wpAny (model prog w) A (getItem (.ref t) (.ref sl)) Q E s := by
  have htake : sizeOk (.seq items.toList.reverse.toArray) := by
    show items.toList.reverse.toArray.size ≤ sizeLine
    rw [List.size_toArray, List.length_reverse, Array.length_toList]
    omega
  obtain ⟨os, hos, hcs, hds⟩ := id hs
  have hTs : s.TypeIs (.ref sl) "slice" := ⟨os, hos, hcs⟩
  unfold getItem
  try with_reducible refine wpAny_holding ?_
  first | refine wpAny_bind (wpAny_pure ?_) | skip
  refine wpAny_bind (wpAny_sequenceKey ht.typeIs (by decide) ?_)
  refine wpAny_bind (wpAny_callSpecial?_slot (name := Str.ofString "__getitem__") ht.typeIs PyProof.Rows.slot_tuple_getitem
    (wpAny_call_entry PyProof.Rows.slot_tuple_getitem ht.typeIs entry_tuple_getitem ?_ (args_tuple_getitem _ _)))
  show wpAny _ _ (Builtin.Tuple.tupleItemsOf (.ref t) >>= _) _ _ s
  refine wpAny_bind (tupleItemsOf_ ht ?_)
  refine wpAny_bind (wpAny_typeOf hTs ?_)
  rw [if_pos (by decide)]
  refine wpAny_bind (sliceApplied_rev hs pl pu ps ?_)
  have hno : ¬ ((((items.size : Int) - 1) == 0 && (-1 : Int) == 1 && items.size == items.size) = true) := by
    intro q
    rw [Bool.and_eq_true, Bool.and_eq_true] at q
    exact absurd q.1.2 (by decide)
  show wpAny _ _ (if (((items.size : Int) - 1) == 0 && (-1 : Int) == 1 && items.size == items.size) = true then _ else _) _ _ s
  rw [if_neg hno, pick_rev]
  first
    | exact wpAny_bind (m := Builtin.Tuple.tupleExact _) (wpAny_newObj_type (wpAny_pure ⟨_, rfl, wpAny_pure h⟩) htake)
    | exact wpAny_bind (m := Builtin.Tuple.tupleExact _) (wpAny_newObj_type (wpAny_bind (wpAny_pure (wpAny_pure ⟨_, rfl, wpAny_pure h⟩))) htake)
    | exact wpAny_bind (wpAny_bind (m := Builtin.Tuple.tupleExact _) (wpAny_newObj_type (wpAny_pure (wpAny_pure ⟨_, rfl, wpAny_pure h⟩)) htake))
    | exact wpAny_bind (wpAny_bind (m := Builtin.Tuple.tupleExact _) (wpAny_newObj_type (wpAny_pure ⟨_, rfl, wpAny_pure h⟩) htake))
end
def tRev (K : PySem.W.Frag) (te : TE) : TE := fun σ H Q => te σ H fun x H1 => ∃ a xs, x = .ref a ∧ ((SqL K H1 a xs ∧ ∀ p, H1 p = none → Q (.ref p) (upd H1 p (.lst xs.reverse))) ∨ (SqT K H1 a xs ∧ ∀ p, H1 p = none → Q (.ref p) (upd H1 p (.tup xs.reverse))))
theorem pe_rev {X : Cx} {e : Expr} {te : TE} {k : Nat} {p1 p2 p3 pos : Pos} (he : PE X e te) : PE X (.Subscript e (.Slice none none (some (.UnaryOp .USub (.Constant (.int 1) k p1) p2)) p3) pos) (tRev X.K te) := by
  refine ⟨fun pins s σ H Q I h => ?_⟩
  refine Subscript_ (thn (he.run pins s σ H _ I h) fun v s1 ⟨x, H1, I1, r1, q1⟩ => ?_)
  obtain ⟨a, xs, ex, hx⟩ := q1
  subst ex
  cases r1
  have hst : PO X (some (.UnaryOp .USub (.Constant (.int 1) k p1) p2)) (tPart (tUn (rU fun i => .int (-i)) (tC (.int 1)))) := po_some (pe_un un_neg pe_int)
  refine wpAny_Slice (thn (po_none.run pins s1 σ H1 (fun o H2 => o = none ∧ H2 = H1) I1 ⟨rfl, rfl⟩) fun vl s2 ⟨l, H2, I2, pl, el, e2⟩ => ?_)
  subst el e2
  refine thn (po_none.run pins s2 σ H2 (fun o H3 => o = none ∧ H3 = H2) I2 ⟨rfl, rfl⟩) fun vu s3 ⟨u, H3, I3, pu, eu, e3⟩ => ?_
  subst eu e3
  refine thn (hst.run pins s3 σ H3 (fun o H4 => o = some (-1) ∧ H4 = H3) I3 ⟨1, rfl, -1, rfl, rfl, rfl⟩) fun vs s4 ⟨o, H4, I4, ps, eo, e4⟩ => ?_
  subst eo e4
  have I5 : Inv X pins σ H4 { s4 with heap := s4.heap.push { cls := .type "slice", data := .fields #[vl, vu, vs] } } := I4.kept (t' := s4.toks) fun b ob q => Heap.get?_push_of_some _ q
  show wpAny (model X.prog X.w) X.A (subscriptTail e (.Slice none none (some (.UnaryOp .USub (.Constant (.int 1) k p1) p2)) p3) (.ref a) (.ref s4.heap.objs.size)) (EP X pins σ Q) X.xe { s4 with heap := s4.heap.push { cls := .type "slice", data := .fields #[vl, vu, vs] } }
  rcases hx with ⟨hx, q⟩ | ⟨hx, q⟩
  · obtain ⟨its, r, ht, hz⟩ := I5.list hx
    have hlen := r.length
    refine tail_any (ops := [.ref a, .ref s4.heap.objs.size]) ht.isList.typeIs (PySem.slot_list_getitem.lookup) ?_ (by with_unfolding_all rfl)
    refine wpAny_getItem_list_slice ht.isList (Heap.IsSliceOf.new _ vl vu vs) pl pu ps (by decide) ?_ (by rw [List.size_toArray]; omega)
    rw [PySem.W.krv_pick]
    refine ⟨.ref _, _, I5.laid (t' := s4.toks) (o := .lst xs.reverse) (fun b ob q => Heap.get?_push_of_some _ q) (Nat.le_refl _) ?_, rfl, q _ (I5.hok.fresh (Nat.le_refl _))⟩
    exact ⟨by rw [List.length_reverse]; exact hz, _, 0, r.reverse, Heap.get?_push_size _ rfl⟩
  · obtain ⟨its, r, ht, hz⟩ := I5.tuple hx
    have hlen := r.length
    refine tail_any (ops := [.ref a, .ref s4.heap.objs.size]) ht.typeIs (PyProof.Rows.slot_tuple_getitem.lookup) ?_ (by with_unfolding_all rfl)
    refine getItem_tuple_rev ht (Heap.IsSliceOf.new _ vl vu vs) pl pu ps ?_ (by rw [List.size_toArray]; omega)
    refine ⟨.ref _, _, I5.laid (t' := s4.toks) (o := .tup xs.reverse) (fun b ob q => Heap.get?_push_of_some _ q) (Nat.le_refl _) ?_, rfl, q _ (I5.hok.fresh (Nat.le_refl _))⟩
    exact ⟨by rw [List.length_reverse]; exact hz, _, r.reverse, IsTup.new _ _⟩
section
variable {W : Wd} {c : Ct}
theorem se_rev {a : Expr} {pa : Ep} {k : Nat} {p1 p2 p3 pos : Pos} (ha : SE W c a pa) : SE W c (.Subscript a (.Slice none none (some (.UnaryOp .USub (.Constant (.int 1) k p1) p2)) p3) pos) (.rev pa) := by
  refine .of rfl (fun _ => rfl) fun X x => PE.imp (pe_rev (ha.val true X x)) fun σ H Q q => ?_
  obtain ⟨H0, g, env, S, wk, en, w⟩ := q
  refine sem_seq anti_RV wk en w fun r S1 v g1 H1 e1 wk1 en1 x1 w1 => ?_
  obtain ⟨d, h1, h2⟩ := WP.opt w1
  have hb := Res.rb x1
  unfold revD at h1
  split at h1 <;> first | (cases h1; done) | skip
  · rename_i ds hd
    cases h1
    rw [hd] at hb
    obtain ⟨a, vs, rfl, ha, hr⟩ := hb.tup wk1
    exact ⟨a, vs, rfl, .inr ⟨SqT.of ha, fun p hp => fin_tup h2 wk1 hr.reverse hp⟩⟩
  · rename_i ds hd
    cases h1
    rw [hd] at hb
    obtain ⟨a, vs, rfl, ha, hr⟩ := hb.lst wk1
    exact ⟨a, vs, rfl, .inl ⟨SqL.of ha, fun p hp => fin_lst h2 wk1 hr.reverse hp⟩⟩
end
end Mini
/-! SoundK: swapped stores, xs[i] = .., append, for, while. -/
namespace Mini
open PySem PySem.Spec PyProof.Rows L2
/-! ### a, b = x, y -/
inductive RvSs (K : PySem.W.Frag) (H0 : Hp) (g : G) (H : Hp) : List V → List Rv → Prop where
  | nil : RvSs K H0 g H [] []
  | cons {v : V} {vs : List V} {r : Rv} {rs : List Rv} (h : RvS K H0 g H v r) (n : ∀ xs, r = .ow xs → ∀ (j : Nat) ys, rs[j]? = some (.ow ys) → vs[j]? ≠ some v) (t : RvSs K H0 g H vs rs) : RvSs K H0 g H (v :: vs) (r :: rs)
def RO (K : PySem.W.Frag) : Hp → G → Hp → List V → List Rv → Prop := fun H0 g H vs rs => RvSs K H0 g H vs rs
theorem RvSs.base {K : PySem.W.Frag} {H0 H1 H : Hp} {g : G} (x : ∀ b, H1 b = none → H0 b = none) : ∀ {vs : List V} {rs : List Rv}, RvSs K H1 g H vs rs → RvSs K H0 g H vs rs
  | _, _, .nil => .nil
  | _, _, .cons h n t => .cons (h.base x) n (RvSs.base x t)
theorem RvSs.new {K : PySem.W.Frag} {H0 H : Hp} {g : G} {o : HO} {a : Addr} (ha : H0 a = some o) : ∀ {vs : List V} {rs : List Rv}, RvSs K H0 g H vs rs → ∀ (j : Nat) ys, rs[j]? = some (.ow ys) → vs[j]? ≠ some (.ref a)
  | _, _, .nil, j, ys, h => by simp at h
  | _, _, .cons h n t, 0, ys, e => by
    intro z
    simp at e z
    subst e z
    obtain ⟨b, us, e1, _, _, _, _, e2⟩ := h
    cases e1
    rw [ha] at e2
    cases e2
  | _, _, .cons h n t, j + 1, ys, e => by
    have := RvSs.new ha t j ys (by simpa using e)
    simpa using this
theorem anti_RO {K : PySem.W.Frag} : Anti (RO K) := fun _ _ _ _ _ _ x h => RvSs.base x h
structure SVs (W : Wd) (c : Ct) (es : List Expr) (p : Eps) : Prop where
  val : ∀ X, XOk W c X → PA X es (sem W c.E (RO W.K) fun env => evalVs W.cs p env)
section
variable {W : Wd} {c : Ct}
theorem svs_nil : SVs W c [] .nil := by
  refine ⟨fun X x => PA.imp pa_nil fun σ H Q q => ?_⟩
  obtain ⟨H0, g, env, S, wk, en, w⟩ := q
  exact w [] g H (.refl _ _) wk .nil
theorem svs_cons {e : Expr} {es : List Expr} {p : Ep} {ps : Eps} (hs : notStar e = true) (h : SE W c e p) (hr : SVs W c es ps) : SVs W c (e :: es) (.cons p ps) := by
  refine ⟨fun X x => PA.imp (pa_cons (h.val false X x) (hr.val X x) (star_eq hs)) fun σ H Q q => ?_⟩
  obtain ⟨H0, g, env, S, wk, en, w⟩ := q
  refine sem_seq' wk en w fun r S1 v g1 H1 e1 wk1 x1 w1 => ?_
  have x1 : RvS W.K H g1 H1 v r := x1
  have w1 := WP.bnd w1
  refine ⟨H0, g1, env, S1, wk1, en.evo e1, w1.mono (fun rs S2 w2 vs g2 H2 e2 wk2 x2 => ?_) fun n S2 q => QX.shift e1 q⟩
  have x2 : RvSs W.K H1 g2 H2 vs rs := x2
  refine w2 (v :: vs) g2 H2 (e1.trans e2) wk2 (.cons (x1.evo e2) (fun xs er j ys hj hv => ?_) (x2.base e1.alive))
  subst er
  obtain ⟨a, us, rfl, ha, _⟩ := x1
  exact x2.new ha j ys hj hv
theorem EnvOk.putR {K : PySem.W.Frag} {g : G} {H H0 H1 : Hp} {env : Env} {σ : L2.St} {v : V} {r : Rv} (en : EnvOk K H0 g H1 env σ) (x : RvS K H0 g H1 v r) (hn : ∀ xs, r = .ow xs → ∀ (j : Nat) ys, env[j]? = some (some (.ow ys)) → σ[j]? ≠ some (some v)) (i : Nat) : EnvOk K H0 g H1 (env.set i (some r)) (σ.set i (some v)) :=
  en.setR i x fun xs er j ys _ hs => hn xs er j ys hs
/-- a new list stands in no slot -/
theorem EnvOk.no {K : PySem.W.Frag} {g : G} {H H0 : Hp} {env : Env} {σ : L2.St} {a : Addr} (en : EnvOk K H0 g H env σ) (ha : H a = none) (j : Nat) (ys : List D) (hs : env[j]? = some (some (.ow ys))) : σ[j]? ≠ some (some (.ref a)) := fun hv => by
  obtain ⟨u, h1, b, us, rfl, hb, _⟩ := en.slot j _ hs
  rw [h1] at hv
  cases hv
  rw [ha] at hb
  cases hb
/-- results, one by one, into slots -/
def setV (σ : L2.St) : List Nat → List V → L2.St
  | i :: is, v :: vs => setV (σ.set i (some v)) is vs
  | _, _ => σ
theorem putAll {K : PySem.W.Frag} {g : G} {H H0 H1 : Hp} (e1 : ∀ b, H b = none → H0 b = none) : ∀ {is : List Nat} {vs : List V} {rs : List Rv} {env env' : Env} {σ : L2.St}, EnvOk K H0 g H1 env σ → RvSs K H g H1 vs rs → setAll env is rs = some env' →
    (∀ (k : Nat) xs, rs[k]? = some (.ow xs) → ∀ v, vs[k]? = some v → ∀ (j : Nat) ys, env[j]? = some (some (.ow ys)) → σ[j]? ≠ some (some v)) → EnvOk K H0 g H1 env' (setV σ is vs)
  | [], _, _, env, env', σ, en, .nil, h, hn => by
    have h : some env = some env' := h
    cases h
    exact en
  | i :: is, _, _, env, env', σ, en, .nil, h, hn => by cases h
  | [], _, _, env, env', σ, en, .cons hx n t, h, hn => by cases h
  | i :: is, _, _, env, env', σ, en, .cons (v := v) (vs := vs) (r := r) (rs := rs) hx n t, h, hn => by
    have h : setAll (env.set i (some r)) is rs = some env' := h
    show EnvOk K H0 g H1 env' (setV (σ.set i (some v)) is vs)
    have en' := en.putR (H := H) (hx.base e1) (fun xs er j ys hs => hn 0 xs (by rw [er]; rfl) v rfl j ys hs) i
    refine putAll e1 en' t h fun k xs hk u hu j ys hj => ?_
    by_cases hij : j = i
    · subst hij
      have hl : j < env.length := by
        have := (List.getElem?_eq_some_iff.mp hj).1
        rwa [List.length_set] at this
      rw [List.getElem?_set_self hl] at hj
      cases hj
      rw [List.getElem?_set_self (by rw [← en.len]; exact hl)]
      intro z
      cases z
      exact n ys rfl k xs hk hu
    · rw [List.getElem?_set_ne (Ne.symm hij)] at hj ⊢
      exact hn (k + 1) xs (by simpa using hk) u (by simpa using hu) j ys hj
theorem sem_par {is : List Nat} {es : Eps} {D : Ends} {σ : L2.St} {H : Hp} {E : XK} (q : semS W E (fun env => execS W.cs (.par is es) env) D σ H) : sem W E (RO W.K) (fun env => evalVs W.cs es env) σ H fun vs H1 => vs.length = is.length ∧ D.nx (setV σ is vs) H1 := by
  obtain ⟨g0, H0, g, env, S, e0, wk, en, w⟩ := q
  refine sem_st e0 wk en w fun rs S1 vs g1 H1 e1 wk1 x1 w1 => ?_
  have x1 : RvSs W.K H g1 H1 vs rs := x1
  obtain ⟨env', hs, w2⟩ := WP.optB w1
  refine ⟨?_, w2 _ g1 H1 (e0.trans e1) e1.ext wk1 (putAll e0.alive (en.evo e1) x1 hs fun k xs hk v hv j ys hj => ?_)⟩
  · clear w1 w2 w
    have : ∀ {is : List Nat} {vs : List V} {rs : List Rv} {env env' : Env}, RvSs W.K H g1 H1 vs rs → setAll env is rs = some env' → vs.length = is.length := by
      intro is
      induction is with
      | nil =>
        intro vs rs env env' x h
        cases x with
        | nil => rfl
        | cons _ _ _ => cases h
      | cons i is ih =>
        intro vs rs env env' x h
        cases x with
        | nil => cases h
        | cons h1 h2 h3 => rw [List.length_cons, List.length_cons, ih h3 h]
    exact this x1 hs
  · have : ∀ {vs : List V} {rs : List Rv} {k : Nat}, RvSs W.K H g1 H1 vs rs → rs[k]? = some (.ow xs) → vs[k]? = some v → ∃ a, v = .ref a ∧ H a = none := by
      intro vs rs
      induction vs generalizing rs with
      | nil => intro k x h1 h2; simp at h2
      | cons u us ih =>
        intro k x h1 h2
        cases x with
        | cons h3 h4 h5 =>
          cases k with
          | zero =>
            simp at h1 h2
            subst h1 h2
            obtain ⟨a, _, rfl, _, _, _, _, hn⟩ := h3
            exact ⟨a, rfl, hn⟩
          | succ k => exact ih h5 (by simpa using h1) (by simpa using h2)
    obtain ⟨a, rfl, hn⟩ := this x1 hk hv
    obtain ⟨u, h1, h2⟩ := en.slot j _ ((show (env[j]? = some (some (.ow ys))) from hj))
    exact en.no hn j ys hj
/-- which names are stored swapped, as the scope has it -/
def swS (sc : Scope) (ts vs : List Expr) : Option (Option (List Str)) :=
  if !(ts.length == 2 || ts.length == 3) || vs.length != ts.length || (if sc.kind.isAnnotationScope then ScopeKind.function else sc.kind) != .function then some none
  else if vs.any (fun | .Starred .. => true | _ => false) then some none
  else
    let line := (ts.head?.map (·.pos.line)).getD 0
    let names := ts.filterMap fun
      | .Name id pos => if sc.names.lookup id == some .local && pos.line == line then some id else none
      | _ => none
    if names.length != ts.length || names.eraseDups.length != names.length then some none
    else if vs.all (foldedForSure 8) then some none
    else if vs.all (constantsAlone 8) then none
    else some (some names)
theorem ite_opt {α β : Type} {q : Prop} [Decidable q] {a b : Option α} {r : α} {A B Y : β} (h : (if q then a else b) = some r) (ha : a = some r → A = Y) (hb : b = some r → B = Y) : (if q then A else B) = Y := by
  by_cases z : q
  · rw [if_pos z] at h ⊢
    exact ha h
  · rw [if_neg z] at h ⊢
    exact hb h
theorem sw_eq {ts vs : List Expr} {k k2 : Nat} {p p2 : Pos} {env : PySem.Env} {r : Option (List Str)} (h : swS env.scope ts vs = some r) : swappedStores [.Tuple ts k p] (.Tuple vs k2 p2) env = pure r := by
  unfold swS at h
  unfold swappedStores Env.kindOf Env.blockKind
  have z : ∀ {x : Option (List Str)}, some x = some r → (pure x : Sem (Option (List Str))) = pure r := fun h => by rw [Option.some.inj h]
  refine ite_opt h z fun h => ?_
  refine ite_opt h z fun h => ?_
  refine ite_opt h z fun h => ?_
  refine ite_opt h z fun h => ?_
  exact ite_opt h (fun h => nomatch h) z
theorem lk_of {X : Cx} (x : XOk W c X) {n : Str} (h : c.sc.names.lookup n = some .local) : X.env.scope.names.lookup n = some .local := by
  rw [x.sc]
  exact h
theorem ss_par2 {x y : Str} {i j : Nat} {a b : Expr} {ps : Eps} {px py pt pt2 pos : Pos} {kt k2 : Nat} (hN : c.N.Nodup) (hi : c.N[i]? = some x) (hj : c.N[j]? = some y) (hij : i ≠ j) (hx : c.sc.names.lookup x = some .local) (hy : c.sc.names.lookup y = some .local)
    (hw : swS c.sc [.Name x px, .Name y py] [a, b] = some (some [x, y])) (h : SVs W c [a, b] ps) :
    SS W c (.Assign [.Tuple [.Name x px, .Name y py] kt pt] (.Tuple [a, b] k2 pt2) pos) (.par [i, j] ps) := by
  refine ⟨fun X x => PS.imp (ps_par (i := i) (j := j) x.calm (by rw [x.N]; exact hN) (by rw [x.N]; exact hi) (by rw [x.N]; exact hj) hij (lk_of x.toXOk hx) (lk_of x.toXOk hy) (h.val X x.toXOk) (sw_eq (by rw [x.sc]; exact hw))) fun D σ H q => ?_⟩
  obtain ⟨H0, g, env, S, wk, en, w⟩ := sem_par q
  refine ⟨H0, g, env, S, wk, en, w.mono (fun rs S1 f vs g1 H1 e1 wk1 x1 => ?_) fun _ _ h => h⟩
  obtain ⟨hl, hq⟩ := f vs g1 H1 e1 wk1 x1
  match vs, hl, hq with
  | [v, u], _, hq => exact ⟨v, u, rfl, hq⟩
theorem ss_par3 {x y z : Str} {i j l : Nat} {a b d : Expr} {ps : Eps} {px py pz pt pt2 pos : Pos} {kt k2 : Nat} (hN : c.N.Nodup) (hi : c.N[i]? = some x) (hj : c.N[j]? = some y) (hl : c.N[l]? = some z) (hij : i ≠ j) (hil : i ≠ l) (hjl : j ≠ l)
    (hx : c.sc.names.lookup x = some .local) (hy : c.sc.names.lookup y = some .local) (hz : c.sc.names.lookup z = some .local)
    (hw : swS c.sc [.Name x px, .Name y py, .Name z pz] [a, b, d] = some (some [x, y, z])) (h : SVs W c [a, b, d] ps) :
    SS W c (.Assign [.Tuple [.Name x px, .Name y py, .Name z pz] kt pt] (.Tuple [a, b, d] k2 pt2) pos) (.par [i, j, l] ps) := by
  refine ⟨fun X x => PS.imp (L2.ps_par3 (i := i) (j := j) (l := l) x.calm (by rw [x.N]; exact hN) (by rw [x.N]; exact hi) (by rw [x.N]; exact hj) (by rw [x.N]; exact hl) hij hil hjl (lk_of x.toXOk hx) (lk_of x.toXOk hy) (lk_of x.toXOk hz) (h.val X x.toXOk) (sw_eq (by rw [x.sc]; exact hw))) fun D σ H q => ?_⟩
  obtain ⟨H0, g, env, S, wk, en, w⟩ := sem_par q
  refine ⟨H0, g, env, S, wk, en, w.mono (fun rs S1 f vs g1 H1 e1 wk1 x1 => ?_) fun _ _ h => h⟩
  obtain ⟨hl, hq⟩ := f vs g1 H1 e1 wk1 x1
  match vs, hl, hq with
  | [v, u, t], _, hq => exact ⟨v, u, t, rfl, hq⟩
/-- the same through a tuple that is made and taken apart -/
theorem sem_parT {is : List Nat} {es : Eps} {D : Ends} {σ : L2.St} {H : Hp} {E : XK} (q : semS W E (fun env => execS W.cs (.par is es) env) D σ H) :
    sem W E (RO W.K) (fun env => evalVs W.cs es env) σ H fun vs H1 => vs.length = is.length ∧ ∀ p, H1 p = none → D.nx (setV σ is vs) (upd H1 p (.tup vs)) := by
  obtain ⟨g0, H0, g, env, S, e0, wk, en, w⟩ := q
  have key := sem_par (W := W) (is := is) (es := es) (D := { D with nx := fun σ' H' => ∀ (p : Addr) (o : HO), H' p = none → D.nx σ' (upd H' p o) }) (σ := σ) (H := H) (E := E) ⟨g0, H0, g, env, S, e0, wk, en, w.mono (fun o S1 h σ' g' H' e' x' wk' en' => by
    obtain ⟨fl, env'⟩ := o
    cases fl with
    | nx =>
      intro p o hp
      obtain ⟨wk2, e2⟩ := wk'.newOw (o := o) hp
      exact h σ' g' (upd H' p o) (e'.trans e2) (x'.trans e2.ext) wk2 (en'.evo e2)
    | brk => exact h σ' g' H' e' x' wk' en'
    | ct => exact h σ' g' H' e' x' wk' en'
    | ret r => exact fun v hv => h σ' g' H' e' x' wk' en' v hv) fun _ _ h => h⟩
  obtain ⟨H2, g2, env2, S2, wk2, en2, w2⟩ := key
  exact ⟨H2, g2, env2, S2, wk2, en2, w2.mono (fun rs S1 f vs g1 H1 e1 wk1 x1 => ⟨(f vs g1 H1 e1 wk1 x1).1, fun p hp => (f vs g1 H1 e1 wk1 x1).2 p _ hp⟩) fun _ _ h => h⟩
/-- plain names, each with its slot -/
def nmsC (N : List Str) (sc : Scope) (fn : Str → Bool) : List Nat → List Expr → Bool
  | [], [] => true
  | i :: is, .Name x _ :: es => decide (N[i]? = some x) && (sc.names.lookup x == some .local || (sc.names.lookup x == some .cell && fn x)) && nmsC N sc fn is es
  | _, _ => false
theorem nms_ok (hN : c.N.Nodup) {X : Cx} (x : XOk W c X) : ∀ {is : List Nat} {es : List Expr}, nmsC c.N c.sc c.fn is es = true → es.length = is.length ∧ (∀ env : PySem.Env, (assignEach es env).length = es.length ∧ (assignEach es env).findIdx? (·.1) = none) ∧
    ∃ t, PGs X es t ∧ ∀ vs σ H Q, vs.length = is.length → Q (setV σ is vs) H → t vs σ H Q
  | [], [], _ => ⟨rfl, fun _ => ⟨rfl, rfl⟩, gNil, pgs_nil, fun vs σ H Q hl h => ⟨List.length_eq_zero_iff.mp hl, by
      cases vs with
      | nil => exact h
      | cons _ _ => cases hl⟩⟩
  | i :: is, e :: es, h => by
    cases e with
    | Name y pos =>
      unfold nmsC at h
      rw [Bool.and_eq_true, Bool.and_eq_true] at h
      obtain ⟨⟨h1, h2⟩, h3⟩ := h
      obtain ⟨l, ea, t, ht, hq⟩ := nms_ok hN x h3
      have hl : isLoc c y = true := h2
      refine ⟨by rw [List.length_cons, List.length_cons, l], fun env => ?_, gCons (gName i) t, pgs_cons (pg_name (i := i) (by rw [x.N]; exact hN) (by rw [x.N]; exact of_decide_eq_true h1) (loc_of x hl).1 (loc_of x hl).2) ht (by rw [each_cons rfl]; rfl), fun vs σ H Q hv q => ?_⟩
      · obtain ⟨k1, k2⟩ := ea env
        rw [each_cons rfl]
        exact ⟨by rw [List.length_cons, List.length_cons, k1], by rw [List.findIdx?_cons]; simp [k2]⟩
      · cases vs with
        | nil => cases hv
        | cons v vs => exact ⟨v, vs, rfl, hq vs _ H Q (by simpa using hv) q⟩
    | _ => cases h
  | [], _ :: _, h => by cases h
  | _ :: _, [], h => by cases h
theorem ss_parN {ts es : List Expr} {is : List Nat} {ps : Eps} {k k2 : Nat} {p1 p2 pos : Pos} (hN : c.N.Nodup) (hw : swS c.sc ts es = some none) (hn : nmsC c.N c.sc c.fn is ts = true) (hz : Nat.ble is.length 9 = true) (h : SVs W c es ps) :
    SS W c (.Assign [.Tuple ts k p1] (.Tuple es k2 p2) pos) (.par is ps) := by
  refine ⟨fun X x => ?_⟩
  obtain ⟨l, ea, t, ht, hq⟩ := nms_ok hN x.toXOk hn
  refine PS.imp (ps_asg (pe_tup (h.val X x.toXOk)) (pg_tup (n := ts.length) x.calm ht (ea X.env).1 (ea X.env).2) rfl (sw_eq (by rw [x.sc]; exact hw)) rfl) fun D σ H q => ?_
  obtain ⟨H0, g, env, S, wk, en, w⟩ := sem_parT q
  refine ⟨H0, g, env, S, wk, en, w.mono (fun rs S1 f vs g1 H1 e1 wk1 x1 => ?_) fun _ _ h => h⟩
  obtain ⟨hl, hd⟩ := f vs g1 H1 e1 wk1 x1
  have hz := Nat.le_of_ble_eq_true hz
  refine ⟨by rw [hl]; exact Nat.le_trans hz (by decide), fun p hp => ⟨p, vs, rfl, SqT.of upd_same, by rw [hl, l], hq vs σ _ _ hl (hd p hp)⟩⟩
/-- a tuple is made and taken apart -/
theorem ss_unpT {es vs : List Expr} {ts : List Tg} {p : Ep} {k k2 : Nat} {p1 p2 pos : Pos} (hw : swS c.sc es vs = some none) (hg : SGs W c es ts) (h : SE W c (.Tuple vs k2 p2) p) : SS W c (.Assign [.Tuple es k p1] (.Tuple vs k2 p2) pos) (.unp (.tp ts) p) := by
  refine ⟨fun X x => PS.imp (ps_asg (h.val true X x.toXOk) ((sg_tup hg).val X x.toXOk) rfl (sw_eq (by rw [x.sc]; exact hw)) rfl) fun D σ H q => ?_⟩
  obtain ⟨g0, H0, g, env, S, e0, wk, en, w⟩ := q
  refine sem_st e0 wk en w fun r S1 v g1 H1 e1 wk1 x1 w1 => ?_
  obtain ⟨env', hb, w2⟩ := WP.optB w1
  have hr : RD W.K g1 v r.d := by
    cases r with
    | fz d => exact x1
    | ow ds => cases hb
  exact ⟨H0, g1, env, S1, r.d, env', wk1, en.evo e1, hr, hb, fun σ' en' _ _ => w2 σ' g1 H1 (e0.trans e1) e1.ext wk1 en'⟩

/-! ### writes into lists -/
theorem EnvOk.wr {K : PySem.W.Frag} {g : G} {H H0 : Hp} {env : Env} {σ : L2.St} {i : Nat} {a : Addr} {vs' : List V} {xs xs' : List D} (en : EnvOk K H0 g H env σ) (he : env[i]? = some (some (.ow xs))) (hs : σ[i]? = some (some (.ref a))) (hr : RDs K g vs' xs') :
    EnvOk K H0 g (upd H a (.lst vs')) (env.set i (some (.ow xs'))) σ := by
  have hl : i < env.length := (List.getElem?_eq_some_iff.mp he).1
  obtain ⟨v, h1, b, us, rfl, hb, _, hf, hc, hn⟩ := en.slot i _ he
  rw [hs] at h1
  cases h1
  have dif : ∀ (j : Nat) ys, j ≠ i → env[j]? = some (some (.ow ys)) → σ[j]? ≠ some (some (.ref a)) := fun j ys hj h z => en.apart j i a ys xs hj h he z hs
  refine ⟨by rw [List.length_set]; exact en.len, fun j r hj => ?_, fun j k b ys zs hjk h3 h4 h5 h6 => ?_⟩
  · by_cases hij : j = i
    · subst hij
      rw [List.getElem?_set_self hl] at hj
      cases hj
      exact ⟨_, hs, a, vs', rfl, upd_same, hr, hf, hc, hn⟩
    · rw [List.getElem?_set_ne (Ne.symm hij)] at hj
      obtain ⟨u, k1, k2⟩ := en.slot j r hj
      refine ⟨u, k1, ?_⟩
      cases r with
      | fz d => exact k2
      | ow ds =>
        obtain ⟨b, us, rfl, hb2, hr2, hf2, hc2, hn2⟩ := k2
        have : b ≠ a := fun z => dif j ds hij hj (z ▸ k1)
        exact ⟨b, us, rfl, by rw [upd_ne this]; exact hb2, hr2, hf2, hc2, hn2⟩
  · have get : ∀ (m : Nat) {zs : List D}, (env.set i (some (.ow xs')))[m]? = some (some (.ow zs)) → ∃ ws, env[m]? = some (some (.ow ws)) := fun m zs e => by
      by_cases z : m = i
      · subst z
        exact ⟨_, he⟩
      · rw [List.getElem?_set_ne (Ne.symm z)] at e
        exact ⟨_, e⟩
    obtain ⟨_, q1⟩ := get j h3
    obtain ⟨_, q2⟩ := get k h4
    exact en.apart j k b _ _ hjk q1 q2 h5 h6
theorem Evo.cell {g0 g : G} {H0 H : Hp} (e : Evo g0 H0 g H) {p : Addr} {o : HO} (hp : p ∈ g.C) (hH : H p ≠ none) : Evo g0 H0 g (upd H p o) := by
  refine ⟨e.ext, fun b u h n => ?_, fun b h => ?_, e.newF, e.newC⟩
  · by_cases hb : b = p
    · subst hb
      have := e.newC b hp n
      rw [h] at this
      cases this
    · rw [upd_ne hb]
      exact e.keep b u h n
  · by_cases hb : b = p
    · subst hb
      rw [upd_same] at h
      cases h
    · rw [upd_ne hb] at h
      exact e.alive b h
theorem Wok.cellSet {K : PySem.W.Frag} {g : G} {H : Hp} {S : Store} {n : Nat} {a : Addr} {vs : List V} {ds : List D} (w : Wok K g H S) (h : g.C[n]? = some a) (hr : RDs K g vs ds) : Wok K g (upd H a (.lst vs)) (S.set n (.lst ds)) := by
  have hm : a ∈ g.C := List.mem_of_getElem? h
  refine ⟨fun b u e => ?_, by rw [List.length_set]; exact w.len, w.nd, w.off, fun m b c h1 h2 => ?_⟩
  · have : b ≠ a := fun z => by
      rw [z, w.off a hm] at e
      cases e
    rw [upd_ne this]
    exact w.sub _ _ e
  · by_cases hmn : m = n
    · subst hmn
      rw [h] at h1
      cases h1
      have hl : m < S.length := by
        have := (List.getElem?_eq_some_iff.mp h2).1
        rwa [List.length_set] at this
      rw [List.getElem?_set_self hl] at h2
      cases h2
      exact ⟨vs, upd_same, hr⟩
    · rw [List.getElem?_set_ne (Ne.symm hmn)] at h2
      have : b ≠ a := fun z => by
        subst z
        exact hmn ((List.getElem?_inj (List.getElem?_eq_some_iff.mp h1).1 w.nd).mp (h1.trans h.symm))
      exact (w.cel m b c h1 h2).mono (.refl g) (by rw [upd_ne this])
theorem EnvOk.cell {K : PySem.W.Frag} {g : G} {H H0 : Hp} {env : Env} {σ : L2.St} {a : Addr} {o : HO} (en : EnvOk K H0 g H env σ) (hp : a ∈ g.C) : EnvOk K H0 g (upd H a o) env σ := by
  refine ⟨en.len, fun j r hj => ?_, en.apart⟩
  obtain ⟨u, k1, k2⟩ := en.slot j r hj
  refine ⟨u, k1, ?_⟩
  cases r with
  | fz d => exact k2
  | ow ds =>
    obtain ⟨b, us, rfl, hb2, hr2, hf2, hc2, hn2⟩ := k2
    have : b ≠ a := fun z => hc2 (z ▸ hp)
    exact ⟨b, us, rfl, by rw [upd_ne this]; exact hb2, hr2, hf2, hc2, hn2⟩
theorem ss_stx {x : Str} {i : Nat} {ix e : Expr} {pi pe : Ep} {p1 p2 pos : Pos} (hN : c.N[i]? = some x) (hv : Vis c.sc x) (hd : (x == ("__debug__" : Str)) = false) (hcd : (x == ("__classdict__" : Str)) = false) (hns : notSlice ix = true) (hc : notComp e = true) (ht : notTup e = true) (hix : SE W c ix pi) (h : SE W c e pe) :
    SS W c (.Assign [.Subscript (.Name x p1) ix p2] e pos) (.stx i pi pe) := by
  refine ⟨fun X x => PS.imp (ps_asg (h.val false X x.toXOk) (pg_sub (pe_var (i := i) (by rw [x.N]; exact hN) (by rw [x.sc]; exact hv) hd hcd) (hix.val true X x.toXOk) set_list (by intro _; first | rfl | (cases ix <;> first | rfl | cases hns))) (by cases e <;> first | rfl | cases hc) (by cases e <;> first | rfl | cases ht) rfl) fun D σ H q => ?_⟩
  obtain ⟨g0, H0, g, env, S, e0, wk, en, w⟩ := q
  refine sem_st e0 wk en w fun r S1 v g1 H1 e1 wk1 x1 w1 => ?_
  obtain ⟨g1', e1', wk1', en1', d1', ex1⟩ := freeze1 en e1 wk1 (show RvS W.K H g1 H1 v r from x1)
  have e01 := e0.trans e1'
  -- the slot of x
  obtain ⟨rv, hrv, w1⟩ := WP.optB w1
  have hslot : ∃ q, env[i]? = some (some q) := by
    unfold rdVar at hrv
    split at hrv
    · exact ⟨_, by assumption⟩
    · exact ⟨_, by assumption⟩
    · cases hrv
  obtain ⟨q0, hq0⟩ := hslot
  obtain ⟨v0, hv0, hr0⟩ := en1'.slot i q0 hq0
  refine ⟨v0, hv0, ?_⟩
  refine ⟨H0, g1', env, S1, wk1', en1', (WP.bnd w1).mono (fun k S2 w2 v2 g2 H2 e2 wk2 x2 => ?_) fun n S2 q => QX.shift e01 q⟩
  have en2 := en1'.evo e2
  have d2 := d1'.mono e2.ext
  have e02 := e01.trans e2
  have hk := Res.rb x2
  have w2 := WP.bnd w2
  unfold stxop at w2
  rw [hq0] at w2
  have ek : ∃ kk, k.d = .int kk := by
    cases hkd : k.d with
    | int kk => exact ⟨kk, rfl⟩
    | _ =>
      rw [hkd] at w2
      cases q0 with
      | ow xs => exact w2.elim
      | fz d => cases d <;> exact w2.elim
  obtain ⟨kk, hkd⟩ := ek
  rw [hkd] at w2 hk
  have fin : ∀ {b : Addr} {vs : List V} {ds : List Mini.D} {j : Nat}, v0 = .ref b → H2 b = some (.lst vs) → RDs W.K g2 vs ds → ixN ds.length kk = some j → D.nx σ (upd H2 b (.lst (vs.set j v))) → ∃ p xs k j, v0 = .ref p ∧ v2 = .int k ∧ H2 p = some (.lst xs) ∧ ixN xs.length k = some j ∧ D.nx σ (upd H2 p (.lst (xs.set j v))) :=
    fun h1 h2 h3 h4 h5 => ⟨_, _, kk, _, h1, hk.int, h2, by rw [h3.length]; exact h4, h5⟩
  obtain ⟨_, k1, k2⟩ := en2.slot i _ hq0
  rw [hv0] at k1
  cases k1
  cases q0 with
  | ow xs =>
    obtain ⟨a, vs, rfl, ha, hr, hf, hc, hn⟩ := k2
    have w2 : WP ((match ixN xs.length kk with | some j => M.ret (env.set i (some (.ow (xs.set j r.d)))) | none => M.stk) S2) _ _ := w2
    cases hj : ixN xs.length kk with
    | none => rw [hj] at w2; exact w2.elim
    | some j =>
      rw [hj] at w2
      exact fin rfl ha hr hj (w2 σ g2 (upd H2 a (.lst (vs.set j v))) (e02.chg hn) (e1.ext.trans (ex1.trans e2.ext)) (wk2.chg hf hc) (en2.wr hq0 hv0 (hr.set d2 j)))
  | fz d =>
    cases d with
    | cell n =>
      obtain ⟨a, rfl, hg⟩ := Rb.cell (K := W.K) (g := g2) (H := H2) (.inl k2)
      have w2 : WP (match S2[n]? with | some (.lst xs) => (match ixN xs.length kk with | some j => Out.ok env (S2.set n (.lst (xs.set j r.d))) | none => .stuck) | _ => .stuck) _ _ := w2
      cases hS : S2[n]? with
      | none => rw [hS] at w2; exact w2.elim
      | some cv =>
        rw [hS] at w2
        cases cv with
        | lst xs =>
          have w2 : WP (match ixN xs.length kk with | some j => Out.ok env (S2.set n (.lst (xs.set j r.d))) | none => .stuck) _ _ := w2
          cases hj : ixN xs.length kk with
          | none => rw [hj] at w2; exact w2.elim
          | some j =>
            rw [hj] at w2
            obtain ⟨vs, ha, hr⟩ := wk2.cel n a _ hg hS
            have hm : a ∈ g2.C := List.mem_of_getElem? hg
            exact fin rfl ha hr hj (w2 σ g2 (upd H2 a (.lst (vs.set j v))) (e02.cell hm (by rw [ha]; simp)) (e1.ext.trans (ex1.trans e2.ext)) (wk2.cellSet hg (hr.set d2 j)) (en2.cell hm))
        | _ => exact w2.elim
    | _ => exact w2.elim
theorem ss_app {x : Str} {i : Nat} {e : Expr} {pe : Ep} {p1 apos cpos pos : Pos} (hN : c.N[i]? = some x) (hv : Vis c.sc x) (hd : (x == ("__debug__" : Str)) = false) (hcd : (x == ("__classdict__" : Str)) = false) (hs : notStar e = true) (hline : (apos.endLine == cpos.line) = true) (h : SE W c e pe) :
    SS W c (.Expr (.Call (.Attribute (.Name x p1) "append" apos) [e] [] cpos) pos) (.app i pe) := by
  refine ⟨fun X x => PS.imp (ps_expr (pe_bm PySem.F.plainAttrs_list PySem.F.slot_list_append PySem.F.type_list_append mt_append (pe_var (i := i) (by rw [x.N]; exact hN) (by rw [x.sc]; exact hv) hd hcd) (pa_cons (h.val false X x.toXOk) pa_nil (star_eq hs)) rfl (by rw [star_eq hs]; rfl) hline (star_eq hs) rfl)) fun D σ H q => ?_⟩
  obtain ⟨g0, H0, g, env, S, e0, wk, en, w⟩ := q
  obtain ⟨xs, hx, w⟩ := WP.optB w
  have he : env[i]? = some (some (.ow xs)) := by
    unfold owAt at hx
    split at hx
    · cases hx
      assumption
    · cases hx
  obtain ⟨_, hv0, a, vs, rfl, ha, hr, hf, hc, hn⟩ := en.slot i _ he
  refine ⟨.ref a, hv0, .inl ⟨rfl, vs, by rw [x.K]; exact SqL.of ha⟩, ?_⟩
  refine sem_st e0 wk en w fun r S1 v g1 H1 e1 wk1 x1 w1 => ?_
  obtain ⟨g1', e1', wk1', en1', d1', ex1⟩ := freeze1 en e1 wk1 (show RvS W.K H g1 H1 v r from x1)
  obtain ⟨hz, w1⟩ := WP.ite w1
  obtain ⟨_, k1, a', vs', e3, ha', hr', hf', hc', hn'⟩ := en1'.slot i _ he
  rw [hv0] at k1
  cases k1
  cases e3
  refine ⟨a, vs', v, rfl, rfl, ha', by rw [hr'.length]; exact hz, ?_⟩
  exact w1 σ g1' (upd H1 a (.lst (vs' ++ [v]))) ((e0.trans e1').chg hn') (e1.ext.trans ex1) (wk1'.chg hf' hc') (en1'.wr he hv0 (hr'.append (.cons d1' .nil)))

/-! ### for, while -/
theorem ss_for {tg iter : Expr} {t : Tg} {src : Src} {body : List Stmt} {pb : Sms} {pos : Pos} (hset : notSet iter = true) (hi : SI W c false tg iter src) (hg : SG W c tg t) (hb : SSs W c body pb) : SS W c (.For tg iter body [] pos) (.for_ t src pb) := by
  refine ⟨fun X x => PS.imp (ps_for x.po x.calm (hi.val X x.toXOk) (hg.val X x.toXOk) (hb.val X x) (set_eq hset)) fun D σ H q => ?_⟩
  obtain ⟨g0, H0, g, env, S, e0, wk, en, w⟩ := q
  refine ⟨H0, g, env, S, wk, en, (WP.bnd w).mono (fun ds S1 w1 g1 H1 J e1 wk1 en1 wJ => ?_) fun n S2 q => QX.shift e0 q⟩
  generalize hf : (fun x env => M.bnd (M.opt (bindTg t x env)) fun env' => execSs W.cs pb env') = f at w1
  let Wt : Nat → L2.St → Hp → Prop := fun i σ H2 => i ≤ ds.length ∧ ∃ g2 env2 S2, Evo g0 H0 g2 H2 ∧ Ext g1 g2 ∧ Wok W.K g2 H2 S2 ∧ EnvOk W.K H0 g2 H2 env2 σ ∧ WP (forM f (ds.drop i) env2 S2) (StQ W g0 H0 g1 D) (QX W.K W.cl c.E g0 H0)
  refine ⟨fun i m σ H2 => m = ds.length - i ∧ Wt i σ H2, ⟨ds.length, by simp, Nat.zero_le _, g1, env, S1, e0.trans e1, .refl _, wk1, en1, WP.mono w1 (fun o S h => StQ.shift e1.ext h) fun _ _ h => h⟩, ?_⟩
  rintro i m σ2 H2 ⟨rfl, hi', g2, env2, S2, e2, x2, wk2, en2, w2⟩
  by_cases hlt : i < ds.length
  · refine .inr ⟨wJ.go i g2 H2 S2 hlt x2 wk2, Wt (i + 1), fun σ' H' p => ⟨ds.length - (i + 1), by omega, rfl, p⟩, fun v H3 y => ?_⟩
    obtain ⟨g3, e3, wk3, r3⟩ := wJ.yld i ds[i] g2 H2 S2 v H3 (List.getElem?_eq_getElem hlt) x2 wk2 y
    rw [List.drop_eq_getElem_cons hlt] at w2
    have w2 := WP.bnd (show WP (M.bnd (f ds[i] env2) (fun o => match o.1 with | .nx => forM f (ds.drop (i + 1)) o.2 | .ct => forM f (ds.drop (i + 1)) o.2 | .brk => M.ret (.nx, o.2) | .ret r => M.ret (.ret r, o.2)) S2) (StQ W g0 H0 g1 D) (QX W.K W.cl c.E g0 H0) from w2)
    have hfi : f ds[i] env2 = M.bnd (M.opt (bindTg t ds[i] env2)) fun env' => execSs W.cs pb env' := by rw [← hf]
    rw [hfi] at w2
    obtain ⟨env', hb', w3⟩ := WP.optB w2
    refine ⟨H0, g3, env2, S2, ds[i], env', wk3, en2.evo e3, r3, hb', fun σ' en' hl' ho' => ?_⟩
    refine ⟨g0, H0, g3, env', S2, e2.trans e3, wk3, en', w3.mono (fun o S4 h σ4 g4 H4 e4 x4 wk4 en4 => ?_) fun _ _ h => h⟩
    obtain ⟨fl, env4⟩ := o
    have x14 : Ext g1 g4 := (x2.trans e3.ext).trans x4
    cases fl with
    | nx => exact ⟨by omega, g4, env4, S4, e4, x14, wk4, en4, h⟩
    | ct => exact ⟨by omega, g4, env4, S4, e4, x14, wk4, en4, h⟩
    | brk => exact h σ4 g4 H4 e4 x14 wk4 en4
    | ret r => exact fun v hv => h σ4 g4 H4 e4 x14 wk4 en4 v hv
  · have hie : i = ds.length := by omega
    subst hie
    refine .inl ⟨wJ.stop g2 H2 S2 x2 wk2, ?_⟩
    rw [List.drop_length] at w2
    exact w2 σ2 g2 H2 e2 x2 wk2 en2
theorem ss_whl {t : Expr} {pt : Ep} {body : List Stmt} {pb : Sms} {pos : Pos} (ht : SE W c t pt) (hb : SSs W c body pb) : SS W c (.While t body [] pos) (.whl pt pb) := by
  refine ⟨fun X x => PS.imp (ps_while x.po (ht.tst X x.toXOk) (hb.val X x)) fun D σ H q => ?_⟩
  obtain ⟨g0, H0, g, env, S, e0, wk, en, w⟩ := q
  have w : WP (whlM (fun env => evalB W.cs pt env) (fun env => execSs W.cs pb env) WF env S) (StQ W g0 H0 g D) (QX W.K W.cl c.E g0 H0) := w
  generalize hf : (fun env => execSs W.cs pb env) = f at w
  generalize hT : (fun env => evalB W.cs pt env) = tt at w
  let Wt : Nat → L2.St → Hp → Prop := fun m σ H2 => ∃ g2 env2 S2, Evo g0 H0 g2 H2 ∧ Ext g g2 ∧ Wok W.K g2 H2 S2 ∧ EnvOk W.K H0 g2 H2 env2 σ ∧ WP (whlM tt f m env2 S2) (StQ W g0 H0 g D) (QX W.K W.cl c.E g0 H0)
  refine ⟨Wt, ⟨WF, g, env, S, e0, .refl _, wk, en, w⟩, ?_⟩
  rintro m σ2 H2 ⟨g2, env2, S2, e2, x2, wk2, en2, w2⟩
  cases m with
  | zero => exact w2.elim
  | succ m =>
    have w2 := WP.bnd (show WP (M.bnd (tt env2) (fun b => if b then M.bnd (f env2) fun o => match o.1 with | .nx => whlM tt f m o.2 | .ct => whlM tt f m o.2 | .brk => M.ret (.nx, o.2) | .ret r => M.ret (.ret r, o.2) else M.ret (.nx, env2)) S2) (StQ W g0 H0 g D) (QX W.K W.cl c.E g0 H0) from w2)
    have hte : tt env2 = evalB W.cs pt env2 := by rw [← hT]
    rw [hte] at w2
    refine ⟨H0, g2, env2, S2, wk2, en2, w2.mono (fun k S3 w3 b g3 H3 e3 wk3 x3 => ?_) fun n S q => QX.shift e2 q⟩
    cases x3
    have x13 := x2.trans e3.ext
    cases k with
    | false =>
      rw [if_neg (by decide)]
      exact w3 σ2 g3 H3 (e2.trans e3) x13 wk3 (en2.evo e3)
    | true =>
      rw [if_pos rfl]
      have w3 := WP.bnd (show WP (M.bnd (f env2) (fun o => match o.1 with | .nx => whlM tt f m o.2 | .ct => whlM tt f m o.2 | .brk => M.ret (.nx, o.2) | .ret r => M.ret (.ret r, o.2)) S3) (StQ W g0 H0 g D) (QX W.K W.cl c.E g0 H0) from w3)
      refine ⟨Wt m, fun σ' H' p => ⟨m, Nat.lt_succ_self m, p⟩, ?_⟩
      refine ⟨g0, H0, g3, env2, S3, e2.trans e3, wk3, en2.evo e3, WP.mono w3 (fun o S4 h σ4 g4 H4 e4 x4 wk4 en4 => ?_) fun _ _ h => h⟩
      obtain ⟨fl, env4⟩ := o
      have x14 : Ext g g4 := x13.trans x4
      cases fl with
      | nx => exact ⟨g4, env4, S4, e4, x14, wk4, en4, h⟩
      | ct => exact ⟨g4, env4, S4, e4, x14, wk4, en4, h⟩
      | brk => exact h σ4 g4 H4 e4 x14 wk4 en4
      | ret r => exact fun v hv => h σ4 g4 H4 e4 x14 wk4 en4 v hv
end
end Mini
/-! SoundL: a look at a def: is this text of the small language that def's? -/
namespace Mini
open PySem PySem.Spec PyProof.Rows L2

/-! ### shapes -/
def vName : Expr → Option Str
  | .Name x _ => some x
  | _ => none
theorem vName_ok {e : Expr} {x : Str} (h : vName e = some x) : ∃ pos, e = .Name x pos := by
  cases e <;> first | (cases h; done) | (cases h; exact ⟨_, rfl⟩)
def vCst : Expr → Option Const
  | .Constant c _ _ => some c
  | _ => none
theorem vCst_ok {e : Expr} {x : Const} (h : vCst e = some x) : ∃ k pos, e = .Constant x k pos := by
  cases e <;> first | (cases h; done) | (cases h; exact ⟨_, _, rfl⟩)
def vBin : Expr → Option (Expr × Operator × Expr)
  | .BinOp a o b _ => some (a, o, b)
  | _ => none
theorem vBin_ok {e a b : Expr} {o : Operator} (h : vBin e = some (a, o, b)) : ∃ pos, e = .BinOp a o b pos := by
  cases e <;> first | (cases h; done) | (cases h; exact ⟨_, rfl⟩)
def vUn : Expr → Option (UnaryOp × Expr)
  | .UnaryOp o a _ => some (o, a)
  | _ => none
theorem vUn_ok {e a : Expr} {o : UnaryOp} (h : vUn e = some (o, a)) : ∃ pos, e = .UnaryOp o a pos := by
  cases e <;> first | (cases h; done) | (cases h; exact ⟨_, rfl⟩)
def vCmp : Expr → Option (Expr × List CmpOp × List Expr)
  | .Compare a os es _ => some (a, os, es)
  | _ => none
theorem vCmp_ok {e a : Expr} {os : List CmpOp} {es : List Expr} (h : vCmp e = some (a, os, es)) : ∃ pos, e = .Compare a os es pos := by
  cases e <;> first | (cases h; done) | (cases h; exact ⟨_, rfl⟩)
def vBool : Expr → Option (BoolOp × List Expr × Pos)
  | .BoolOp o es p => some (o, es, p)
  | _ => none
theorem vBool_ok {e : Expr} {o : BoolOp} {es : List Expr} {p : Pos} (h : vBool e = some (o, es, p)) : e = .BoolOp o es p := by
  cases e <;> first | (cases h; done) | (cases h; rfl)
def vIf : Expr → Option (Expr × Expr × Expr)
  | .IfExp a b c _ => some (a, b, c)
  | _ => none
theorem vIf_ok {e a b c : Expr} (h : vIf e = some (a, b, c)) : ∃ pos, e = .IfExp a b c pos := by
  cases e <;> first | (cases h; done) | (cases h; exact ⟨_, rfl⟩)
def vTup : Expr → Option (List Expr)
  | .Tuple es _ _ => some es
  | _ => none
theorem vTup_ok {e : Expr} {es : List Expr} (h : vTup e = some es) : ∃ k pos, e = .Tuple es k pos := by
  cases e <;> first | (cases h; done) | (cases h; exact ⟨_, _, rfl⟩)
def vLst : Expr → Option (List Expr)
  | .List es _ => some es
  | _ => none
theorem vLst_ok {e : Expr} {es : List Expr} (h : vLst e = some es) : ∃ pos, e = .List es pos := by
  cases e <;> first | (cases h; done) | (cases h; exact ⟨_, rfl⟩)
def vSub : Expr → Option (Expr × Expr)
  | .Subscript a b _ => some (a, b)
  | _ => none
theorem vSub_ok {e a b : Expr} (h : vSub e = some (a, b)) : ∃ pos, e = .Subscript a b pos := by
  cases e <;> first | (cases h; done) | (cases h; exact ⟨_, rfl⟩)
def vSl : Expr → Option (Option Expr × Option Expr × Option Expr)
  | .Slice a b c _ => some (a, b, c)
  | _ => none
theorem vSl_ok {e : Expr} {a b c : Option Expr} (h : vSl e = some (a, b, c)) : ∃ pos, e = .Slice a b c pos := by
  cases e <;> first | (cases h; done) | (cases h; exact ⟨_, rfl⟩)
def vCall : Expr → Option (Expr × List Expr × List Keyword)
  | .Call f es ks _ => some (f, es, ks)
  | _ => none
theorem vCall_ok {e f : Expr} {es : List Expr} {ks : List Keyword} (h : vCall e = some (f, es, ks)) : ∃ pos, e = .Call f es ks pos := by
  cases e <;> first | (cases h; done) | (cases h; exact ⟨_, rfl⟩)
/-- a call of a name, without keywords -/
def vCallN (e : Expr) : Option (Str × List Expr) := match vCall e with
  | some (f, es, []) => (vName f).map fun n => (n, es)
  | _ => none
theorem vCallN_ok {e : Expr} {n : Str} {es : List Expr} (h : vCallN e = some (n, es)) : ∃ p pos, e = .Call (.Name n p) es [] pos := by
  unfold vCallN at h
  split at h
  · rename_i f es' hc
    obtain ⟨pos, rfl⟩ := vCall_ok hc
    obtain ⟨m, hm, e⟩ := Option.map_eq_some_iff.mp h
    cases e
    obtain ⟨p, rfl⟩ := vName_ok hm
    exact ⟨p, pos, rfl⟩
  · cases h
def vComp : Expr → Option (Expr × List Comprehension × Scope × Pos)
  | .ListComp e gs sc p => some (e, gs, sc, p)
  | _ => none
theorem vComp_ok {e a : Expr} {gs : List Comprehension} {sc : Scope} {p : Pos} (h : vComp e = some (a, gs, sc, p)) : e = .ListComp a gs sc p := by
  cases e <;> first | (cases h; done) | (cases h; rfl)
def vComp1 (e : Expr) : Option (Expr × Expr × Expr × List Expr × Scope × Pos) := match vComp e with
  | some (a, [⟨tg, it, ifs, 0⟩], sc, p) => some (a, tg, it, ifs, sc, p)
  | _ => none
theorem vComp1_ok {e a tg it : Expr} {ifs : List Expr} {sc : Scope} {p : Pos} (h : vComp1 e = some (a, tg, it, ifs, sc, p)) : e = .ListComp a [⟨tg, it, ifs, 0⟩] sc p := by
  unfold vComp1 at h
  split at h
  · rename_i hc
    cases h
    exact vComp_ok hc
  · cases h
/-- [::-1] -/
def isRev (e : Expr) : Bool := match vSl e with
  | some (none, none, some u) => match vUn u with
    | some (.USub, c) => decide (vCst c = some (.int 1))
    | _ => false
  | _ => false
theorem isRev_ok {e : Expr} (h : isRev e = true) : ∃ k p1 p2 p3, e = .Slice none none (some (.UnaryOp .USub (.Constant (.int 1) k p1) p2)) p3 := by
  unfold isRev at h
  split at h
  · rename_i u hs
    obtain ⟨p3, rfl⟩ := vSl_ok hs
    split at h
    · rename_i c hu
      obtain ⟨p2, rfl⟩ := vUn_ok hu
      obtain ⟨k, p1, rfl⟩ := vCst_ok (of_decide_eq_true h)
      exact ⟨k, p1, p2, p3, rfl⟩
    · cases h
  · cases h

/-! ### the look -/
structure TC where
  fns : List (Str × Nat)
  free : List Str
structure Sc where
  N : List Str
  sc : Scope
  fn : Str → Bool
def Sc.ct (s : Sc) (E : XK) : Ct := ⟨s.N, s.sc, s.fn, E⟩
def Sc.blk (s : Sc) (scope : Scope) : Sc := ⟨s.N, relS scope s.sc, fun x => scope.names.lookup x == some .cell⟩
def visC (sc : Scope) (x : Str) : Bool := decide (sc.names.lookup x = some .local) || decide (sc.names.lookup x = some .cell) || decide (sc.names.lookup x = some .free)
theorem vis_of {sc : Scope} {x : Str} (h : visC sc x = true) : Vis sc x := by
  unfold visC at h
  rw [Bool.or_eq_true, Bool.or_eq_true] at h
  rcases h with (h | h) | h
  · exact .inl (of_decide_eq_true h)
  · exact .inr (.inl (of_decide_eq_true h))
  · exact .inr (.inr (of_decide_eq_true h))
def varC (s : Sc) (i : Nat) (x : Str) : Bool := decide (s.N[i]? = some x) && visC s.sc x && !(x == ("__debug__" : Str)) && !(x == ("__classdict__" : Str))
theorem var_of {s : Sc} {i : Nat} {x : Str} (h : varC s i x = true) : s.N[i]? = some x ∧ Vis s.sc x ∧ (x == ("__debug__" : Str)) = false ∧ (x == ("__classdict__" : Str)) = false := by
  unfold varC at h
  simp only [Bool.and_eq_true, Bool.not_eq_true', decide_eq_true_eq] at h
  exact ⟨h.1.1.1, vis_of h.1.1.2, h.1.2, h.2⟩
def cstC : D → Const → Bool
  | .non, .none => true
  | .bl a, .bool b => a == b
  | .int a, .int b => a == b
  | .str a, .str b => decide (a = b)
  | _, _ => false
def bltN : Blt → Option Str
  | .len => some "len"
  | .tuple => some "tuple"
  | .list => some "list"
  | .sum => some "sum"
  | .all => some "all"
  | .any => some "any"
  | .max1 => some "max"
  | .max2 => some "max"
  | .min2 => some "min"
  | .int1 => some "int"
  | .repr => some "repr"
  | _ => none
/-- a built-in's name that stands for itself -/
def bC (T : TC) (s : Sc) (n m : Str) : Bool := decide (n = m) && isGl s.sc n && T.free.contains n
/-- a block's own slots with their names -/
def ownL (N : List Str) (own : List Nat) : List (Str × Nat) := own.map fun i => ((N[i]?).getD "", i)
mutual
def ckG (s : Sc) : Tg → Expr → Bool
  | .nm i, e => match vName e with
    | some x => decide (s.N[i]? = some x) && (s.sc.names.lookup x == some .local || (s.sc.names.lookup x == some .cell && s.fn x))
    | none => false
  | .tp ts, e => match vTup e with
    | some es => ckGs s ts es
    | none => false
def ckGs (s : Sc) : List Tg → List Expr → Bool
  | [], [] => true
  | t :: ts, e :: es => ckG s t e && ckGs s ts es
  | _, _ => false
end
section
variable (T : TC)
mutual
def ckE (s : Sc) : Ep → Expr → Bool
  | .var i, e => match vName e with
    | some x => varC s i x
    | none => false
  | .cst d, e => match vCst e with
    | some k => cstC d k
    | none => false
  | .bin o a b, e => match vBin e with
    | some (l, op, r) => decide (bopOf op = some o) && ckE s a l && ckE s b r
    | none => false
  | .neg a, e => match vUn e with
    | some (.USub, l) => ckE s a l
    | _ => false
  | .not a, e => match vUn e with
    | some (.Not, l) => ckE s a l
    | _ => false
  | .cmp o a b, e => match vCmp e with
    | some (l, [op], [r]) => decide (copOf op = some o) && notSet r && ckE s a l && ckE s b r
    | _ => false
  | .chn o o' a b c, e => match vCmp e with
    | some (l, [op, op'], [m, r]) => decide (copOf op = some o) && decide (copOf op' = some o') && notSet r && ckE s a l && ckE s b m && ckE s c r
    | _ => false
  | .isc ng a d, e => match vCmp e with
    | some (l, [op], [r]) => decide (icOf op = some ng) && ckE s a l && (match d, vCst r with
      | .non, some .none => true
      | .bl b, some (.bool b') => b == b'
      | _, _ => false)
    | _ => false
  | .and a b, e => match vBool e with
    | some (.And, l :: m :: rest, p) => ckE s a l && (match rest with
      | [] => ckE s b m
      | _ => ckE s b (.BoolOp .And (m :: rest) p))
    | _ => false
  | .or a b, e => match vBool e with
    | some (.Or, l :: m :: rest, p) => ckE s a l && (match rest with
      | [] => ckE s b m
      | _ => ckE s b (.BoolOp .Or (m :: rest) p))
    | _ => false
  | .ite t a b, e => match vIf e with
    | some (l, m, r) => ckE s t l && ckE s a m && ckE s b r
    | _ => false
  | .tup es, e => match vTup e with
    | some vs => ckEs s es vs
    | _ => false
  | .lst es, e => match vLst e with
    | some vs => ckEs s es vs
    | _ => false
  | .newc es, e => match vLst e with
    | some vs => ckEs s es vs
    | _ => false
  | .idx a i, e => match vSub e with
    | some (l, r) => notSlice r && ckE s a l && ckE s i r
    | _ => false
  | .from_ a lo, e => match vSub e with
    | some (l, r) => ckE s a l && (match vSl r with
      | some (some x, none, none) => ckE s lo x
      | _ => false)
    | _ => false
  | .upto a hi, e => match vSub e with
    | some (l, r) => ckE s a l && (match vSl r with
      | some (none, some x, none) => ckE s hi x
      | _ => false)
    | _ => false
  | .rev a, e => match vSub e with
    | some (l, r) => ckE s a l && isRev r
    | _ => false
  | .call f es, e => match vCallN e with
    | some (n, vs) => decide (T.fns.lookup n = some f) && isGl s.sc n && !(n == ("__debug__" : Str)) && ckEs s es vs
    | _ => false
  | .blt b es, e => match vCallN e with
    | some (n, vs) => match b, es with
      | .isi [t], .cons a .nil => match vs with
        | [l, r] => bC T s n "isinstance" && notStar l && ckE s a l && (match vName r with
          | some m => bC T s m (tyN t)
          | none => false)
        | _ => false
      | .isi [t1, t2], .cons a .nil => match vs with
        | [l, r] => bC T s n "isinstance" && notStar l && ckE s a l && (match vTup r with
          | some [r1, r2] => match vName r1, vName r2 with
            | some m1, some m2 => bC T s m1 (tyN t1) && bC T s m2 (tyN t2)
            | _, _ => false
          | _ => false)
        | _ => false
      | b, es => decide (bltN b = some n) && isGl s.sc n && T.free.contains n && !vs.isEmpty && ckEs s es vs
    | _ => false
  | .mth _ _ _, _ => false
  | .trng a, e => match vCallN e with
    | some (n, [r]) => bC T s n "tuple" && (match vCallN r with
      | some (m, [l]) => bC T s m "range" && notStar l && ckE s a l
      | _ => false)
    | _ => false
  | .comp own tg src oe pe, e => match vComp1 e with
    | some (elt, tgt, it, ifs, scope, p) => blkC s.N s.sc scope (ownL s.N own) && notSet it && tg.slots.all (fun j => own.contains j) && ckIt s src tgt it && ckG (s.blk scope) tg tgt && ckC (s.blk scope) oe ifs && ckE (s.blk scope) pe elt
    | _ => false
def ckEs (s : Sc) : Eps → List Expr → Bool
  | .nil, [] => true
  | .cons p ps, e :: es => notStar e && ckE s p e && ckEs s ps es
  | _, _ => false
def ckC (s : Sc) : Oep → List Expr → Bool
  | .no, [] => true
  | .yes p, [e] => ckE s p e
  | _, _ => false
def ckIt (s : Sc) : Src → Expr → Expr → Bool
  | .val p, _, e => ckE s p e
  | .rng p, _, e => match vCallN e with
    | some (n, [l]) => bC T s n "range" && notStar l && ckE s p l
    | _ => false
  | .enum p, tg, e => (vTup tg).isSome && (match vCallN e with
    | some (n, [l]) => bC T s n "enumerate" && notStar l && ckE s p l
    | _ => false)
  | .zip p q, tg, e => (vTup tg).isSome && (match vCallN e with
    | some (n, [l, r]) => bC T s n "zip" && notStar l && notStar r && ckE s p l && ckE s q r
    | _ => false)
end
def nmC (s : Sc) (i : Nat) (e : Expr) : Option Str := match vName e with
  | some x => if s.N[i]? = some x then some x else none
  | none => none
mutual
def ckS (s : Sc) : Sm → Stmt → Bool
  | .frz _ p, st => ckS s p st
  | .set i p, st => match st with
    | .Assign [.Name x p1] v pos => decide (s.N[i]? = some x) && ckE T s p v && (if notComp v then (s.sc.names.lookup x == some .local || (s.sc.names.lookup x == some .cell && s.fn x))
      else (match vComp1 v with
        | some (_, _, _, _, scope, spos) => (match s.sc.kind with | .function => true | _ => false) && decide (s.sc.names.lookup x = some .local) && (p1.line == spos.line) && !(scope.names.any fun (m, k) => m == x && (k == .local || k == .cell))
        | none => false))
    | _ => false
  | .unp tg p, st => match tg, st with
    | .tp ts, .Assign [.Tuple es _ _] v _ => notComp v && ckGs s ts es && ckE T s p v && (match vTup v with
      | some vs => (match swS s.sc es vs with | some none => true | _ => false)
      | none => true)
    | _, _ => false
  | .par is ps, st => match st with
    | .Assign [.Tuple ts _ _] (.Tuple vs _ _) _ => match swS s.sc ts vs with
      | some none => nmsC s.N s.sc s.fn is ts && Nat.ble is.length 9 && ckEs T s ps vs
      | some (some _) => (match is, ts, vs with
        | [i, j], [.Name x px, .Name y py], [a, b] => decide (s.N[i]? = some x) && decide (s.N[j]? = some y) && decide (i ≠ j) && decide (s.sc.names.lookup x = some .local) && decide (s.sc.names.lookup y = some .local) &&
          decide (swS s.sc [.Name x px, .Name y py] [a, b] = some (some [x, y])) && ckEs T s ps [a, b]
        | [i, j, l], [.Name x px, .Name y py, .Name z pz], [a, b, d] => decide (s.N[i]? = some x) && decide (s.N[j]? = some y) && decide (s.N[l]? = some z) && decide (i ≠ j) && decide (i ≠ l) && decide (j ≠ l) && decide (s.sc.names.lookup x = some .local) && decide (s.sc.names.lookup y = some .local) && decide (s.sc.names.lookup z = some .local) &&
          decide (swS s.sc [.Name x px, .Name y py, .Name z pz] [a, b, d] = some (some [x, y, z])) && ckEs T s ps [a, b, d]
        | _, _, _ => false)
      | none => false
    | _ => false
  | .stx i pi pe, st => match st with
    | .Assign [.Subscript (.Name x _) ix _] v _ => varC s i x && notSlice ix && notComp v && notTup v && ckE T s pi ix && ckE T s pe v
    | _ => false
  | .app i p, st => match st with
    | .Expr (.Call (.Attribute (.Name x _) m apos) [v] [] cpos) _ => decide (m = "append") && varC s i x && notStar v && (apos.endLine == cpos.line) && ckE T s p v
    | _ => false
  | .expr p, st => match st with
    | .Expr v _ => notComp v && ckE T s p v
    | _ => false
  | .ret p, st => match st with
    | .Return (some v) _ => ckE T s p v
    | _ => false
  | .rtv i, st => match st with
    | .Return (some (.Name x _)) _ => varC s i x
    | _ => false
  | .rtn, st => match st with
    | .Return none _ => true
    | _ => false
  | .ite p a b, st => match st with
    | .If t x y _ => ckE T s p t && ckSs s a x && ckSs s b y
    | _ => false
  | .for_ tg src b, st => match st with
    | .For tgt it body [] _ => notSet it && ckIt T s src tgt it && ckG s tg tgt && ckSs s b body
    | _ => false
  | .whl p b, st => match st with
    | .While t body [] _ => ckE T s p t && ckSs s b body
    | _ => false
  | .never, _ => true
def ckSs (s : Sc) : Sms → List Stmt → Bool
  | .nil, [] => true
  | .cons p ps, st :: sts => ckS s p st && ckSs s ps sts
  | _, _ => false
end
end
end Mini
/-! SoundM: what the look promises. -/
namespace Mini
open PySem PySem.Spec PyProof.Rows L2
structure TOk (W : Wd) (T : TC) : Prop where
  fn : ∀ x i, T.fns.lookup x = some i → FnAt W x i
  bi : ∀ x, T.free.contains x = true → W.mg x = none
theorem cst_of {W : Wd} {c : Ct} {d : D} {k : Const} {j : Nat} {pos : Pos} (h : cstC d k = true) : SE W c (.Constant k j pos) (.cst d) := by
  unfold cstC at h
  split at h
  · exact se_cst rfl (fun _ _ => pe_non) fun _ => .non
  · cases eq_of_beq h
    exact se_cst rfl (fun _ _ => pe_bl) fun _ => .bl _
  · cases eq_of_beq h
    exact se_cst rfl (fun _ _ => pe_int) fun _ => .int _
  · cases of_decide_eq_true h
    exact se_cst rfl (fun _ _ => pe_str) fun _ => .str _
  · cases h
theorem blt_ok {b : Blt} {n : Str} (h : bltN b = some n) : ((∃ id, bltV b = some (.builtin id) ∧ bootBuiltins n = some (.builtin id)) ∨ (∃ id, bltV b = some (.type id) ∧ bootBuiltins n = some (.type id))) ∧ n ≠ "__name__" ∧ (n == ("__debug__" : Str)) = false := by
  cases b <;> cases h <;> refine ⟨?_, by decide +kernel, by decide +kernel⟩ <;> first
    | exact .inl ⟨_, rfl, by decide +kernel⟩
    | exact .inr ⟨_, rfl, by decide +kernel⟩
section
variable {W : Wd} {T : TC}
theorem bC_ok {s : Sc} {n m : Str} (t : TOk W T) (h : bC T s n m = true) : n = m ∧ isGl s.sc m = true ∧ W.mg m = none := by
  unfold bC at h
  simp only [Bool.and_eq_true, decide_eq_true_eq] at h
  obtain ⟨⟨rfl, h2⟩, h3⟩ := h
  exact ⟨rfl, h2, t.bi _ h3⟩
mutual
theorem ckG_ok {s : Sc} (E : XK) (hN : s.N.Nodup) : ∀ (t : Tg) (e : Expr), ckG s t e = true → SG W (s.ct E) e t
  | .nm i, e, h => by
    unfold ckG at h
    split at h
    · rename_i x hx
      obtain ⟨pos, rfl⟩ := vName_ok hx
      rw [Bool.and_eq_true] at h
      exact sg_name hN (of_decide_eq_true h.1) h.2
    · cases h
  | .tp ts, e, h => by
    unfold ckG at h
    split at h
    · rename_i es he
      obtain ⟨k, pos, rfl⟩ := vTup_ok he
      exact sg_tup (ckGs_ok E hN ts es h)
    · cases h
theorem ckGs_ok {s : Sc} (E : XK) (hN : s.N.Nodup) : ∀ (ts : List Tg) (es : List Expr), ckGs s ts es = true → SGs W (s.ct E) es ts
  | [], [], _ => sgs_nil
  | t :: ts, e :: es, h => by
    unfold ckGs at h
    rw [Bool.and_eq_true] at h
    exact sgs_cons (ckG_ok E hN t e h.1) (ckGs_ok E hN ts es h.2)
  | [], _ :: _, h => by cases h
  | _ :: _, [], h => by cases h
end
theorem own_eq {N : List Str} {own : List Nat} : (ownL N own).map (·.2) = own := by
  unfold ownL
  rw [List.map_map]
  exact List.map_id _
variable (t : TOk W T)
include t
mutual
theorem ckE_ok : ∀ (p : Ep) (s : Sc) (E : XK) (e : Expr), s.N.Nodup → ckE T s p e = true → SE W (s.ct E) e p
  | .var i, s, E, e, hN, h => by
    unfold ckE at h
    split at h
    · rename_i x hx
      obtain ⟨pos, rfl⟩ := vName_ok hx
      obtain ⟨h1, h2, h3, h4⟩ := var_of h
      exact se_var h1 h2 h3 h4
    · cases h
  | .cst d, s, E, e, hN, h => by
    unfold ckE at h
    split at h
    · rename_i x hx
      obtain ⟨k, pos, rfl⟩ := vCst_ok hx
      exact cst_of h
    · cases h
  | .bin o a b, s, E, e, hN, h => by
    unfold ckE at h
    split at h
    · rename_i l op r hx
      obtain ⟨pos, rfl⟩ := vBin_ok hx
      simp only [Bool.and_eq_true, decide_eq_true_eq] at h
      exact se_bin h.1.1 (ckE_ok a s E l hN h.1.2) (ckE_ok b s E r hN h.2)
    · cases h
  | .neg a, s, E, e, hN, h => by
    unfold ckE at h
    split at h
    · rename_i l hx
      obtain ⟨pos, rfl⟩ := vUn_ok hx
      exact se_neg (ckE_ok a s E l hN h)
    · cases h
  | .not a, s, E, e, hN, h => by
    unfold ckE at h
    split at h
    · rename_i l hx
      obtain ⟨pos, rfl⟩ := vUn_ok hx
      exact se_not (ckE_ok a s E l hN h)
    · cases h
  | .cmp o a b, s, E, e, hN, h => by
    unfold ckE at h
    split at h
    · rename_i l op r hx
      obtain ⟨pos, rfl⟩ := vCmp_ok hx
      simp only [Bool.and_eq_true, decide_eq_true_eq] at h
      exact se_cmp h.1.1.1 h.1.1.2 (ckE_ok a s E l hN h.1.2) (ckE_ok b s E r hN h.2)
    · cases h
  | .chn o o' a b c, s, E, e, hN, h => by
    unfold ckE at h
    split at h
    · rename_i l op op' m r hx
      obtain ⟨pos, rfl⟩ := vCmp_ok hx
      simp only [Bool.and_eq_true, decide_eq_true_eq] at h
      exact se_chn h.1.1.1.1.1 h.1.1.1.1.2 h.1.1.1.2 (ckE_ok a s E l hN h.1.1.2) (ckE_ok b s E m hN h.1.2) (ckE_ok c s E r hN h.2)
    · cases h
  | .isc ng a d, s, E, e, hN, h => by
    unfold ckE at h
    split at h
    · rename_i l op r hx
      obtain ⟨pos, rfl⟩ := vCmp_ok hx
      simp only [Bool.and_eq_true, decide_eq_true_eq] at h
      obtain ⟨⟨h1, h2⟩, h3⟩ := h
      split at h3
      · rename_i hr
        obtain ⟨k, p2, rfl⟩ := vCst_ok hr
        exact se_isN h1 (ckE_ok a s E l hN h2)
      · rename_i hr
        obtain ⟨k, p2, rfl⟩ := vCst_ok hr
        cases eq_of_beq h3
        exact se_isB h1 (ckE_ok a s E l hN h2)
      · cases h3
    · cases h
  | .and a b, s, E, e, hN, h => by
    unfold ckE at h
    split at h
    · rename_i l m rest p hx
      cases vBool_ok hx
      rw [Bool.and_eq_true] at h
      refine se_and (ckE_ok a s E l hN h.1) ?_
      have h2 := h.2
      split at h2
      · exact sb_one (ckE_ok b s E m hN h2)
      · exact ckB_ok b s E .And _ _ hN h2
    · cases h
  | .or a b, s, E, e, hN, h => by
    unfold ckE at h
    split at h
    · rename_i l m rest p hx
      cases vBool_ok hx
      rw [Bool.and_eq_true] at h
      refine se_or (ckE_ok a s E l hN h.1) ?_
      have h2 := h.2
      split at h2
      · exact sb_one (ckE_ok b s E m hN h2)
      · exact ckB_ok b s E .Or _ _ hN h2
    · cases h
  | .ite q a b, s, E, e, hN, h => by
    unfold ckE at h
    split at h
    · rename_i l m r hx
      obtain ⟨pos, rfl⟩ := vIf_ok hx
      simp only [Bool.and_eq_true] at h
      exact se_ife (ckE_ok q s E l hN h.1.1) (ckE_ok a s E m hN h.1.2) (ckE_ok b s E r hN h.2)
    · cases h
  | .tup es, s, E, e, hN, h => by
    unfold ckE at h
    split at h
    · rename_i vs hx
      obtain ⟨k, pos, rfl⟩ := vTup_ok hx
      exact se_tup (ckEs_ok es s E vs hN h)
    · cases h
  | .lst es, s, E, e, hN, h => by
    unfold ckE at h
    split at h
    · rename_i vs hx
      obtain ⟨pos, rfl⟩ := vLst_ok hx
      exact se_lst (ckEs_ok es s E vs hN h)
    · cases h
  | .newc es, s, E, e, hN, h => by
    unfold ckE at h
    split at h
    · rename_i vs hx
      obtain ⟨pos, rfl⟩ := vLst_ok hx
      exact se_newc (ckEs_ok es s E vs hN h)
    · cases h
  | .idx a i, s, E, e, hN, h => by
    unfold ckE at h
    split at h
    · rename_i l r hx
      obtain ⟨pos, rfl⟩ := vSub_ok hx
      simp only [Bool.and_eq_true] at h
      exact se_idx h.1.1 (ckE_ok a s E l hN h.1.2) (ckE_ok i s E r hN h.2)
    · cases h
  | .from_ a lo, s, E, e, hN, h => by
    unfold ckE at h
    split at h
    · rename_i l r hx
      obtain ⟨pos, rfl⟩ := vSub_ok hx
      rw [Bool.and_eq_true] at h
      have h2 := h.2
      split at h2
      · rename_i x hs
        obtain ⟨p2, rfl⟩ := vSl_ok hs
        exact se_from (ckE_ok a s E l hN h.1) (ckE_ok lo s E x hN h2)
      · cases h2
    · cases h
  | .upto a hi, s, E, e, hN, h => by
    unfold ckE at h
    split at h
    · rename_i l r hx
      obtain ⟨pos, rfl⟩ := vSub_ok hx
      rw [Bool.and_eq_true] at h
      have h2 := h.2
      split at h2
      · rename_i x hs
        obtain ⟨p2, rfl⟩ := vSl_ok hs
        exact se_upto (ckE_ok a s E l hN h.1) (ckE_ok hi s E x hN h2)
      · cases h2
    · cases h
  | .rev a, s, E, e, hN, h => by
    unfold ckE at h
    split at h
    · rename_i l r hx
      obtain ⟨pos, rfl⟩ := vSub_ok hx
      rw [Bool.and_eq_true] at h
      obtain ⟨k, p1, p2, p3, rfl⟩ := isRev_ok h.2
      exact se_rev (ckE_ok a s E l hN h.1)
    · cases h
  | .call f es, s, E, e, hN, h => by
    unfold ckE at h
    split at h
    · rename_i n vs hx
      obtain ⟨p, pos, rfl⟩ := vCallN_ok hx
      simp only [Bool.and_eq_true, decide_eq_true_eq, Bool.not_eq_true'] at h
      have hs := ckEs_ok es s E vs hN h.2
      cases vs with
      | nil =>
        cases es with
        | nil => exact se_call0 (t.fn _ _ h.1.1.1) h.1.1.2 h.1.2
        | cons _ _ => cases h.2
      | cons v vs => exact se_call (t.fn _ _ h.1.1.1) h.1.1.2 h.1.2 hs
    · cases h
  | .blt b es, s, E, e, hN, h => by
    unfold ckE at h
    split at h
    · rename_i n vs hx
      obtain ⟨p, pos, rfl⟩ := vCallN_ok hx
      split at h
      · rename_i ty a
        split at h
        · rename_i l r
          simp only [Bool.and_eq_true] at h
          obtain ⟨⟨⟨h1, h2⟩, h3⟩, h4⟩ := h
          obtain ⟨rfl, g1, m1⟩ := bC_ok t h1
          split at h4
          · rename_i m hm
            obtain ⟨p2, rfl⟩ := vName_ok hm
            obtain ⟨rfl, g2, m2⟩ := bC_ok t h4
            exact se_isi1 g1 m1 rfl g2 m2 h2 (ckE_ok a s E l hN h3)
          · cases h4
        · cases h
      · rename_i ty1 ty2 a
        split at h
        · rename_i l r
          simp only [Bool.and_eq_true] at h
          obtain ⟨⟨⟨h1, h2⟩, h3⟩, h4⟩ := h
          obtain ⟨rfl, g1, m1⟩ := bC_ok t h1
          split at h4
          · rename_i r1 r2 hr
            obtain ⟨k, p3, rfl⟩ := vTup_ok hr
            split at h4
            · rename_i m1' m2' hm1 hm2
              obtain ⟨p4, rfl⟩ := vName_ok hm1
              obtain ⟨p5, rfl⟩ := vName_ok hm2
              rw [Bool.and_eq_true] at h4
              obtain ⟨rfl, g2, m2⟩ := bC_ok t h4.1
              obtain ⟨rfl, g3, m3⟩ := bC_ok t h4.2
              exact se_isi2 g1 m1 rfl rfl g2 m2 g3 m3 h2 (ckE_ok a s E l hN h3)
            · cases h4
          · cases h4
        · cases h
      · simp only [Bool.and_eq_true, decide_eq_true_eq, Bool.not_eq_true'] at h
        obtain ⟨⟨⟨⟨h1, h2⟩, h3⟩, h4⟩, h5⟩ := h
        have hs := ckEs_ok es s E vs hN h5
        cases vs with
        | nil => cases h4
        | cons v vs =>
          obtain ⟨k, k1, k2⟩ := blt_ok h1
          rcases k with ⟨id, b1, b2⟩ | ⟨id, b1, b2⟩
          · exact se_bltF b1 b2 h2 (t.bi _ h3) k1 k2 hs
          · exact se_bltT b1 b2 h2 (t.bi _ h3) k1 k2 hs
    · cases h
  | .mth _ _ _, s, E, e, hN, h => by cases h
  | .trng a, s, E, e, hN, h => by
    unfold ckE at h
    split at h
    · rename_i n r hx
      obtain ⟨p, pos, rfl⟩ := vCallN_ok hx
      rw [Bool.and_eq_true] at h
      obtain ⟨rfl, g1, m1⟩ := bC_ok t h.1
      have h2 := h.2
      split at h2
      · rename_i m l hm
        obtain ⟨p1, pos1, rfl⟩ := vCallN_ok hm
        simp only [Bool.and_eq_true] at h2
        obtain ⟨rfl, g2, m2⟩ := bC_ok t h2.1.1
        exact se_trng g1 m1 g2 m2 h2.1.2 (ckE_ok a s E l hN h2.2)
      · cases h2
    · cases h
  | .comp own tg src oe pe, s, E, e, hN, h => by
    unfold ckE at h
    split at h
    · rename_i elt tgt it ifs scope p hx
      cases vComp1_ok hx
      simp only [Bool.and_eq_true] at h
      obtain ⟨⟨⟨⟨⟨⟨h1, h2⟩, h3⟩, h4⟩, h5⟩, h6⟩, h7⟩ := h
      have hsl : ∀ j ∈ tg.slots, j ∈ (ownL s.N own).map (·.2) := fun j hj => by
        rw [own_eq]
        have := List.all_eq_true.mp h3 j hj
        simpa using this
      have := se_lc (c := s.ct E) (pos := p) hN h1 h2 hsl (ckIt_ok src s E true tgt it hN h4) (ckG_ok (s := s.blk scope) E0 hN tg tgt h5) (ckC_ok oe (s.blk scope) E0 ifs hN h6) (ckE_ok pe (s.blk scope) E0 elt hN h7)
      rw [own_eq] at this
      exact this
    · cases h
theorem ckB_ok : ∀ (p : Ep) (s : Sc) (E : XK) (op : BoolOp) (es : List Expr) (pos : Pos), s.N.Nodup → ckE T s p (.BoolOp op es pos) = true → SB W (s.ct E) op es p
  | .and a b, s, E, op, es', pos, hN, h => by
    unfold ckE at h
    split at h
    · rename_i l m rest p hx
      cases vBool_ok hx
      rw [Bool.and_eq_true] at h
      refine sb_and (ckE_ok a s E l hN h.1) ?_
      have h2 := h.2
      split at h2
      · exact sb_one (ckE_ok b s E m hN h2)
      · exact ckB_ok b s E .And _ _ hN h2
    · cases h
  | .or a b, s, E, op, es', pos, hN, h => by
    unfold ckE at h
    split at h
    · rename_i l m rest p hx
      cases vBool_ok hx
      rw [Bool.and_eq_true] at h
      refine sb_or (ckE_ok a s E l hN h.1) ?_
      have h2 := h.2
      split at h2
      · exact sb_one (ckE_ok b s E m hN h2)
      · exact ckB_ok b s E .Or _ _ hN h2
    · cases h
  | .var i, s, E, op, es', pos, hN, h => by exact nomatch (show false = true from h)
  | .cst d, s, E, op, es', pos, hN, h => by exact nomatch (show false = true from h)
  | .bin o a b, s, E, op, es', pos, hN, h => by exact nomatch (show false = true from h)
  | .neg a, s, E, op, es', pos, hN, h => by exact nomatch (show false = true from h)
  | .cmp o a b, s, E, op, es', pos, hN, h => by exact nomatch (show false = true from h)
  | .chn o o' a b c, s, E, op, es', pos, hN, h => by exact nomatch (show false = true from h)
  | .isc ng a d, s, E, op, es', pos, hN, h => by exact nomatch (show false = true from h)
  | .not a, s, E, op, es', pos, hN, h => by exact nomatch (show false = true from h)
  | .ite t a b, s, E, op, es', pos, hN, h => by exact nomatch (show false = true from h)
  | .tup es, s, E, op, es', pos, hN, h => by exact nomatch (show false = true from h)
  | .lst es, s, E, op, es', pos, hN, h => by exact nomatch (show false = true from h)
  | .newc es, s, E, op, es', pos, hN, h => by exact nomatch (show false = true from h)
  | .idx a i, s, E, op, es', pos, hN, h => by exact nomatch (show false = true from h)
  | .from_ a lo, s, E, op, es', pos, hN, h => by exact nomatch (show false = true from h)
  | .upto a hi, s, E, op, es', pos, hN, h => by exact nomatch (show false = true from h)
  | .rev a, s, E, op, es', pos, hN, h => by exact nomatch (show false = true from h)
  | .call f es, s, E, op, es', pos, hN, h => by exact nomatch (show false = true from h)
  | .blt b es, s, E, op, es', pos, hN, h => by exact nomatch (show false = true from h)
  | .mth m a es, s, E, op, es', pos, hN, h => by exact nomatch (show false = true from h)
  | .trng a, s, E, op, es', pos, hN, h => by exact nomatch (show false = true from h)
  | .comp own tg it oe pe, s, E, op, es', pos, hN, h => by exact nomatch (show false = true from h)
theorem ckEs_ok : ∀ (p : Eps) (s : Sc) (E : XK) (es : List Expr), s.N.Nodup → ckEs T s p es = true → SEs W (s.ct E) es p
  | .nil, s, E, [], hN, h => ses_nil
  | .cons p ps, s, E, e :: es, hN, h => by
    unfold ckEs at h
    simp only [Bool.and_eq_true] at h
    exact ses_cons h.1.1 (ckE_ok p s E e hN h.1.2) (ckEs_ok ps s E es hN h.2)
  | .nil, s, E, _ :: _, hN, h => by cases h
  | .cons _ _, s, E, [], hN, h => by cases h
theorem ckC_ok : ∀ (p : Oep) (s : Sc) (E : XK) (es : List Expr), s.N.Nodup → ckC T s p es = true → SC W (s.ct E) es p
  | .no, s, E, [], hN, h => sc_no
  | .yes p, s, E, [e], hN, h => sc_yes (ckE_ok p s E e hN (by unfold ckC at h; exact h))
  | .no, s, E, _ :: _, hN, h => by cases h
  | .yes _, s, E, [], hN, h => by cases h
  | .yes _, s, E, _ :: _ :: _, hN, h => by cases h
theorem ckIt_ok : ∀ (p : Src) (s : Sc) (E : XK) (rd : Bool) (tg e : Expr), s.N.Nodup → ckIt T s p tg e = true → SI W (s.ct E) rd tg e p
  | .val p, s, E, rd, tg, e, hN, h => by
    unfold ckIt at h
    exact si_val (ckE_ok p s E e hN h)
  | .rng p, s, E, rd, tg, e, hN, h => by
    unfold ckIt at h
    split at h
    · rename_i n l hx
      obtain ⟨p1, pos, rfl⟩ := vCallN_ok hx
      simp only [Bool.and_eq_true] at h
      obtain ⟨rfl, g1, m1⟩ := bC_ok t h.1.1
      exact si_rng g1 m1 h.1.2 (ckE_ok p s E l hN h.2)
    · cases h
  | .enum p, s, E, rd, tg, e, hN, h => by
    unfold ckIt at h
    rw [Bool.and_eq_true] at h
    obtain ⟨h0, h⟩ := h
    obtain ⟨es, he⟩ := Option.isSome_iff_exists.mp h0
    obtain ⟨k, tp, rfl⟩ := vTup_ok he
    split at h
    · rename_i n l hx
      obtain ⟨p1, pos, rfl⟩ := vCallN_ok hx
      simp only [Bool.and_eq_true] at h
      obtain ⟨rfl, g1, m1⟩ := bC_ok t h.1.1
      exact si_enum g1 m1 h.1.2 (ckE_ok p s E l hN h.2)
    · cases h
  | .zip p q, s, E, rd, tg, e, hN, h => by
    unfold ckIt at h
    rw [Bool.and_eq_true] at h
    obtain ⟨h0, h⟩ := h
    obtain ⟨es, he⟩ := Option.isSome_iff_exists.mp h0
    obtain ⟨k, tp, rfl⟩ := vTup_ok he
    split at h
    · rename_i n l r hx
      obtain ⟨p1, pos, rfl⟩ := vCallN_ok hx
      simp only [Bool.and_eq_true] at h
      obtain ⟨rfl, g1, m1⟩ := bC_ok t h.1.1.1.1
      exact si_zip g1 m1 h.1.1.1.2 h.1.1.2 (ckE_ok p s E l hN h.1.2) (ckE_ok q s E r hN h.2)
    · cases h
end
theorem ckVs_ok : ∀ (p : Eps) (s : Sc) (E : XK) (es : List Expr), s.N.Nodup → ckEs T s p es = true → SVs W (s.ct E) es p
  | .nil, s, E, [], hN, h => svs_nil
  | .cons p ps, s, E, e :: es, hN, h => by
    unfold ckEs at h
    simp only [Bool.and_eq_true] at h
    exact svs_cons h.1.1 (ckE_ok t p s E e hN h.1.2) (ckVs_ok ps s E es hN h.2)
  | .nil, s, E, _ :: _, hN, h => by cases h
  | .cons _ _, s, E, [], hN, h => by cases h
mutual
theorem ckS_ok : ∀ (p : Sm) (s : Sc) (E : XK) (st : Stmt), s.N.Nodup → ckS T s p st = true → SS W (s.ct E) st p
  | .frz is p, s, E, st, hN, h => by
    unfold ckS at h
    exact ss_frz (ckS_ok p s E st hN h)
  | .set i p, s, E, st, hN, h => by
    unfold ckS at h
    split at h
    · rename_i x p1 v pos
      simp only [Bool.and_eq_true, decide_eq_true_eq] at h
      obtain ⟨⟨h1, h2⟩, h3⟩ := h
      split at h3
      · rename_i hc
        exact ss_set hN h1 h3 hc (ckE_ok t p s E v hN h2)
      · split at h3
        · rename_i elt tgt it ifs scope spos hx
          cases vComp1_ok hx
          simp only [Bool.and_eq_true, decide_eq_true_eq, Bool.not_eq_true'] at h3
          obtain ⟨⟨⟨k1, k2⟩, k3⟩, k4⟩ := h3
          have hk : (s.ct E).sc.kind = .function := by
            show s.sc.kind = .function
            revert k1
            cases s.sc.kind <;> intro z <;> first | rfl | cases z
          cases p with
          | comp own tg src oe pe =>
            unfold ckE at h2
            have h : (blkC s.N s.sc scope (ownL s.N own) && notSet it && tg.slots.all (fun j => own.contains j) && ckIt T s src tgt it && ckG (s.blk scope) tg tgt && ckC T (s.blk scope) oe ifs && ckE T (s.blk scope) pe elt) = true := h2
            simp only [Bool.and_eq_true] at h
            obtain ⟨⟨⟨⟨⟨⟨h1', h2⟩, h3⟩, h4⟩, h5⟩, h6⟩, h7⟩ := h
            have hsl : ∀ j ∈ tg.slots, j ∈ (ownL s.N own).map (·.2) := fun j hj => by
              rw [own_eq]
              have := List.all_eq_true.mp h3 j hj
              simpa using this
            have := ss_setLc (c := s.ct E) (spos := pos) hN h1 hk k2 k3 k4 h1' h2 hsl (ckIt_ok t src s E true tgt it hN h4) (ckG_ok (s := s.blk scope) E0 hN tg tgt h5) (ckC_ok t oe (s.blk scope) E0 ifs hN h6) (ckE_ok t pe (s.blk scope) E0 elt hN h7)
            rw [own_eq] at this
            exact this
          | _ => exact nomatch (show false = true from h2)
        · cases h3
    · cases h
  | .unp tg p, s, E, st, hN, h => by
    unfold ckS at h
    split at h
    · rename_i ts es k p1 v pos
      simp only [Bool.and_eq_true] at h
      obtain ⟨⟨⟨h1, h2⟩, h3⟩, h4⟩ := h
      split at h4
      · rename_i vs hv
        obtain ⟨k2, p2, rfl⟩ := vTup_ok hv
        split at h4
        · rename_i hw
          exact ss_unpT hw (ckGs_ok E hN ts es h2) (ckE_ok t p s E _ hN h3)
        · cases h4
      · rename_i hv
        refine ss_unp h1 ?_ (ckGs_ok E hN ts es h2) (ckE_ok t p s E v hN h3)
        cases v <;> first | rfl | cases hv
    · cases h
  | .par is ps, s, E, st, hN, h => by
    unfold ckS at h
    split at h
    · split at h
      · rename_i hw
        simp only [Bool.and_eq_true] at h
        exact ss_parN hN hw h.1.1 h.1.2 (ckVs_ok t ps s E _ hN h.2)
      · split at h
        · simp only [Bool.and_eq_true, decide_eq_true_eq] at h
          obtain ⟨⟨⟨⟨⟨⟨h1, h2⟩, h3⟩, h4⟩, h5⟩, h6⟩, h7⟩ := h
          exact ss_par2 hN h1 h2 h3 h4 h5 h6 (ckVs_ok t ps s E _ hN h7)
        · simp only [Bool.and_eq_true, decide_eq_true_eq] at h
          obtain ⟨⟨⟨⟨⟨⟨⟨⟨⟨⟨h1, h2⟩, h3⟩, h4⟩, h5⟩, h6⟩, h7⟩, h8⟩, h9⟩, ha⟩, hb⟩ := h
          exact ss_par3 hN h1 h2 h3 h4 h5 h6 h7 h8 h9 ha (ckVs_ok t ps s E _ hN hb)
        · cases h
      · cases h
    · cases h
  | .stx i pi pe, s, E, st, hN, h => by
    unfold ckS at h
    split at h
    · simp only [Bool.and_eq_true] at h
      obtain ⟨⟨⟨⟨⟨h1, h2⟩, h3⟩, h4⟩, h5⟩, h6⟩ := h
      obtain ⟨k1, k2, k3, k4⟩ := var_of h1
      exact ss_stx k1 k2 k3 k4 h2 h3 h4 (ckE_ok t pi s E _ hN h5) (ckE_ok t pe s E _ hN h6)
    · cases h
  | .app i p, s, E, st, hN, h => by
    unfold ckS at h
    split at h
    · simp only [Bool.and_eq_true, decide_eq_true_eq] at h
      obtain ⟨⟨⟨⟨rfl, h2⟩, h3⟩, h4⟩, h5⟩ := h
      obtain ⟨k1, k2, k3, k4⟩ := var_of h2
      exact ss_app k1 k2 k3 k4 h3 h4 (ckE_ok t p s E _ hN h5)
    · cases h
  | .expr p, s, E, st, hN, h => by
    unfold ckS at h
    split at h
    · rw [Bool.and_eq_true] at h
      exact ss_expr h.1 (ckE_ok t p s E _ hN h.2)
    · cases h
  | .ret p, s, E, st, hN, h => by
    unfold ckS at h
    split at h
    · exact ss_ret (ckE_ok t p s E _ hN h)
    · cases h
  | .rtv i, s, E, st, hN, h => by
    unfold ckS at h
    split at h
    · obtain ⟨k1, k2, k3, k4⟩ := var_of h
      exact ss_rtv k1 k2 k3 k4
    · cases h
  | .rtn, s, E, st, hN, h => by
    unfold ckS at h
    split at h
    · exact ss_rtn
    · cases h
  | .ite p a b, s, E, st, hN, h => by
    unfold ckS at h
    split at h
    · simp only [Bool.and_eq_true] at h
      exact ss_if (ckE_ok t p s E _ hN h.1.1) (ckSs_ok a s E _ hN h.1.2) (ckSs_ok b s E _ hN h.2)
    · cases h
  | .for_ tg src b, s, E, st, hN, h => by
    unfold ckS at h
    split at h
    · simp only [Bool.and_eq_true] at h
      exact ss_for h.1.1.1 (ckIt_ok t src s E false _ _ hN h.1.1.2) (ckG_ok E hN tg _ h.1.2) (ckSs_ok b s E _ hN h.2)
    · cases h
  | .whl p b, s, E, st, hN, h => by
    unfold ckS at h
    split at h
    · simp only [Bool.and_eq_true] at h
      exact ss_whl (ckE_ok t p s E _ hN h.1) (ckSs_ok b s E _ hN h.2)
    · cases h
  | .never, s, E, st, hN, h => ss_never
theorem ckSs_ok : ∀ (p : Sms) (s : Sc) (E : XK) (st : List Stmt), s.N.Nodup → ckSs T s p st = true → SSs W (s.ct E) st p
  | .nil, s, E, [], hN, h => sss_nil
  | .cons p ps, s, E, st :: sts, hN, h => by
    unfold ckSs at h
    rw [Bool.and_eq_true] at h
    exact sss_cons (ckS_ok p s E st hN h.1) (ckSs_ok ps s E sts hN h.2)
  | .nil, s, E, _ :: _, hN, h => by cases h
  | .cons _ _, s, E, [], hN, h => by cases h
end
end
end Mini
/-! SoundN: defs. -/
namespace Mini
open PySem PySem.Spec PyProof.Rows L2
def scK (N P : List Str) (sc : Scope) : Bool :=
  decide (sc.kind = .function) && !sc.isCoroutine && !sc.isGenerator && decide N.Nodup && decide (N.take P.length = P) && P.all (fun x => decide (sc.names.lookup x = some .local) || decide (sc.names.lookup x = some .cell)) && sc.names.all (fun y => !decide (y.2 = .free))
theorem scK_ok {N P : List Str} {sc : Scope} (h : scK N P sc = true) : FnScope N P sc := by
  unfold scK at h
  simp only [Bool.and_eq_true, Bool.not_eq_true', decide_eq_true_eq, List.all_eq_true, Bool.or_eq_true, decide_eq_false_iff_not] at h
  obtain ⟨⟨⟨⟨⟨⟨h1, h2⟩, h3⟩, h4⟩, h5⟩, h6⟩, h7⟩ := h
  exact ⟨h1, h2, h3, h4, h5, h6, h7⟩
/-- how a def's values come to its parameters -/
def BindsC (x : Str) (st : Stmt) (ps : List Str) : Prop := ∀ (kV doc pm : Value) (an : Option Addr) (cdv ct : Value) (us : List Value), us.length = ps.length → bindArgs (PySem.W.fnOf x x (defArgs st) (defBody st) (defScope st) .none kV doc pm an cdv ct) ⟨us, []⟩ = pure (ps.zip us)
/-- a def's text is this one of the small language -/
def dC (T : TC) (fd : FDef) (st : Stmt) : Bool := scK fd.N (fd.N.take fd.ar) (defScope st) && decide (fd.ar ≤ fd.N.length) && ckSs T ⟨fd.N, defScope st, fun _ => true⟩ fd.body (defBody st)
theorem wp_stuck {α : Type} {S : Store} {Q : α → Store → Prop} {X : Nat → Store → Prop} (h : WP (M.stk S) Q X) : False := h
theorem env_start {K : PySem.W.Frag} {g : G} {H : Hp} {N : List Str} {vs : List V} {ds : List D} (h : RDs K g vs ds) : EnvOk K H g H (startE N ds) (L2.start N vs) := by
  unfold startE L2.start
  have hl := h.length
  refine ⟨by simp [hl], fun i r q => ?_, fun i j a xs ys hij h1 h2 h3 h4 => ?_⟩
  · by_cases hi : i < ds.length
    · rw [List.getElem?_append_left (by simpa using hi), List.getElem?_map, List.getElem?_eq_getElem hi] at q
      cases q
      obtain ⟨v, e1, e2⟩ := h.get (List.getElem?_eq_getElem hi)
      exact ⟨v, by rw [List.getElem?_append_left (by simpa [hl] using hi), List.getElem?_map, e1]; rfl, e2⟩
    · rw [List.getElem?_append_right (by simpa using hi)] at q
      have := List.mem_of_getElem? q
      rw [List.mem_replicate] at this
      cases this.2
  · by_cases hi : i < ds.length
    · rw [List.getElem?_append_left (by simpa using hi), List.getElem?_map, List.getElem?_eq_getElem hi] at h1
      cases h1
    · rw [List.getElem?_append_right (by simpa using hi)] at h1
      have := List.mem_of_getElem? h1
      rw [List.mem_replicate] at this
      cases this.2
/-- where a def of the text stands, behind the top -/
structure DefAt (K : PySem.W.Frag) (mg : Str → Option Value) (T : TC) (fd : FDef) (st : Stmt) (x : Str) : Prop where
  ck : dC T fd st = true
  bd : BindsC x st (fd.N.take fd.ar)
  ex : ∃ fa fdd, FunD K x x (defArgs st) (defBody st) (defScope st) [] [] fa fdd ∧ mg x = some (.ref fa)
theorem def_ok {P : Program} {w : World} {K : PySem.W.Frag} {mg : Str → Option Value} {base : Heap} {cl : Nat → Addr} {T : TC} {prog : Nat → Option FDef} {st : Stmt} {fd : FDef} {fa : Addr} {fdd : FuncData} {x : Str} {k i : Nat}
    (tok : TOk ⟨P, w, K, mg, base, run prog k, cl, k⟩ T) (hp : prog i = some fd) (hc : dC T fd st = true) (F : FunD K x x (defArgs st) (defBody st) (defScope st) [] [] fa fdd) :
    FnOk P w K mg base (L2.CX P w) (k + 1) fa fdd (fd.N.take fd.ar) (spF K cl (run prog (k + 1) i)) := by
  unfold dC at hc
  rw [Bool.and_eq_true, Bool.and_eq_true] at hc
  obtain ⟨⟨h1, h2⟩, h3⟩ := hc
  have SS := scK_ok h1
  have har : (fd.N.take fd.ar).length = fd.ar := by
    rw [List.length_take]
    exact Nat.min_eq_left (of_decide_eq_true h2)
  have unf : ∀ ds, run prog (k + 1) i ds = if ds.length = fd.ar then M.bnd (execSs (run prog k) fd.body (startE fd.N ds)) fun o => match o.1 with
      | .ret r => M.ret r
      | .nx => M.ret (.fz .non)
      | _ => M.stk
    else M.stk := fun ds => by
    show (match prog i with | none => M.stk | some fd => _) = _
    rw [hp]
    all_goals rfl
  refine F.ok SS (fun vs H Q E h => ?_) (fun cdv A outer s H vs Q E hr h => ?_)
  · obtain ⟨ds, S, g, wk, hv, wp⟩ := h
    have wp : WP (run prog (k + 1) i ds S) _ _ := wp
    rw [unf] at wp
    obtain ⟨hl, _⟩ := WP.ite wp
    rw [hv.length, hl, har]
  · obtain ⟨ds, S, g, wk, hv, wp⟩ := h
    have wp : WP (run prog (k + 1) i ds S) (Fin K (RV K false) g H Q) (QX K cl E g H) := wp
    rw [unf] at wp
    obtain ⟨hl, wp⟩ := WP.ite wp
    have xs : XS ⟨P, w, K, mg, base, run prog k, cl, k⟩ (Sc.ct ⟨fd.N, defScope st, fun _ => true⟩ E) (cxOf (L2.CX P w) P w K mg base fd.N x (defScope st) fa cdv A outer s H E) :=
      ⟨⟨rfl, rfl, rfl, rfl, rfl, rfl, rfl, rfl, rfl, hr, takes_of rfl rfl rfl rfl⟩, passes_of rfl⟩
    refine ⟨_, (ckSs_ok tok fd.body ⟨fd.N, defScope st, fun _ => true⟩ E (defBody st) SS.nd h3).val _ xs, ?_⟩
    refine ⟨g, H, g, startE fd.N ds, S, .refl _ _, wk, env_start hv, (WP.bnd wp).mono (fun o S1 h σ' g' H' e' x' wk' en' => ?_) fun _ _ h => h⟩
    obtain ⟨fl, env'⟩ := o
    cases fl with
    | nx => exact h .non g' H' e' wk' .non
    | ret r => exact fun v hv => h v g' H' e' wk' hv
    | brk => exact h.elim
    | ct => exact h.elim
theorem defs_ok {P : Program} {w : World} {K : PySem.W.Frag} {mg : Str → Option Value} {base : Heap} {cl : Nat → Addr} {T : TC} {prog : Nat → Option FDef} {top : Nat → Stmt}
    (hd : ∀ x i, T.fns.lookup x = some i → ∃ fd, prog i = some fd ∧ DefAt K mg T fd (top i) x) (hb : ∀ x, T.free.contains x = true → mg x = none) :
    ∀ k x i, T.fns.lookup x = some i → FnAt ⟨P, w, K, mg, base, run prog k, cl, k⟩ x i
  | 0, x, i, h => by
    obtain ⟨fd, hp, hc, hbc, fa, fdd, F, hm⟩ := hd x i h
    have no : ∀ vs H Q E, ¬ spF K cl (run prog 0 i) vs H Q E := fun vs H Q E ⟨ds, S, g, _, _, wp⟩ => wp
    exact ⟨fa, fdd, _, ⟨fun vs H Q E h => (no _ _ _ _ h).elim, fun A outer s H args us vs Q E _ _ _ _ h => (no _ _ _ _ h).elim⟩, hm, F.kp, F.bindsN hbc⟩
  | k + 1, x, i, h => by
    obtain ⟨fd, hp, hc, hbc, fa, fdd, F, hm⟩ := hd x i h
    exact ⟨fa, fdd, _, def_ok ⟨defs_ok hd hb k, hb⟩ hp hc F, hm, F.kp, F.bindsN hbc⟩
end Mini
/-! SoundO: a law's end, for a top of defs alone. -/
namespace Mini
open PySem PySem.Spec PyProof.Rows L2
def mkD (top : Nat → Stmt) (p : Str × Nat) : He.DefD := ⟨(p.1, none), p.1, p.1, defArgs (top p.2), defBody (top p.2), defScope (top p.2), [], []⟩
def fnsD (T : TC) (top : Nat → Stmt) : List He.DefD := T.fns.map (mkD top)
def fasD (T : TC) : List He.Fa := T.fns.map (fun p => He.Fa.glo p.1) ++ T.free.map He.Fa.free
theorem all_nil {α : Type} {Q : α → Prop} : ∀ p ∈ ([] : List α), Q p := fun _ h => nomatch h
theorem all_cons {α : Type} {Q : α → Prop} {a : α} {l : List α} (h : Q a) (t : ∀ p ∈ l, Q p) : ∀ p ∈ a :: l, Q p := fun p m => by
  rcases List.mem_cons.mp m with rfl | m
  · exact h
  · exact t p m
theorem lookup_mem {α : Type} {x : Str} {a : α} : ∀ {l : List (Str × α)}, l.lookup x = some a → (x, a) ∈ l
  | [], h => by cases h
  | (y, b) :: l, h => by
    rw [List.lookup_cons] at h
    split at h
    · rename_i e
      have e := eq_of_beq e
      cases h
      rw [e]
      exact List.mem_cons_self
    · exact List.mem_cons_of_mem _ (lookup_mem h)
theorem says_ok {T : TC} {prog : Nat → Option FDef} {top : Nat → Stmt} {K : PySem.W.Frag} {h : Heap} {mg : Str → Option Value} (X : K.In h) (G : h.Ns mainGlobals mg) (c : He.SaysD (fasD T) (fnsD T top) K)
    (hck : ∀ p ∈ T.fns, ∃ fd, prog p.2 = some fd ∧ dC T fd (top p.2) = true ∧ BindsC p.1 (top p.2) (fd.N.take fd.ar)) : (∀ x i, T.fns.lookup x = some i → ∃ fd, prog i = some fd ∧ DefAt K mg T fd (top i) x) ∧ ∀ x, T.free.contains x = true → mg x = none := by
  refine ⟨fun x i hx => ?_, fun x hx => ?_⟩
  · have hm := lookup_mem hx
    obtain ⟨fd, h1, h2, h3⟩ := hck _ hm
    obtain ⟨j, hj, ej⟩ := List.mem_iff_getElem.mp hm
    have e1 : (fnsD T top)[j]? = some (mkD top (x, i)) := by
      unfold fnsD
      rw [List.getElem?_map, List.getElem?_eq_getElem hj, ej]
      rfl
    have e2 : (fasD T)[j]? = some (He.Fa.glo x) := by
      unfold fasD
      rw [List.getElem?_append_left (by rw [List.length_map]; exact hj), List.getElem?_map, List.getElem?_eq_getElem hj, ej]
      rfl
    obtain ⟨fdd, F⟩ := c.def_ j e1
    exact ⟨fd, h1, h2, h3, _, fdd, F, He.glo_ok X G (c.fact j e2)⟩
  · have hm : x ∈ T.free := by simpa using hx
    obtain ⟨j, hj, ej⟩ := List.mem_iff_getElem.mp hm
    have e2 : (fasD T)[T.fns.length + j]? = some (He.Fa.free x) := by
      unfold fasD
      rw [List.getElem?_append_right (by rw [List.length_map]; omega), List.length_map, Nat.add_sub_cancel_left, List.getElem?_map, List.getElem?_eq_getElem hj, ej]
      rfl
    exact He.free_ok X G (c.fact _ e2)
theorem sp_law {K : PySem.W.Frag} {cl : Nat → Addr} {m : List D → M Rv} {H : Hp} {a : Addr} {ns : List Int} (hS : SqL K H a (ns.map V.int)) (h : ∃ S, m [.scr ns] [] = .ok (.fz (.bl true)) S) : spF K cl m [.ref a] H (fun v _ => v = .bl true) fun _ _ _ => False := by
  obtain ⟨S, e⟩ := h
  refine ⟨[.scr ns], [], ⟨[], H⟩, ⟨Same.refl _, rfl, .nil, fun _ h => (nomatch h), fun n a c h => by simp at h⟩, .cons (.scr hS) .nil, ?_⟩
  rw [e]
  intro v g' H' _ _ r
  cases (show RD K g' v (.bl true) from r)
  rfl
/-- the walk of a law: its top says what its defs are, and the small program's answer is True -/
theorem walk_mini {l : PySem.W.OpenLaw} {k iL : Nat} {T : TC} {prog : Nat → Option FDef} {top : Nat → Stmt} {q : Program} {loose : List Str} {d : DefRec} {m : Nat} {fdL : FDef} {XP : (Str → Option Value) → Heap → Prop}
    (hn : l.most = some 63) (hdf : d.params.defaults = []) (hnm : d.name = "law") (hr : Room (k + 1) callerA) (hck : ∀ p ∈ T.fns, ∃ fd, prog p.2 = some fd ∧ dC T fd (top p.2) = true ∧ BindsC p.1 (top p.2) (fd.N.take fd.ar))
    (hL : T.fns.lookup ("law" : Str) = some iL) (hfd : prog iL = some fdL) (hps : fdL.N.take fdL.ar = ([("script" : Str)] : List Str))
    (hp : ∀ ns : List Int, ns.length ≤ 63 → (∀ z ∈ ns, Builtin.Int.intBits z ≤ 1048576) → ∃ S, run prog (k + 1) iL [.scr ns] [] = .ok (.fz (.bl true)) S) :
    PySem.W.WalkO q loose XP (He.hookD m (fasD T) (fnsD T top)).says l.row.toRowW d [] (fun f vs => PySem.call f vs) := by
  refine Att.attach_callB (n := 63) hn hdf fun w s₀ s₁ mg mb fa o pm cd doc a vs ns G Y ho hd hcd hmg hobj hints hlen hbits hg => ?_
  obtain ⟨K, KX, c⟩ := Y
  obtain ⟨h1, h2⟩ := says_ok (prog := prog) KX G.T.g c hck
  obtain ⟨fd', e1, hck', hbc, fa', fdd, FD, hm⟩ := h1 "law" iL hL
  rw [hfd] at e1
  cases e1
  rw [hnm] at hmg
  rw [hmg] at hm
  cases hm
  have hb : ∀ (s : Shared) (u : Value), BindsTo s fdd ⟨[u], []⟩ [("script", u)] := fun s u => by
    have := FD.bindsA (ps := fdL.N.take fdL.ar) hbc s [u] (by rw [hps]; rfl)
    rw [hps] at this
    exact this
  have FN : ∀ base : Heap, FnOk l.prog w K mg base (L2.CX l.prog w) (k + 1) fa fdd ["script"] (spF K (fun _ => 0) (run prog (k + 1) iL)) := fun base => by
    have := def_ok (P := l.prog) (w := w) (mg := mg) (base := base) (cl := fun _ => 0) (k := k) ⟨defs_ok h1 h2 k, h2⟩ hfd hck' FD
    rw [hps] at this
    exact this
  exact law_call KX G.T.g G.T.b G.T.builtins G.T.nolimit hg hobj hints (Nat.le_trans hlen (by decide)) hr (fun base _ _ => FN base) hb (fun H hO hS => sp_law hS (hp ns hlen hbits)) fun H e s' z => by
    obtain ⟨_, _, _, _, _, _, _, _, _, _, _, _, z⟩ := z
    exact z
end Mini
/-! Defs: the defs of the laws and of the package in the small language (printed by gen.py). -/
namespace Mini
open PySem L2
def d_is_within : FDef := ⟨["thing", "low", "high"], 3, (.cons (.ret (.and (.blt (.isi [.int]) (.cons (.var 0) .nil)) (.and (.not (.blt (.isi [.bool]) (.cons (.var 0) .nil))) (.chn .le .le (.var 1) (.var 0) (.var 2))))) .nil)⟩
def d_is_map (c_is_within : Nat) : FDef := ⟨["thing", "many", "one"], 2, (.cons (.ret (.and (.blt (.isi [.tuple]) (.cons (.var 0) .nil)) (.and (.cmp .eq (.blt .len (.cons (.var 0) .nil)) (.var 1)) (.blt .all (.cons (.comp [2] (.nm 2) (.val (.var 0)) (.no) (.call c_is_within (.cons (.var 2) (.cons (.cst (.int 0)) (.cons (.bin .sub (.var 1) (.cst (.int 1))) .nil))))) .nil))))) .nil)⟩
def d_is_way (c_is_map : Nat) (c_is_within : Nat) : FDef := ⟨["thing", "many"], 2, (.cons (.ite (.or (.not (.blt (.isi [.tuple]) (.cons (.var 0) .nil))) (.cmp .ne (.blt .len (.cons (.var 0) .nil)) (.cst (.int 4)))) (.cons (.ret (.cst (.bl false))) .nil) .nil) (.cons (.ite (.or (.not (.call c_is_within (.cons (.idx (.var 0) (.cst (.int 0))) (.cons (.cst (.int 0)) (.cons (.bin .sub (.var 1) (.cst (.int 1))) .nil))))) (.not (.call c_is_within (.cons (.idx (.var 0) (.cst (.int 1))) (.cons (.cst (.int 0)) (.cons (.bin .sub (.var 1) (.cst (.int 1))) .nil)))))) (.cons (.ret (.cst (.bl false))) .nil) .nil) (.cons (.ret (.and (.call c_is_map (.cons (.idx (.var 0) (.cst (.int 2))) (.cons (.var 1) .nil))) (.call c_is_map (.cons (.idx (.var 0) (.cst (.int 3))) (.cons (.var 1) .nil))))) .nil)))⟩
def d_is_mood (c_is_way : Nat) : FDef := ⟨["thing", "many", "way"], 2, (.cons (.ret (.and (.blt (.isi [.tuple]) (.cons (.var 0) .nil)) (.and (.cmp .le (.blt .len (.cons (.var 0) .nil)) (.cst (.int 3))) (.blt .all (.cons (.comp [2] (.nm 2) (.val (.var 0)) (.no) (.call c_is_way (.cons (.var 2) (.cons (.var 1) .nil)))) .nil))))) .nil)⟩
def d_is_kind (c_is_mood : Nat) : FDef := ⟨["thing", "mood"], 1, (.cons (.ite (.or (.not (.blt (.isi [.tuple]) (.cons (.var 0) .nil))) (.not (.chn .le .le (.cst (.int 1)) (.blt .len (.cons (.var 0) .nil)) (.cst (.int 6))))) (.cons (.ret (.cst (.bl false))) .nil) .nil) (.cons (.ret (.blt .all (.cons (.comp [1] (.nm 1) (.val (.var 0)) (.no) (.call c_is_mood (.cons (.var 1) (.cons (.blt .len (.cons (.var 0) .nil)) .nil)))) .nil))) .nil))⟩
def d__law_cell_at : FDef := ⟨["script", "k"], 2, (.cons (.ite (.cmp .lt (.var 1) (.blt .len (.cons (.var 0) .nil))) (.cons (.ret (.idx (.var 0) (.var 1))) .nil) .nil) (.cons (.ret (.cst (.int 0))) .nil))⟩
def d__law_draws : FDef := ⟨["cell", "many", "size", "found", "rest", "stirred", "k"], 3, (.cons (.set 3 (.lst .nil)) (.cons (.set 4 (.bin .mul (.var 0) (.blt .int1 (.cons (.cmp .ge (.var 0) (.bin .pow (.cst (.int 10)) (.cst (.int 18)))) .nil)))) (.cons (.set 5 (.bin .mod (.var 0) (.cst (.int 2305843009213693951)))) (.cons (.for_ (.nm 6) (.rng (.bin .add (.var 1) (.cst (.int 3)))) (.cons (.set 5 (.bin .mod (.bin .add (.bin .add (.bin .add (.bin .mul (.var 5) (.var 5)) (.bin .mul (.cst (.int 48271)) (.var 5))) (.var 6)) (.cst (.int 1))) (.cst (.int 2305843009213693951)))) (.cons (.ite (.and (.cmp .gt (.var 6) (.cst (.int 2))) (.cmp .gt (.var 4) (.cst (.int 0)))) (.cons (.app 3 (.bin .mod (.var 4) (.var 2))) (.cons (.set 4 (.bin .fdiv (.var 4) (.var 2))) .nil)) (.cons (.ite (.cmp .gt (.var 6) (.cst (.int 2))) (.cons (.app 3 (.bin .mod (.bin .fdiv (.var 5) (.cst (.int 4096))) (.var 2))) .nil) .nil) .nil)) .nil))) (.cons (.rtv 3) .nil)))))⟩
def d__law_spoilt (c__law_odd : Nat) (c__law_spoilt : Nat) : FDef := ⟨["thing", "picks", "pieces", "at", "turn_by"], 2, (.cons (.ite (.or (.not (.blt (.isi [.tuple, .list]) (.cons (.var 0) .nil))) (.or (.cmp .eq (.blt .len (.cons (.var 0) .nil)) (.cst (.int 0))) (.or (.cmp .lt (.blt .len (.cons (.var 1) .nil)) (.cst (.int 9))) (.cmp .eq (.bin .mod (.idx (.var 1) (.cst (.int 0))) (.cst (.int 9))) (.cst (.int 0)))))) (.cons (.ret (.call c__law_odd (.cons (.from_ (.var 1) (.cst (.int 1))) .nil))) .nil) .nil) (.cons (.set 2 (.blt .list (.cons (.var 0) .nil))) (.cons (.set 3 (.bin .mod (.idx (.var 1) (.cst (.int 1))) (.blt .len (.cons (.var 2) .nil)))) (.cons (.set 4 (.bin .mod (.idx (.var 1) (.cst (.int 2))) (.cst (.int 12)))) (.cons (.ite (.cmp .eq (.var 4) (.cst (.int 0))) (.cons (.set 2 (.bin .add (.upto (.var 2) (.var 3)) (.from_ (.var 2) (.bin .add (.var 3) (.cst (.int 1)))))) .nil) (.cons (.ite (.cmp .eq (.var 4) (.cst (.int 1))) (.cons (.set 2 (.bin .add (.upto (.var 2) (.bin .add (.var 3) (.cst (.int 1)))) (.from_ (.var 2) (.var 3)))) .nil) (.cons (.ite (.cmp .eq (.var 4) (.cst (.int 2))) (.cons (.set 2 (.bin .add (.from_ (.var 2) (.var 3)) (.upto (.var 2) (.var 3)))) .nil) (.cons (.ite (.cmp .eq (.var 4) (.cst (.int 3))) (.cons (.set 2 (.bin .add (.bin .add (.upto (.var 2) (.var 3)) (.lst (.cons (.call c__law_odd (.cons (.from_ (.var 1) (.cst (.int 3))) .nil)) .nil))) (.from_ (.var 2) (.var 3)))) .nil) (.cons (.ite (.cmp .gt (.var 4) (.cst (.int 4))) (.cons (.stx 2 (.var 3) (.call c__law_spoilt (.cons (.idx (.var 2) (.var 3)) (.cons (.from_ (.var 1) (.cst (.int 4))) .nil)))) .nil) .nil) .nil)) .nil)) .nil)) .nil)) (.cons (.ite (.cmp .eq (.blt (.isi [.tuple]) (.cons (.var 0) .nil)) (.cmp .eq (.var 4) (.cst (.int 4)))) (.cons (.rtv 2) .nil) .nil) (.cons (.ret (.blt .tuple (.cons (.var 2) .nil))) .nil)))))))⟩
def d__law_from : FDef := ⟨["thing", "least", "top"], 3, (.cons (.ret (.and (.blt (.isi [.int]) (.cons (.var 0) .nil)) (.and (.not (.blt (.isi [.bool]) (.cons (.var 0) .nil))) (.and (.cmp .le (.var 1) (.var 0)) (.cmp .le (.var 0) (.var 2)))))) .nil)⟩
def d__law_bag (c__law_draws : Nat) (c__law_cell_at : Nat) : FDef := ⟨["script", "k"], 2, (.cons (.ret (.newc (.cons (.call c__law_draws (.cons (.call c__law_cell_at (.cons (.var 0) (.cons (.var 1) .nil))) (.cons (.cst (.int 400)) (.cons (.cst (.int 1000)) .nil)))) (.cons (.cst (.int 0)) .nil)))) .nil)⟩
def d__law_bags (c__law_bag : Nat) : FDef := ⟨["script", "limit", "k"], 2, (.cons (.ret (.comp [2] (.nm 2) (.rng (.blt .max2 (.cons (.cst (.int 1)) (.cons (.blt .min2 (.cons (.var 1) (.cons (.blt .len (.cons (.var 0) .nil)) .nil))) .nil)))) (.no) (.call c__law_bag (.cons (.var 0) (.cons (.var 2) .nil))))) .nil)⟩
def d__law_take : FDef := ⟨["bag", "many"], 2, (.cons (.stx 0 (.cst (.int 1)) (.bin .add (.idx (.var 0) (.cst (.int 1))) (.cst (.int 1)))) (.cons (.ret (.bin .mod (.idx (.idx (.var 0) (.cst (.int 0))) (.bin .mod (.idx (.var 0) (.cst (.int 1))) (.blt .len (.cons (.idx (.var 0) (.cst (.int 0))) .nil)))) (.var 1))) .nil))⟩
def d__law_odd : FDef := ⟨["picks", "odd"], 1, (.cons (.set 1 (.lst (.cons (.cst .non) (.cons (.cst (.bl true)) (.cons (.cst (.bl false)) (.cons (.neg (.cst (.int 1))) (.cons (.cst (.int 0)) (.cons (.cst (.int 1)) (.cons (.cst (.int 2)) (.cons (.cst (.int 3)) (.cons (.cst (.int 20)) (.cons (.bin .pow (.cst (.int 10)) (.cst (.int 12))) (.cons (.cst (.str "")) (.cons (.cst (.str "way")) (.cons (.tup (.cons (.cst (.int 1)) (.cons (.cst (.int 2)) .nil))) (.cons (.tup (.cons (.cst (.int 0)) (.cons (.cst (.int 1)) .nil))) (.cons (.tup (.cons (.cst (.int 2)) (.cons (.cst (.int 4)) .nil))) (.cons (.tup (.cons (.cst (.int 1)) (.cons (.bin .pow (.cst (.int 10)) (.cst (.int 12))) .nil))) .nil)))))))))))))))))) (.cons (.set 1 (.bin .add (.var 1) (.lst (.cons (.tup .nil) (.cons (.lst .nil) (.cons (.tup (.cons (.tup .nil) .nil)) (.cons (.tup (.cons (.tup (.cons (.tup (.cons (.cst (.int 0)) (.cons (.cst (.int 0)) (.cons (.tup (.cons (.cst (.int 0)) .nil)) (.cons (.tup (.cons (.cst (.int 0)) .nil)) .nil))))) .nil)) .nil)) .nil))))))) (.cons (.set 1 (.bin .add (.var 1) (.lst (.cons (.lst (.cons (.tup (.cons (.tup .nil) .nil)) .nil)) (.cons (.tup (.cons (.tup (.cons (.tup (.cons (.cst (.int 0)) (.cons (.cst (.int 1)) (.cons (.tup (.cons (.cst (.int 0)) .nil)) (.cons (.tup (.cons (.cst (.int 0)) .nil)) .nil))))) .nil)) .nil)) (.cons (.tup (.cons (.tup (.cons (.tup (.cons (.cst (.int 0)) (.cons (.cst (.int 0)) (.cons (.tup (.cons (.cst (.int 0)) .nil)) (.cons (.tup .nil) .nil))))) .nil)) .nil)) .nil)))))) (.cons (.set 1 (.bin .add (.var 1) (.lst (.cons (.tup (.cons (.cst (.int 1)) (.cons (.tup (.cons (.tup (.cons (.tup .nil) .nil)) .nil)) (.cons (.tup .nil) .nil)))) (.cons (.tup (.cons (.cst (.int 1)) (.cons (.tup (.cons (.tup (.cons (.tup .nil) .nil)) .nil)) (.cons (.tup (.cons (.tup (.cons (.cst (.int 0)) (.cons (.tup (.cons (.cst (.int 0)) .nil)) .nil))) .nil)) .nil)))) (.cons (.tup (.cons (.cst (.int 0)) (.cons (.tup (.cons (.tup (.cons (.tup .nil) .nil)) .nil)) (.cons (.tup .nil) .nil)))) .nil)))))) (.cons (.set 1 (.bin .add (.var 1) (.lst (.cons (.tup (.cons (.cst (.int 1)) (.cons (.tup .nil) (.cons (.tup .nil) .nil)))) (.cons (.tup (.cons (.cst .non) .nil)) (.cons (.tup (.cons (.tup .nil) (.cons (.tup .nil) (.cons (.tup .nil) .nil)))) .nil)))))) (.cons (.ret (.idx (.var 1) (.bin .mod (.bin .add (.idx (.var 0) (.cst (.int 0))) (.bin .mul (.cst (.int 7)) (.idx (.var 0) (.cst (.int 1))))) (.blt .len (.cons (.var 1) .nil))))) .nil))))))⟩
def d__law_tree : FDef := ⟨["deep", "some", "found", "mood"], 1, (.cons (.set 1 (.trng (.bin .add (.var 0) (.cst (.int 1))))) (.cons (.set 2 (.comp [3] (.nm 3) (.rng (.var 0)) (.no) (.tup (.cons (.tup (.cons (.bin .add (.var 3) (.cst (.int 1))) (.cons (.bin .add (.var 3) (.cst (.int 1))) (.cons (.var 1) (.cons (.var 1) .nil))))) .nil)))) (.cons (.ret (.bin .add (.blt .tuple (.cons (.var 2) .nil)) (.tup (.cons (.tup .nil) .nil)))) .nil)))⟩
def d__law_shelf : FDef := ⟨["slots", "some", "found", "mood", "many", "ways", "left"], 1, (.cons (.par [1, 2] (.cons (.trng (.bin .add (.var 0) (.cst (.int 1)))) (.cons (.lst .nil) .nil))) (.cons (.for_ (.nm 3) (.rng (.bin .add (.var 0) (.cst (.int 1)))) (.cons (.par [4, 5] (.cons (.bin .sub (.var 0) (.var 3)) (.cons (.lst .nil) .nil))) (.cons (.for_ (.nm 6) (.rng (.var 4)) (.cons (.app 5 (.tup (.cons (.bin .sub (.var 0) (.var 6)) (.cons (.bin .sub (.var 0) (.bin .sub (.bin .sub (.var 4) (.cst (.int 1))) (.var 6))) (.cons (.var 1) (.cons (.var 1) .nil)))))) .nil)) (.cons (.app 2 (.blt .tuple (.cons (.upto (.from_ (.var 5) (.blt .max2 (.cons (.cst (.int 0)) (.cons (.bin .sub (.bin .fdiv (.blt .len (.cons (.var 5) .nil)) (.cst (.int 2))) (.cst (.int 1))) .nil)))) (.cst (.int 3))) .nil))) .nil)))) (.cons (.ret (.blt .tuple (.cons (.var 2) .nil))) .nil)))⟩
def d__law_told_kinds (c__law_shelf : Nat) (c__law_tree : Nat) : FDef := ⟨["pocket", "climbs", "falls", "ends", "zigzag", "rows"], 0, (.cons (.set 0 (.tup (.cons (.tup (.cons (.tup (.cons (.cst (.int 1)) (.cons (.cst (.int 1)) (.cons (.tup (.cons (.cst (.int 1)) (.cons (.cst (.int 1)) .nil))) (.cons (.tup (.cons (.cst (.int 1)) (.cons (.cst (.int 1)) .nil))) .nil))))) .nil)) (.cons (.tup .nil) .nil)))) (.cons (.set 1 (.tup (.cons (.tup (.cons (.tup (.cons (.cst (.int 1)) (.cons (.cst (.int 0)) (.cons (.tup (.cons (.cst (.int 1)) (.cons (.cst (.int 1)) .nil))) (.cons (.tup (.cons (.cst (.int 0)) (.cons (.cst (.int 1)) .nil))) .nil))))) .nil)) (.cons (.tup .nil) .nil)))) (.cons (.set 2 (.tup (.cons (.tup (.cons (.tup (.cons (.cst (.int 0)) (.cons (.cst (.int 1)) (.cons (.tup (.cons (.cst (.int 0)) (.cons (.cst (.int 1)) .nil))) (.cons (.tup (.cons (.cst (.int 1)) (.cons (.cst (.int 1)) .nil))) .nil))))) .nil)) (.cons (.tup .nil) .nil)))) (.cons (.set 3 (.tup (.cons (.tup (.cons (.tup (.cons (.cst (.int 2)) (.cons (.cst (.int 1)) (.cons (.tup (.cons (.cst (.int 0)) (.cons (.cst (.int 1)) (.cons (.cst (.int 2)) (.cons (.cst (.int 3)) .nil))))) (.cons (.tup (.cons (.cst (.int 0)) (.cons (.cst (.int 1)) (.cons (.cst (.int 2)) (.cons (.cst (.int 3)) .nil))))) .nil))))) .nil)) (.cons (.tup (.cons (.tup (.cons (.cst (.int 3)) (.cons (.cst (.int 1)) (.cons (.tup (.cons (.cst (.int 0)) (.cons (.cst (.int 3)) (.cons (.cst (.int 2)) (.cons (.cst (.int 3)) .nil))))) (.cons (.tup (.cons (.cst (.int 0)) (.cons (.cst (.int 1)) (.cons (.cst (.int 2)) (.cons (.cst (.int 3)) .nil))))) .nil))))) .nil)) .nil)))) (.cons (.set 3 (.bin .add (.var 3) (.tup (.cons (.tup (.cons (.tup (.cons (.cst (.int 2)) (.cons (.cst (.int 3)) (.cons (.tup (.cons (.cst (.int 0)) (.cons (.cst (.int 1)) (.cons (.cst (.int 2)) (.cons (.cst (.int 3)) .nil))))) (.cons (.tup (.cons (.cst (.int 0)) (.cons (.cst (.int 1)) (.cons (.cst (.int 3)) (.cons (.cst (.int 3)) .nil))))) .nil))))) .nil)) (.cons (.tup .nil) .nil))))) (.cons (.set 4 (.tup (.cons (.tup (.cons (.tup (.cons (.cst (.int 2)) (.cons (.cst (.int 1)) (.cons (.tup (.cons (.cst (.int 0)) (.cons (.cst (.int 1)) (.cons (.cst (.int 2)) (.cons (.cst (.int 3)) (.cons (.cst (.int 4)) .nil)))))) (.cons (.tup (.cons (.cst (.int 0)) (.cons (.cst (.int 1)) (.cons (.cst (.int 2)) (.cons (.cst (.int 3)) (.cons (.cst (.int 4)) .nil)))))) .nil))))) .nil)) (.cons (.tup (.cons (.tup (.cons (.cst (.int 3)) (.cons (.cst (.int 4)) (.cons (.tup (.cons (.cst (.int 0)) (.cons (.cst (.int 3)) (.cons (.cst (.int 3)) (.cons (.cst (.int 3)) (.cons (.cst (.int 3)) .nil)))))) (.cons (.tup (.cons (.cst (.int 0)) (.cons (.cst (.int 4)) (.cons (.cst (.int 4)) (.cons (.cst (.int 4)) (.cons (.cst (.int 4)) .nil)))))) .nil))))) .nil)) (.cons (.tup .nil) .nil))))) (.cons (.set 4 (.bin .add (.var 4) (.tup (.cons (.tup (.cons (.tup (.cons (.cst (.int 2)) (.cons (.cst (.int 1)) (.cons (.tup (.cons (.cst (.int 0)) (.cons (.cst (.int 2)) (.cons (.cst (.int 2)) (.cons (.cst (.int 2)) (.cons (.cst (.int 2)) .nil)))))) (.cons (.tup (.cons (.cst (.int 0)) (.cons (.cst (.int 1)) (.cons (.cst (.int 1)) (.cons (.cst (.int 1)) (.cons (.cst (.int 1)) .nil)))))) .nil))))) .nil)) (.cons (.tup .nil) .nil))))) (.cons (.set 5 (.lst (.cons (.var 0) (.cons (.var 1) (.cons (.var 2) (.cons (.var 3) (.cons (.var 4) .nil))))))) (.cons (.set 5 (.bin .add (.var 5) (.lst (.cons (.call c__law_tree (.cons (.cst (.int 2)) .nil)) (.cons (.call c__law_tree (.cons (.cst (.int 3)) .nil)) (.cons (.call c__law_shelf (.cons (.cst (.int 1)) .nil)) (.cons (.call c__law_shelf (.cons (.cst (.int 3)) .nil)) (.cons (.call c__law_shelf (.cons (.cst (.int 5)) .nil)) .nil)))))))) (.cons (.ret (.bin .add (.var 5) (.lst (.cons (.tup (.cons (.tup (.cons (.tup (.cons (.cst (.int 0)) (.cons (.cst (.int 0)) (.cons (.tup (.cons (.cst (.int 0)) .nil)) (.cons (.tup (.cons (.cst (.int 0)) .nil)) .nil))))) .nil)) .nil)) (.cons (.tup (.cons (.tup .nil) .nil)) .nil))))) .nil))))))))))⟩
def d__law_a_kind (c__law_take : Nat) (c__law_told_kinds : Nat) : FDef := ⟨["bag", "most", "rows", "many", "found", "mood", "ways", "turn", "below", "one", "above"], 2, (.cons (.set 2 (.call c__law_told_kinds .nil)) (.cons (.ite (.cmp .eq (.call c__law_take (.cons (.var 0) (.cons (.cst (.int 2)) .nil))) (.cst (.int 0))) (.cons (.ret (.idx (.var 2) (.call c__law_take (.cons (.var 0) (.cons (.blt .len (.cons (.var 2) .nil)) .nil))))) .nil) .nil) (.cons (.par [3, 4] (.cons (.bin .add (.cst (.int 1)) (.call c__law_take (.cons (.var 0) (.cons (.var 1) .nil)))) (.cons (.lst .nil) .nil))) (.cons (.for_ (.nm 5) (.rng (.var 3)) (.cons (.set 6 (.lst .nil)) (.cons (.for_ (.nm 7) (.rng (.idx (.lst (.cons (.cst (.int 0)) (.cons (.cst (.int 1)) (.cons (.cst (.int 1)) (.cons (.cst (.int 2)) (.cons (.cst (.int 3)) .nil)))))) (.call c__law_take (.cons (.var 0) (.cons (.cst (.int 5)) .nil))))) (.cons (.set 8 (.blt .tuple (.cons (.comp [9] (.nm 9) (.rng (.var 3)) (.no) (.idx (.lst (.cons (.var 9) (.cons (.call c__law_take (.cons (.var 0) (.cons (.var 3) .nil))) .nil))) (.call c__law_take (.cons (.var 0) (.cons (.cst (.int 2)) .nil))))) .nil))) (.cons (.set 10 (.blt .tuple (.cons (.comp [9] (.nm 9) (.rng (.var 3)) (.no) (.idx (.lst (.cons (.var 9) (.cons (.call c__law_take (.cons (.var 0) (.cons (.var 3) .nil))) .nil))) (.call c__law_take (.cons (.var 0) (.cons (.cst (.int 2)) .nil))))) .nil))) (.cons (.app 6 (.tup (.cons (.call c__law_take (.cons (.var 0) (.cons (.var 3) .nil))) (.cons (.call c__law_take (.cons (.var 0) (.cons (.var 3) .nil))) (.cons (.var 8) (.cons (.var 10) .nil)))))) .nil)))) (.cons (.app 4 (.blt .tuple (.cons (.var 6) .nil))) .nil)))) (.cons (.ret (.blt .tuple (.cons (.var 4) .nil))) .nil)))))⟩
def d__law_is_way (c__law_from : Nat) : FDef := ⟨["thing", "many", "one", "some"], 2, (.cons (.ite (.or (.not (.blt (.isi [.tuple]) (.cons (.var 0) .nil))) (.cmp .ne (.blt .len (.cons (.var 0) .nil)) (.cst (.int 4)))) (.cons (.ret (.cst (.bl false))) .nil) .nil) (.cons (.for_ (.nm 2) (.val (.upto (.var 0) (.cst (.int 2)))) (.cons (.ite (.not (.call c__law_from (.cons (.var 2) (.cons (.cst (.int 0)) (.cons (.bin .sub (.var 1) (.cst (.int 1))) .nil))))) (.cons (.ret (.cst (.bl false))) .nil) .nil) .nil)) (.cons (.for_ (.nm 3) (.val (.from_ (.var 0) (.cst (.int 2)))) (.cons (.ite (.or (.not (.blt (.isi [.tuple]) (.cons (.var 3) .nil))) (.cmp .ne (.blt .len (.cons (.var 3) .nil)) (.var 1))) (.cons (.ret (.cst (.bl false))) .nil) .nil) (.cons (.ite (.not (.blt .all (.cons (.comp [2] (.nm 2) (.val (.var 3)) (.no) (.call c__law_from (.cons (.var 2) (.cons (.cst (.int 0)) (.cons (.bin .sub (.var 1) (.cst (.int 1))) .nil))))) .nil))) (.cons (.ret (.cst (.bl false))) .nil) .nil) .nil))) (.cons (.ret (.cst (.bl true))) .nil))))⟩
def d__law_is_kind (c__law_is_way : Nat) : FDef := ⟨["thing", "mood", "way"], 1, (.cons (.ite (.or (.not (.blt (.isi [.tuple]) (.cons (.var 0) .nil))) (.not (.chn .le .le (.cst (.int 1)) (.blt .len (.cons (.var 0) .nil)) (.cst (.int 6))))) (.cons (.ret (.cst (.bl false))) .nil) .nil) (.cons (.for_ (.nm 1) (.val (.var 0)) (.cons (.ite (.or (.not (.blt (.isi [.tuple]) (.cons (.var 1) .nil))) (.cmp .gt (.blt .len (.cons (.var 1) .nil)) (.cst (.int 3)))) (.cons (.ret (.cst (.bl false))) .nil) .nil) (.cons (.ite (.not (.blt .all (.cons (.comp [2] (.nm 2) (.val (.var 1)) (.no) (.call c__law_is_way (.cons (.var 2) (.cons (.blt .len (.cons (.var 0) .nil)) .nil)))) .nil))) (.cons (.ret (.cst (.bl false))) .nil) .nil) .nil))) (.cons (.ret (.cst (.bl true))) .nil)))⟩
def d_all_worths : FDef := ⟨["kind", "found", "turn", "later", "mood", "way", "worth"], 1, (.cons (.set 1 (.bin .mul (.lst (.cons (.cst (.int 0)) .nil)) (.blt .len (.cons (.var 0) .nil)))) (.cons (.for_ (.nm 2) (.rng (.bin .add (.blt .len (.cons (.var 0) .nil)) (.cst (.int 1)))) (.cons (.set 3 (.lst .nil)) (.cons (.for_ (.nm 4) (.val (.var 0)) (.cons (.app 3 (.blt .max1 (.cons (.bin .add (.lst (.cons (.cst (.int 0)) .nil)) (.comp [5] (.nm 5) (.val (.var 4)) (.no) (.bin .add (.cst (.int 1)) (.blt .min2 (.cons (.idx (.var 1) (.idx (.var 5) (.cst (.int 0)))) (.cons (.idx (.var 1) (.idx (.var 5) (.cst (.int 1)))) .nil)))))) .nil))) .nil)) (.cons (.frz [3] (.set 1 (.var 3))) .nil)))) (.cons (.ret (.comp [6] (.nm 6) (.val (.var 1)) (.no) (.ite (.cmp .ge (.var 6) (.blt .len (.cons (.var 0) .nil))) (.cst .non) (.var 6)))) .nil)))⟩
def d_worths (c_all_worths : Nat) (c_need_kind : Nat) : FDef := ⟨["kind"], 1, (.cons (.expr (.call c_need_kind (.cons (.var 0) .nil))) (.cons (.ret (.call c_all_worths (.cons (.var 0) .nil))) .nil))⟩
def d__law_worths : FDef := ⟨["kind", "found", "turn", "later", "ways", "best", "left", "right", "below", "above", "worth"], 1, (.cons (.set 1 (.bin .mul (.lst (.cons (.cst (.int 0)) .nil)) (.blt .len (.cons (.var 0) .nil)))) (.cons (.for_ (.nm 2) (.rng (.bin .add (.blt .len (.cons (.var 0) .nil)) (.cst (.int 2)))) (.cons (.set 3 (.lst .nil)) (.cons (.for_ (.nm 4) (.val (.var 0)) (.cons (.set 5 (.cst (.int 0))) (.cons (.for_ (.tp [(.nm 6), (.nm 7), (.nm 8), (.nm 9)]) (.val (.var 4)) (.cons (.set 5 (.blt .max2 (.cons (.var 5) (.cons (.bin .add (.cst (.int 1)) (.blt .min2 (.cons (.idx (.var 1) (.var 6)) (.cons (.idx (.var 1) (.var 7)) .nil)))) .nil)))) .nil)) (.cons (.app 3 (.var 5)) .nil)))) (.cons (.frz [3] (.set 1 (.var 3))) .nil)))) (.cons (.ret (.comp [10] (.nm 10) (.val (.var 1)) (.no) (.ite (.cmp .gt (.var 10) (.blt .len (.cons (.var 0) .nil))) (.cst .non) (.var 10)))) .nil)))⟩
def d_is_less : FDef := ⟨["one", "other"], 2, (.cons (.ite (.isc false (.var 0) .non) (.cons (.ret (.cst (.bl false))) .nil) .nil) (.cons (.ret (.or (.isc false (.var 1) .non) (.cmp .lt (.var 0) (.var 1)))) .nil))⟩
def d_less_one : FDef := ⟨["worth"], 1, (.cons (.ret (.ite (.isc false (.var 0) .non) (.cst .non) (.bin .sub (.var 0) (.cst (.int 1))))) .nil)⟩
def d_is_good (c_is_less : Nat) (c_less_one : Nat) : FDef := ⟨["kind", "some", "mood", "way", "left", "right", "below", "above", "one"], 4, (.cons (.unp (.tp [(.nm 4), (.nm 5), (.nm 6), (.nm 7)]) (.var 3)) (.cons (.ite (.or (.call c_is_less (.cons (.idx (.var 1) (.var 4)) (.cons (.call c_less_one (.cons (.idx (.var 1) (.var 2)) .nil)) .nil))) (.call c_is_less (.cons (.idx (.var 1) (.var 5)) (.cons (.call c_less_one (.cons (.idx (.var 1) (.var 2)) .nil)) .nil)))) (.cons (.ret (.cst (.bl false))) .nil) .nil) (.cons (.for_ (.nm 8) (.rng (.blt .len (.cons (.var 0) .nil))) (.cons (.ite (.or (.call c_is_less (.cons (.idx (.var 1) (.idx (.var 6) (.var 8))) (.cons (.call c_less_one (.cons (.idx (.var 1) (.var 8)) .nil)) .nil))) (.call c_is_less (.cons (.idx (.var 1) (.idx (.var 7) (.var 8))) (.cons (.call c_less_one (.cons (.idx (.var 1) (.var 8)) .nil)) .nil)))) (.cons (.ret (.cst (.bl false))) .nil) .nil) .nil)) (.cons (.ret (.cst (.bl true))) .nil))))⟩
def d_all_good_ways (c_is_good : Nat) (c_all_worths : Nat) : FDef := ⟨["kind", "mood", "some", "place", "way"], 2, (.cons (.set 2 (.call c_all_worths (.cons (.var 0) .nil))) (.cons (.frz [2] (.ret (.blt .tuple (.cons (.comp [3, 4] (.tp [(.nm 3), (.nm 4)]) (.enum (.idx (.var 0) (.var 1))) (.yes (.call c_is_good (.cons (.var 0) (.cons (.var 2) (.cons (.var 1) (.cons (.var 4) .nil)))))) (.var 3)) .nil)))) .nil))⟩
def d_first_barring (c_all_worths : Nat) (c_all_good_ways : Nat) : FDef := ⟨["kind", "mood", "worth"], 1, (.cons (.for_ (.tp [(.nm 1), (.nm 2)]) (.enum (.call c_all_worths (.cons (.var 0) .nil))) (.cons (.ite (.and (.cmp .ne (.var 2) (.cst (.int 0))) (.cmp .eq (.call c_all_good_ways (.cons (.var 0) (.cons (.var 1) .nil))) (.tup .nil))) (.cons (.rtv 1) .nil) .nil) .nil)) (.cons (.ret (.cst .non)) .nil))⟩
def d_is_fair (c_first_barring : Nat) (c_need_kind : Nat) : FDef := ⟨["kind"], 1, (.cons (.expr (.call c_need_kind (.cons (.var 0) .nil))) (.cons (.ret (.isc false (.call c_first_barring (.cons (.var 0) .nil)) .non)) .nil))⟩
def d__law_sup : FDef := ⟨["one", "other"], 2, (.cons (.ite (.or (.isc false (.var 0) .non) (.isc false (.var 1) .non)) (.cons (.ret (.ite (.isc false (.var 0) .non) (.var 1) (.var 0))) .nil) .nil) (.cons (.ret (.blt .min2 (.cons (.var 0) (.cons (.var 1) .nil)))) .nil))⟩
def d__law_fewer : FDef := ⟨["one", "other"], 2, (.cons (.ret (.and (.isc true (.var 0) .non) (.or (.isc false (.var 1) .non) (.cmp .lt (.var 0) (.var 1))))) .nil)⟩
def d_barring (c_first_barring : Nat) (c_need_kind : Nat) : FDef := ⟨["kind"], 1, (.cons (.expr (.call c_need_kind (.cons (.var 0) .nil))) (.cons (.ret (.call c_first_barring (.cons (.var 0) .nil))) .nil))⟩
def d__law_good_ways (c__law_fewer : Nat) (c__law_worths : Nat) : FDef := ⟨["kind", "mood", "some", "found", "less", "worth", "place", "left", "right", "below", "above", "good", "one"], 2, (.cons (.par [2, 3] (.cons (.call c__law_worths (.cons (.var 0) .nil)) (.cons (.lst .nil) .nil))) (.cons (.set 4 (.comp [5] (.nm 5) (.val (.var 2)) (.no) (.ite (.isc false (.var 5) .non) (.cst .non) (.bin .sub (.var 5) (.cst (.int 1)))))) (.cons (.for_ (.tp [(.nm 6), (.tp [(.nm 7), (.nm 8), (.nm 9), (.nm 10)])]) (.enum (.idx (.var 0) (.var 1))) (.cons (.set 11 (.and (.not (.call c__law_fewer (.cons (.idx (.var 2) (.var 7)) (.cons (.idx (.var 4) (.var 1)) .nil)))) (.not (.call c__law_fewer (.cons (.idx (.var 2) (.var 8)) (.cons (.idx (.var 4) (.var 1)) .nil)))))) (.cons (.for_ (.nm 12) (.rng (.blt .len (.cons (.var 0) .nil))) (.cons (.ite (.or (.call c__law_fewer (.cons (.idx (.var 2) (.idx (.var 9) (.var 12))) (.cons (.idx (.var 4) (.var 12)) .nil))) (.call c__law_fewer (.cons (.idx (.var 2) (.idx (.var 10) (.var 12))) (.cons (.idx (.var 4) (.var 12)) .nil)))) (.cons (.set 11 (.cst (.bl false))) .nil) .nil) .nil)) (.cons (.ite (.var 11) (.cons (.app 3 (.var 6)) .nil) .nil) .nil)))) (.cons (.ret (.blt .tuple (.cons (.var 3) .nil))) .nil))))⟩
def d_numbers_of : FDef := ⟨["lots", "many", "found", "number", "lot", "mood"], 2, (.cons (.set 2 (.bin .mul (.lst (.cons (.cst (.int 0)) .nil)) (.var 1))) (.cons (.for_ (.tp [(.nm 3), (.nm 4)]) (.enum (.var 0)) (.cons (.for_ (.nm 5) (.val (.var 4)) (.cons (.stx 2 (.var 5) (.var 3)) .nil)) .nil)) (.cons (.rtv 2) .nil)))⟩
def d_sign_of : FDef := ⟨["kind", "numbers", "mood", "own", "left", "right", "below", "above", "one", "by_all", "other", "way"], 3, (.cons (.set 3 (.lst .nil)) (.cons (.for_ (.tp [(.nm 4), (.nm 5), (.nm 6), (.nm 7)]) (.val (.idx (.var 0) (.var 2))) (.cons (.app 3 (.tup (.cons (.idx (.var 1) (.var 4)) (.cons (.idx (.var 1) (.var 5)) .nil)))) (.cons (.app 3 (.tup (.cons (.blt .tuple (.cons (.comp [8] (.nm 8) (.val (.var 6)) (.no) (.idx (.var 1) (.var 8))) .nil)) (.cons (.blt .tuple (.cons (.comp [8] (.nm 8) (.val (.var 7)) (.no) (.idx (.var 1) (.var 8))) .nil)) .nil)))) .nil))) (.cons (.set 9 (.lst .nil)) (.cons (.for_ (.nm 10) (.val (.var 0)) (.cons (.for_ (.nm 11) (.val (.var 10)) (.cons (.app 9 (.tup (.cons (.idx (.var 1) (.idx (.idx (.var 11) (.cst (.int 2))) (.var 2))) (.cons (.idx (.var 1) (.idx (.idx (.var 11) (.cst (.int 3))) (.var 2))) .nil)))) .nil)) .nil)) (.cons (.ret (.tup (.cons (.idx (.var 1) (.var 2)) (.cons (.blt .len (.cons (.idx (.var 0) (.var 2)) .nil)) (.cons (.blt .tuple (.cons (.var 3) .nil)) (.cons (.blt .tuple (.cons (.var 9) .nil)) .nil)))))) .nil)))))⟩
def d_all_lots (c_lots_by : Nat) (c_sign_of : Nat) (c_numbers_of : Nat) : FDef := ⟨["kind", "lots", "before", "numbers", "mood"], 1, (.cons (.par [1, 2] (.cons (.lst (.cons (.trng (.blt .len (.cons (.var 0) .nil))) .nil)) (.cons (.lst .nil) .nil))) (.cons (.whl (.cmp .ne (.var 1) (.var 2)) (.cons (.frz [1] (.par [2, 3] (.cons (.var 1) (.cons (.call c_numbers_of (.cons (.var 1) (.cons (.blt .len (.cons (.var 0) .nil)) .nil))) .nil)))) (.cons (.frz [3] (.set 1 (.call c_lots_by (.cons (.comp [4] (.nm 4) (.rng (.blt .len (.cons (.var 0) .nil))) (.no) (.call c_sign_of (.cons (.var 0) (.cons (.var 3) (.cons (.var 4) .nil))))) .nil)))) .nil))) (.cons (.rtv 1) .nil)))⟩
def d_alike_moods (c_all_lots : Nat) (c_need_kind : Nat) : FDef := ⟨["kind"], 1, (.cons (.expr (.call c_need_kind (.cons (.var 0) .nil))) (.cons (.ret (.call c_all_lots (.cons (.var 0) .nil))) .nil))⟩
def d_least_kind (c_numbers_of : Nat) (c_all_lots : Nat) (c_need_kind : Nat) : FDef := ⟨["kind", "lots", "numbers", "found", "lot", "ways", "left", "right", "below", "above", "under", "other", "over"], 1, (.cons (.expr (.call c_need_kind (.cons (.var 0) .nil))) (.cons (.set 1 (.call c_all_lots (.cons (.var 0) .nil))) (.cons (.frz [1] (.par [2, 3] (.cons (.call c_numbers_of (.cons (.var 1) (.cons (.blt .len (.cons (.var 0) .nil)) .nil))) (.cons (.lst .nil) .nil)))) (.cons (.frz [1] (.for_ (.nm 4) (.val (.var 1)) (.cons (.set 5 (.lst .nil)) (.cons (.for_ (.tp [(.nm 6), (.nm 7), (.nm 8), (.nm 9)]) (.val (.idx (.var 0) (.idx (.var 4) (.cst (.int 0))))) (.cons (.set 10 (.blt .tuple (.cons (.comp [11] (.nm 11) (.val (.var 1)) (.no) (.idx (.var 2) (.idx (.var 8) (.idx (.var 11) (.cst (.int 0)))))) .nil))) (.cons (.set 12 (.blt .tuple (.cons (.comp [11] (.nm 11) (.val (.var 1)) (.no) (.idx (.var 2) (.idx (.var 9) (.idx (.var 11) (.cst (.int 0)))))) .nil))) (.cons (.app 5 (.tup (.cons (.idx (.var 2) (.var 6)) (.cons (.idx (.var 2) (.var 7)) (.cons (.var 10) (.cons (.var 12) .nil)))))) .nil)))) (.cons (.app 3 (.blt .tuple (.cons (.var 5) .nil))) .nil))))) (.cons (.ret (.blt .tuple (.cons (.var 3) .nil))) .nil)))))⟩
def d__law_doubled (c__law_take : Nat) : FDef := ⟨["bag", "kind", "many", "at", "found", "mood", "ways", "left", "right", "below", "above"], 2, (.cons (.set 2 (.blt .len (.cons (.var 1) .nil))) (.cons (.ite (.cmp .gt (.var 2) (.cst (.int 5))) (.cons (.rtv 1) .nil) .nil) (.cons (.par [3, 4] (.cons (.call c__law_take (.cons (.var 0) (.cons (.var 2) .nil))) (.cons (.lst .nil) .nil))) (.cons (.for_ (.nm 5) (.val (.bin .add (.var 1) (.tup (.cons (.idx (.var 1) (.var 3)) .nil)))) (.cons (.set 6 (.lst .nil)) (.cons (.for_ (.tp [(.nm 7), (.nm 8), (.nm 9), (.nm 10)]) (.val (.var 5)) (.cons (.set 7 (.ite (.and (.cmp .eq (.var 7) (.var 3)) (.cmp .eq (.call c__law_take (.cons (.var 0) (.cons (.cst (.int 2)) .nil))) (.cst (.int 0)))) (.var 2) (.var 7))) (.cons (.app 6 (.tup (.cons (.var 7) (.cons (.var 8) (.cons (.bin .add (.var 9) (.tup (.cons (.idx (.var 9) (.var 3)) .nil))) (.cons (.bin .add (.var 10) (.tup (.cons (.idx (.var 10) (.var 3)) .nil))) .nil)))))) .nil))) (.cons (.app 4 (.blt .tuple (.cons (.var 6) .nil))) .nil)))) (.cons (.ret (.blt .tuple (.cons (.var 4) .nil))) .nil)))))⟩
def d_common : FDef := ⟨["one", "other"], 2, (.cons (.whl (.cmp .ne (.var 1) (.cst (.int 0))) (.cons (.par [0, 1] (.cons (.var 1) (.cons (.bin .mod (.var 0) (.var 1)) .nil))) .nil)) (.cons (.rtv 0) .nil))⟩
def d_are_takes (c_is_within : Nat) : FDef := ⟨["colours", "thing", "one", "other"], 2, (.cons (.ite (.or (.not (.blt (.isi [.tuple]) (.cons (.var 1) .nil))) (.or (.cmp .eq (.var 1) (.tup .nil)) (.not (.blt .all (.cons (.comp [2] (.nm 2) (.val (.var 1)) (.no) (.call c_is_within (.cons (.var 2) (.cons (.cst (.int 0)) (.cons (.bin .sub (.var 0) (.cst (.int 1))) .nil))))) .nil))))) (.cons (.ret (.cst (.bl false))) .nil) .nil) (.cons (.ret (.blt .all (.cons (.comp [2, 3] (.tp [(.nm 2), (.nm 3)]) (.zip (.var 1) (.from_ (.var 1) (.cst (.int 1)))) (.no) (.cmp .lt (.var 2) (.var 3))) .nil))) .nil))⟩
def d_is_keeper (c_are_takes : Nat) (c_is_within : Nat) : FDef := ⟨["colours", "kinds", "thing"], 3, (.cons (.ite (.or (.not (.blt (.isi [.tuple]) (.cons (.var 2) .nil))) (.or (.cmp .ne (.blt .len (.cons (.var 2) .nil)) (.cst (.int 2))) (.not (.call c_is_within (.cons (.idx (.var 2) (.cst (.int 0))) (.cons (.cst (.int 0)) (.cons (.bin .sub (.blt .len (.cons (.var 1) .nil)) (.cst (.int 1))) .nil))))))) (.cons (.ret (.cst (.bl false))) .nil) .nil) (.cons (.ret (.call c_are_takes (.cons (.var 0) (.cons (.idx (.var 2) (.cst (.int 1))) .nil)))) .nil))⟩
def d_is_house (c_is_keeper : Nat) (c_is_kind : Nat) (c_is_within : Nat) : FDef := ⟨["thing", "colours", "kinds", "keepers", "kind", "one"], 1, (.cons (.ite (.or (.not (.blt (.isi [.tuple]) (.cons (.var 0) .nil))) (.or (.cmp .ne (.blt .len (.cons (.var 0) .nil)) (.cst (.int 3))) (.not (.call c_is_within (.cons (.idx (.var 0) (.cst (.int 0))) (.cons (.cst (.int 1)) (.cons (.cst (.int 3)) .nil))))))) (.cons (.ret (.cst (.bl false))) .nil) .nil) (.cons (.unp (.tp [(.nm 1), (.nm 2), (.nm 3)]) (.var 0)) (.cons (.ite (.or (.not (.blt (.isi [.tuple]) (.cons (.var 2) .nil))) (.or (.not (.chn .le .le (.cst (.int 1)) (.blt .len (.cons (.var 2) .nil)) (.cst (.int 4)))) (.not (.blt .all (.cons (.comp [4] (.nm 4) (.val (.var 2)) (.no) (.call c_is_kind (.cons (.var 4) .nil))) .nil))))) (.cons (.ret (.cst (.bl false))) .nil) .nil) (.cons (.ite (.or (.not (.blt (.isi [.tuple]) (.cons (.var 3) .nil))) (.cmp .gt (.blt .len (.cons (.var 3) .nil)) (.cst (.int 5)))) (.cons (.ret (.cst (.bl false))) .nil) .nil) (.cons (.ret (.blt .all (.cons (.comp [5] (.nm 5) (.val (.var 3)) (.no) (.call c_is_keeper (.cons (.var 1) (.cons (.var 2) (.cons (.var 5) .nil))))) .nil))) .nil)))))⟩
def d_is_below : FDef := ⟨["one", "other"], 2, (.cons (.ret (.cmp .lt (.bin .mul (.idx (.var 0) (.cst (.int 0))) (.idx (.var 1) (.cst (.int 1)))) (.bin .mul (.idx (.var 1) (.cst (.int 0))) (.idx (.var 0) (.cst (.int 1)))))) .nil)⟩
def d_begun : FDef := ⟨["house", "passes"], 2, (.cons (.ret (.tup (.cons (.tup .nil) (.cons (.tup .nil) (.cons (.bin .mul (.tup (.cons (.tup (.cons (.cst (.int 0)) .nil)) .nil)) (.blt .len (.cons (.idx (.var 0) (.cst (.int 2))) .nil))) (.cons (.var 1) .nil)))))) .nil)⟩
def d_stretch_of (c_is_below : Nat) : FDef := ⟨["state", "mark", "one"], 2, (.cons (.ret (.blt .len (.cons (.comp [2] (.nm 2) (.val (.idx (.var 0) (.cst (.int 0)))) (.yes (.call c_is_below (.cons (.var 2) (.cons (.var 1) .nil)))) (.var 2)) .nil))) .nil)⟩
def d_run_of : FDef := ⟨["state", "keeper", "stretch", "one"], 3, (.cons (.ret (.blt .len (.cons (.comp [3] (.nm 3) (.val (.upto (.idx (.var 0) (.cst (.int 1))) (.var 2))) (.yes (.cmp .eq (.var 3) (.var 1))) (.var 3)) .nil))) .nil)⟩
def d_mood_at (c_run_of : Nat) : FDef := ⟨["state", "keeper", "stretch"], 3, (.cons (.ret (.idx (.idx (.idx (.var 0) (.cst (.int 2))) (.var 1)) (.call c_run_of (.cons (.var 0) (.cons (.var 1) (.cons (.var 2) .nil)))))) .nil)⟩
def d_kind_of : FDef := ⟨["house", "keeper"], 2, (.cons (.ret (.idx (.idx (.var 0) (.cst (.int 1))) (.idx (.idx (.idx (.var 0) (.cst (.int 2))) (.var 1)) (.cst (.int 0))))) .nil)⟩
def d_ways_at (c_kind_of : Nat) (c_mood_at : Nat) : FDef := ⟨["house", "state", "keeper", "stretch"], 4, (.cons (.ret (.idx (.call c_kind_of (.cons (.var 0) (.cons (.var 2) .nil))) (.call c_mood_at (.cons (.var 1) (.cons (.var 2) (.cons (.var 3) .nil)))))) .nil)⟩
def d_served (c_ways_at : Nat) (c_run_of : Nat) : FDef := ⟨["house", "state", "mark", "stretch", "keeper", "way", "marks", "owners", "runs", "at", "own", "left", "right", "below", "above", "later", "mood"], 6, (.cons (.set 6 (.bin .add (.bin .add (.upto (.idx (.var 1) (.cst (.int 0))) (.var 3)) (.tup (.cons (.var 2) .nil))) (.from_ (.idx (.var 1) (.cst (.int 0))) (.var 3)))) (.cons (.par [7, 8] (.cons (.bin .add (.bin .add (.upto (.idx (.var 1) (.cst (.int 1))) (.var 3)) (.tup (.cons (.var 4) .nil))) (.from_ (.idx (.var 1) (.cst (.int 1))) (.var 3))) (.cons (.idx (.var 1) (.cst (.int 2))) .nil))) (.cons (.ite (.isc false (.var 4) .non) (.cons (.ret (.tup (.cons (.var 6) (.cons (.var 7) (.cons (.var 8) (.cons (.bin .sub (.idx (.var 1) (.cst (.int 3))) (.cst (.int 1))) .nil)))))) .nil) .nil) (.cons (.par [9, 10] (.cons (.call c_run_of (.cons (.var 1) (.cons (.var 4) (.cons (.var 3) .nil)))) (.cons (.idx (.var 8) (.var 4)) .nil))) (.cons (.unp (.tp [(.nm 11), (.nm 12), (.nm 13), (.nm 14)]) (.idx (.call c_ways_at (.cons (.var 0) (.cons (.var 1) (.cons (.var 4) (.cons (.var 3) .nil))))) (.var 5))) (.cons (.set 15 (.bin .add (.bin .add (.blt .tuple (.cons (.comp [16] (.nm 16) (.val (.upto (.var 10) (.var 9))) (.no) (.idx (.var 13) (.var 16))) .nil)) (.tup (.cons (.var 11) (.cons (.var 12) .nil)))) (.blt .tuple (.cons (.comp [16] (.nm 16) (.val (.from_ (.var 10) (.bin .add (.var 9) (.cst (.int 1))))) (.no) (.idx (.var 14) (.var 16))) .nil)))) (.cons (.ret (.tup (.cons (.var 6) (.cons (.var 7) (.cons (.bin .add (.bin .add (.upto (.var 8) (.var 4)) (.tup (.cons (.var 15) .nil))) (.from_ (.var 8) (.bin .add (.var 4) (.cst (.int 1))))) (.cons (.idx (.var 1) (.cst (.int 3))) .nil)))))) .nil)))))))⟩
def d_can_serve (c_ways_at : Nat) : FDef := ⟨["house", "state", "stretch", "colour", "keeper", "way"], 6, (.cons (.ite (.cmp .notIn (.var 3) (.idx (.idx (.idx (.var 0) (.cst (.int 2))) (.var 4)) (.cst (.int 1)))) (.cons (.ret (.cst (.bl false))) .nil) .nil) (.cons (.ret (.cmp .lt (.var 5) (.blt .len (.cons (.call c_ways_at (.cons (.var 0) (.cons (.var 1) (.cons (.var 4) (.cons (.var 2) .nil))))) .nil)))) .nil))⟩
def d_is_entry (c_is_within : Nat) (c_is_mark : Nat) : FDef := ⟨["house", "thing"], 2, (.cons (.ite (.or (.not (.blt (.isi [.tuple]) (.cons (.var 1) .nil))) (.or (.cmp .ne (.blt .len (.cons (.var 1) .nil)) (.cst (.int 4))) (.not (.call c_is_mark (.cons (.idx (.var 1) (.cst (.int 0))) .nil))))) (.cons (.ret (.cst (.bl false))) .nil) .nil) (.cons (.ite (.not (.call c_is_within (.cons (.idx (.var 1) (.cst (.int 1))) (.cons (.cst (.int 0)) (.cons (.bin .sub (.idx (.var 0) (.cst (.int 0))) (.cst (.int 1))) .nil))))) (.cons (.ret (.cst (.bl false))) .nil) .nil) (.cons (.ite (.or (.isc false (.idx (.var 1) (.cst (.int 2))) .non) (.isc false (.idx (.var 1) (.cst (.int 3))) .non)) (.cons (.ret (.and (.isc false (.idx (.var 1) (.cst (.int 2))) .non) (.isc false (.idx (.var 1) (.cst (.int 3))) .non))) .nil) .nil) (.cons (.ret (.and (.call c_is_within (.cons (.idx (.var 1) (.cst (.int 2))) (.cons (.cst (.int 0)) (.cons (.bin .sub (.blt .len (.cons (.idx (.var 0) (.cst (.int 2))) .nil)) (.cst (.int 1))) .nil)))) (.call c_is_within (.cons (.idx (.var 1) (.cst (.int 3))) (.cons (.cst (.int 0)) (.cons (.cst (.int 2)) .nil)))))) .nil))))⟩
def d_has_shape (c_is_entry : Nat) : FDef := ⟨["house", "thing", "entry"], 2, (.cons (.ret (.and (.blt (.isi [.tuple]) (.cons (.var 1) .nil)) (.and (.cmp .le (.blt .len (.cons (.var 1) .nil)) (.cst (.int 12))) (.blt .all (.cons (.comp [2] (.nm 2) (.val (.var 1)) (.no) (.call c_is_entry (.cons (.var 0) (.cons (.var 2) .nil)))) .nil))))) .nil)⟩
def d_entered (c_served : Nat) (c_can_serve : Nat) (c_stretch_of : Nat) : FDef := ⟨["house", "state", "entry", "mark", "colour", "keeper", "way", "stretch"], 3, (.cons (.unp (.tp [(.nm 3), (.nm 4), (.nm 5), (.nm 6)]) (.var 2)) (.cons (.ite (.cmp .isIn (.var 3) (.idx (.var 1) (.cst (.int 0)))) (.cons (.ret (.cst .non)) .nil) .nil) (.cons (.set 7 (.call c_stretch_of (.cons (.var 1) (.cons (.var 3) .nil)))) (.cons (.ite (.isc false (.var 5) .non) (.cons (.ret (.ite (.cmp .gt (.idx (.var 1) (.cst (.int 3))) (.cst (.int 0))) (.call c_served (.cons (.var 0) (.cons (.var 1) (.cons (.var 3) (.cons (.var 7) (.cons (.cst .non) (.cons (.cst .non) .nil))))))) (.cst .non))) .nil) .nil) (.cons (.ite (.not (.call c_can_serve (.cons (.var 0) (.cons (.var 1) (.cons (.var 7) (.cons (.var 4) (.cons (.var 5) (.cons (.var 6) .nil)))))))) (.cons (.ret (.cst .non)) .nil) .nil) (.cons (.ret (.call c_served (.cons (.var 0) (.cons (.var 1) (.cons (.var 3) (.cons (.var 7) (.cons (.var 5) (.cons (.var 6) .nil)))))))) .nil))))))⟩
def d_state_of (c_entered : Nat) (c_begun : Nat) : FDef := ⟨["house", "passes", "book", "state", "entry"], 3, (.cons (.set 3 (.call c_begun (.cons (.var 0) (.cons (.var 1) .nil)))) (.cons (.for_ (.nm 4) (.val (.var 2)) (.cons (.ite (.isc true (.var 3) .non) (.cons (.set 3 (.call c_entered (.cons (.var 0) (.cons (.var 3) (.cons (.var 4) .nil))))) .nil) .nil) .nil)) (.cons (.rtv 3) .nil)))⟩
def d_is_all_book (c_state_of : Nat) (c_has_shape : Nat) : FDef := ⟨["house", "passes", "thing"], 3, (.cons (.ret (.and (.call c_has_shape (.cons (.var 0) (.cons (.var 2) .nil))) (.isc true (.call c_state_of (.cons (.var 0) (.cons (.var 1) (.cons (.var 2) .nil)))) .non))) .nil)⟩
def d_is_book (c_is_all_book : Nat) (c_need_passes : Nat) (c_need_house : Nat) : FDef := ⟨["house", "passes", "thing"], 3, (.cons (.expr (.call c_need_house (.cons (.var 0) .nil))) (.cons (.expr (.call c_need_passes (.cons (.var 1) .nil))) (.cons (.ret (.call c_is_all_book (.cons (.var 0) (.cons (.var 1) (.cons (.var 2) .nil))))) .nil)))⟩
def d_added : FDef := ⟨["some"], 1, (.cons (.ret (.ite (.cmp .isIn (.cst .non) (.var 0)) (.cst .non) (.blt .sum (.cons (.var 0) .nil)))) .nil)⟩
def d_worth_at (c_mood_at : Nat) : FDef := ⟨["house", "known", "state", "keeper", "stretch"], 5, (.cons (.ret (.idx (.idx (.var 1) (.idx (.idx (.idx (.var 0) (.cst (.int 2))) (.var 3)) (.cst (.int 0)))) (.call c_mood_at (.cons (.var 2) (.cons (.var 3) (.cons (.var 4) .nil)))))) .nil)⟩
def d_all_sums (c_added : Nat) (c_worth_at : Nat) (c_all_worths : Nat) : FDef := ⟨["house", "state", "known", "found", "kind", "colour", "row", "stretch", "some", "keeper", "takes"], 2, (.cons (.par [2, 3] (.cons (.comp [4] (.nm 4) (.val (.idx (.var 0) (.cst (.int 1)))) (.no) (.call c_all_worths (.cons (.var 4) .nil))) (.cons (.lst .nil) .nil))) (.cons (.for_ (.nm 5) (.rng (.idx (.var 0) (.cst (.int 0)))) (.cons (.set 6 (.lst .nil)) (.cons (.for_ (.nm 7) (.rng (.bin .add (.blt .len (.cons (.idx (.var 1) (.cst (.int 0))) .nil)) (.cst (.int 1)))) (.cons (.set 8 (.lst (.cons (.idx (.var 1) (.cst (.int 3))) .nil))) (.cons (.for_ (.tp [(.nm 9), (.tp [(.nm 4), (.nm 10)])]) (.enum (.idx (.var 0) (.cst (.int 2)))) (.cons (.ite (.cmp .isIn (.var 5) (.var 10)) (.cons (.frz [2] (.app 8 (.call c_worth_at (.cons (.var 0) (.cons (.var 2) (.cons (.var 1) (.cons (.var 9) (.cons (.var 7) .nil)))))))) .nil) .nil) .nil)) (.cons (.frz [8] (.app 6 (.call c_added (.cons (.var 8) .nil)))) .nil)))) (.cons (.frz [6] (.app 3 (.var 6))) .nil)))) (.cons (.rtv 3) .nil)))⟩
def d_sums (c_all_sums : Nat) (c_state_of : Nat) (c_need_book : Nat) : FDef := ⟨["house", "passes", "book"], 3, (.cons (.expr (.call c_need_book (.cons (.var 0) (.cons (.var 1) (.cons (.var 2) .nil))))) (.cons (.ret (.call c_all_sums (.cons (.var 0) (.cons (.call c_state_of (.cons (.var 0) (.cons (.var 1) (.cons (.var 2) .nil)))) .nil)))) .nil))⟩
def d_least_sum (c_all_sums : Nat) (c_is_less : Nat) : FDef := ⟨["house", "state", "found", "row", "one"], 2, (.cons (.set 2 (.cst .non)) (.cons (.for_ (.nm 3) (.val (.call c_all_sums (.cons (.var 0) (.cons (.var 1) .nil)))) (.cons (.for_ (.nm 4) (.val (.var 3)) (.cons (.set 2 (.ite (.call c_is_less (.cons (.var 4) (.cons (.var 2) .nil))) (.var 4) (.var 2))) .nil)) .nil)) (.cons (.rtv 2) .nil)))⟩
def d_surely (c_least_sum : Nat) (c_state_of : Nat) (c_need_book : Nat) : FDef := ⟨["house", "passes", "book"], 3, (.cons (.expr (.call c_need_book (.cons (.var 0) (.cons (.var 1) (.cons (.var 2) .nil))))) (.cons (.ret (.call c_least_sum (.cons (.var 0) (.cons (.call c_state_of (.cons (.var 0) (.cons (.var 1) (.cons (.var 2) .nil)))) .nil)))) .nil))⟩
def d_all_answers (c_least_sum : Nat) (c_served : Nat) (c_ways_at : Nat) (c_stretch_of : Nat) : FDef := ⟨["house", "state", "mark", "colour", "stretch", "found", "keeper", "kind", "takes", "way", "later"], 4, (.cons (.par [4, 5] (.cons (.call c_stretch_of (.cons (.var 1) (.cons (.var 2) .nil))) (.cons (.lst .nil) .nil))) (.cons (.for_ (.tp [(.nm 6), (.tp [(.nm 7), (.nm 8)])]) (.enum (.idx (.var 0) (.cst (.int 2)))) (.cons (.ite (.cmp .isIn (.var 3) (.var 8)) (.cons (.for_ (.nm 9) (.rng (.blt .len (.cons (.call c_ways_at (.cons (.var 0) (.cons (.var 1) (.cons (.var 6) (.cons (.var 4) .nil))))) .nil))) (.cons (.set 10 (.call c_served (.cons (.var 0) (.cons (.var 1) (.cons (.var 2) (.cons (.var 4) (.cons (.var 6) (.cons (.var 9) .nil)))))))) (.cons (.app 5 (.tup (.cons (.var 6) (.cons (.var 9) (.cons (.call c_least_sum (.cons (.var 0) (.cons (.var 10) .nil))) .nil))))) .nil))) .nil) .nil) .nil)) (.cons (.ite (.cmp .gt (.idx (.var 1) (.cst (.int 3))) (.cst (.int 0))) (.cons (.app 5 (.tup (.cons (.cst .non) (.cons (.cst .non) (.cons (.call c_least_sum (.cons (.var 0) (.cons (.call c_served (.cons (.var 0) (.cons (.var 1) (.cons (.var 2) (.cons (.var 4) (.cons (.cst .non) (.cons (.cst .non) .nil))))))) .nil))) .nil))))) .nil) .nil) (.cons (.rtv 5) .nil))))⟩
def d__law_common : FDef := ⟨["one", "other"], 2, (.cons (.whl (.cmp .ne (.var 1) (.cst (.int 0))) (.cons (.par [0, 1] (.cons (.var 1) (.cons (.bin .mod (.var 0) (.var 1)) .nil))) .nil)) (.cons (.rtv 0) .nil))⟩
def d__law_begun : FDef := ⟨["house", "keeper"], 1, (.cons (.ret (.tup (.cons (.lst .nil) (.cons (.lst .nil) (.cons (.comp [1] (.nm 1) (.val (.idx (.var 0) (.cst (.int 2)))) (.no) (.lst (.cons (.cst (.int 0)) .nil))) .nil))))) .nil)⟩
def d__law_place : FDef := ⟨["board", "mark", "one"], 2, (.cons (.ret (.blt .len (.cons (.comp [2] (.nm 2) (.val (.idx (.var 0) (.cst (.int 0)))) (.yes (.cmp .lt (.bin .mul (.idx (.var 2) (.cst (.int 0))) (.idx (.var 1) (.cst (.int 1)))) (.bin .mul (.idx (.var 1) (.cst (.int 0))) (.idx (.var 2) (.cst (.int 1)))))) (.var 2)) .nil))) .nil)⟩
def d__law_mood : FDef := ⟨["board", "keeper", "place", "one"], 3, (.cons (.ret (.idx (.idx (.idx (.var 0) (.cst (.int 2))) (.var 1)) (.blt .len (.cons (.comp [3] (.nm 3) (.val (.upto (.idx (.var 0) (.cst (.int 1))) (.var 2))) (.yes (.cmp .eq (.var 3) (.var 1))) (.var 3)) .nil)))) .nil)⟩
def d__law_ways (c__law_mood : Nat) : FDef := ⟨["house", "board", "keeper", "place"], 4, (.cons (.ret (.idx (.idx (.idx (.var 0) (.cst (.int 1))) (.idx (.idx (.idx (.var 0) (.cst (.int 2))) (.var 2)) (.cst (.int 0)))) (.call c__law_mood (.cons (.var 1) (.cons (.var 2) (.cons (.var 3) .nil)))))) .nil)⟩
def d__law_put (c__law_ways : Nat) (c__law_place : Nat) : FDef := ⟨["house", "board", "mark", "keeper", "way", "place", "runs", "row", "at", "one", "left", "right", "below", "above", "own", "later", "mood", "marks"], 5, (.cons (.par [5, 6] (.cons (.call c__law_place (.cons (.var 1) (.cons (.var 2) .nil))) (.cons (.comp [7] (.nm 7) (.val (.idx (.var 1) (.cst (.int 2)))) (.no) (.blt .list (.cons (.var 7) .nil))) .nil))) (.cons (.ite (.isc true (.var 3) .non) (.cons (.set 8 (.blt .len (.cons (.comp [9] (.nm 9) (.val (.upto (.idx (.var 1) (.cst (.int 1))) (.var 5))) (.yes (.cmp .eq (.var 9) (.var 3))) (.var 9)) .nil))) (.cons (.unp (.tp [(.nm 10), (.nm 11), (.nm 12), (.nm 13)]) (.idx (.call c__law_ways (.cons (.var 0) (.cons (.var 1) (.cons (.var 3) (.cons (.var 5) .nil))))) (.var 4))) (.cons (.set 14 (.idx (.var 6) (.var 3))) (.cons (.set 15 (.bin .add (.comp [16] (.nm 16) (.val (.upto (.var 14) (.var 8))) (.no) (.idx (.var 12) (.var 16))) (.lst (.cons (.var 10) (.cons (.var 11) .nil))))) (.cons (.stx 6 (.var 3) (.bin .add (.var 15) (.comp [16] (.nm 16) (.val (.from_ (.var 14) (.bin .add (.var 8) (.cst (.int 1))))) (.no) (.idx (.var 13) (.var 16))))) .nil))))) .nil) (.cons (.set 17 (.bin .add (.bin .add (.upto (.idx (.var 1) (.cst (.int 0))) (.var 5)) (.lst (.cons (.var 2) .nil))) (.from_ (.idx (.var 1) (.cst (.int 0))) (.var 5)))) (.cons (.frz [6, 17] (.ret (.tup (.cons (.var 17) (.cons (.bin .add (.bin .add (.upto (.idx (.var 1) (.cst (.int 1))) (.var 5)) (.lst (.cons (.var 3) .nil))) (.from_ (.idx (.var 1) (.cst (.int 1))) (.var 5))) (.cons (.var 6) .nil)))))) .nil))))⟩
def d__law_a_mark (c__law_common : Nat) (c__law_take : Nat) : FDef := ⟨["bag", "board", "bottom", "top", "measure", "mark"], 2, (.cons (.set 2 (.bin .add (.cst (.int 2)) (.call c__law_take (.cons (.var 0) (.cons (.idx (.lst (.cons (.cst (.int 9)) (.cons (.cst (.int 90)) (.cons (.bin .pow (.cst (.int 10)) (.cst (.int 6))) .nil)))) (.call c__law_take (.cons (.var 0) (.cons (.cst (.int 3)) .nil)))) .nil))))) (.cons (.set 3 (.bin .add (.cst (.int 1)) (.call c__law_take (.cons (.var 0) (.cons (.bin .sub (.var 2) (.cst (.int 1))) .nil))))) (.cons (.set 4 (.call c__law_common (.cons (.var 3) (.cons (.var 2) .nil)))) (.cons (.set 5 (.tup (.cons (.bin .fdiv (.var 3) (.var 4)) (.cons (.bin .fdiv (.var 2) (.var 4)) .nil)))) (.cons (.whl (.cmp .isIn (.var 5) (.idx (.var 1) (.cst (.int 0)))) (.cons (.set 4 (.call c__law_common (.cons (.bin .add (.bin .mul (.cst (.int 2)) (.idx (.var 5) (.cst (.int 0)))) (.cst (.int 1))) (.cons (.bin .add (.bin .mul (.cst (.int 2)) (.idx (.var 5) (.cst (.int 1)))) (.cst (.int 1))) .nil)))) (.cons (.set 5 (.tup (.cons (.bin .fdiv (.bin .add (.bin .mul (.cst (.int 2)) (.idx (.var 5) (.cst (.int 0)))) (.cst (.int 1))) (.var 4)) (.cons (.bin .fdiv (.bin .add (.bin .mul (.cst (.int 2)) (.idx (.var 5) (.cst (.int 1)))) (.cst (.int 1))) (.var 4)) .nil)))) .nil))) (.cons (.rtv 5) .nil))))))⟩
def d__law_entries (c__law_can : Nat) : FDef := ⟨["house", "board", "passes", "mark", "colour", "found", "keeper", "way", "entry"], 5, (.cons (.set 5 (.lst .nil)) (.cons (.for_ (.nm 6) (.rng (.blt .len (.cons (.idx (.var 0) (.cst (.int 2))) .nil))) (.cons (.set 5 (.bin .add (.var 5) (.comp [7] (.nm 7) (.rng (.cst (.int 3))) (.no) (.tup (.cons (.var 3) (.cons (.var 4) (.cons (.var 6) (.cons (.var 7) .nil)))))))) .nil)) (.cons (.app 5 (.tup (.cons (.var 3) (.cons (.var 4) (.cons (.cst .non) (.cons (.cst .non) .nil)))))) (.cons (.ret (.comp [8] (.nm 8) (.val (.var 5)) (.yes (.call c__law_can (.cons (.var 0) (.cons (.var 1) (.cons (.var 2) (.cons (.var 8) .nil)))))) (.var 8))) .nil))))⟩
def d__law_a_book (c__law_take : Nat) (c__law_put : Nat) (c__law_entries : Nat) (c__law_a_mark : Nat) (c__law_begun : Nat) : FDef := ⟨["bag", "house", "passes", "most", "board", "book", "turn", "some", "entry"], 4, (.cons (.par [4, 5] (.cons (.call c__law_begun (.cons (.var 1) .nil)) (.cons (.lst .nil) .nil))) (.cons (.for_ (.nm 6) (.rng (.call c__law_take (.cons (.var 0) (.cons (.bin .add (.var 3) (.cst (.int 1))) .nil)))) (.cons (.set 7 (.call c__law_entries (.cons (.var 1) (.cons (.var 4) (.cons (.var 2) (.cons (.call c__law_a_mark (.cons (.var 0) (.cons (.var 4) .nil))) (.cons (.call c__law_take (.cons (.var 0) (.cons (.idx (.var 1) (.cst (.int 0))) .nil))) .nil))))))) (.cons (.ite (.cmp .ne (.var 7) (.lst .nil)) (.cons (.set 8 (.idx (.var 7) (.call c__law_take (.cons (.var 0) (.cons (.blt .len (.cons (.var 7) .nil)) .nil))))) (.cons (.app 5 (.var 8)) (.cons (.set 4 (.call c__law_put (.cons (.var 1) (.cons (.var 4) (.cons (.idx (.var 8) (.cst (.int 0))) (.cons (.idx (.var 8) (.cst (.int 2))) (.cons (.idx (.var 8) (.cst (.int 3))) .nil))))))) .nil))) .nil) .nil))) (.cons (.ret (.tup (.cons (.blt .tuple (.cons (.var 5) .nil)) (.cons (.var 4) .nil)))) .nil)))⟩
def d__law_fair_kind (c__law_take : Nat) (c__law_told_kinds : Nat) : FDef := ⟨["bag", "rows"], 1, (.cons (.set 1 (.call c__law_told_kinds .nil)) (.cons (.ret (.idx (.var 1) (.call c__law_take (.cons (.var 0) (.cons (.blt .len (.cons (.var 1) .nil)) .nil))))) .nil))⟩
def d__law_house (c__law_take : Nat) (c__law_fair_kind : Nat) (c__law_a_kind : Nat) : FDef := ⟨["bag", "fair", "most", "colours", "kinds", "keepers", "turn", "takes", "colour"], 3, (.cons (.set 3 (.bin .add (.cst (.int 1)) (.call c__law_take (.cons (.var 0) (.cons (.cst (.int 3)) .nil))))) (.cons (.par [4, 5] (.cons (.tup .nil) (.cons (.lst .nil) .nil))) (.cons (.for_ (.nm 6) (.rng (.bin .add (.cst (.int 1)) (.call c__law_take (.cons (.var 0) (.cons (.cst (.int 4)) .nil))))) (.cons (.set 4 (.bin .add (.var 4) (.tup (.cons (.ite (.var 1) (.call c__law_fair_kind (.cons (.var 0) .nil)) (.call c__law_a_kind (.cons (.var 0) (.cons (.cst (.int 4)) .nil)))) .nil)))) .nil)) (.cons (.for_ (.nm 6) (.rng (.call c__law_take (.cons (.var 0) (.cons (.bin .add (.var 2) (.cst (.int 1))) .nil)))) (.cons (.set 7 (.comp [8] (.nm 8) (.rng (.var 3)) (.yes (.cmp .gt (.call c__law_take (.cons (.var 0) (.cons (.cst (.int 3)) .nil))) (.cst (.int 0)))) (.var 8))) (.cons (.frz [7] (.set 7 (.ite (.cmp .ne (.var 7) (.lst .nil)) (.var 7) (.lst (.cons (.call c__law_take (.cons (.var 0) (.cons (.var 3) .nil))) .nil))))) (.cons (.app 5 (.tup (.cons (.call c__law_take (.cons (.var 0) (.cons (.blt .len (.cons (.var 4) .nil)) .nil))) (.cons (.blt .tuple (.cons (.var 7) .nil)) .nil)))) .nil)))) (.cons (.ret (.tup (.cons (.var 3) (.cons (.var 4) (.cons (.blt .tuple (.cons (.var 5) .nil)) .nil))))) .nil)))))⟩
def d__law_is_map_of (c__law_from : Nat) : FDef := ⟨["thing", "many", "one"], 2, (.cons (.ite (.or (.not (.blt (.isi [.tuple]) (.cons (.var 0) .nil))) (.cmp .ne (.blt .len (.cons (.var 0) .nil)) (.var 1))) (.cons (.ret (.cst (.bl false))) .nil) .nil) (.cons (.ret (.blt .all (.cons (.comp [2] (.nm 2) (.val (.var 0)) (.no) (.call c__law_from (.cons (.var 2) (.cons (.cst (.int 0)) (.cons (.bin .sub (.var 1) (.cst (.int 1))) .nil))))) .nil))) .nil))⟩
def d__law_is_told_kind (c__law_from : Nat) (c__law_is_map_of : Nat) : FDef := ⟨["thing", "mood", "way", "one"], 1, (.cons (.ite (.or (.not (.blt (.isi [.tuple]) (.cons (.var 0) .nil))) (.not (.chn .le .le (.cst (.int 1)) (.blt .len (.cons (.var 0) .nil)) (.cst (.int 6))))) (.cons (.ret (.cst (.bl false))) .nil) .nil) (.cons (.for_ (.nm 1) (.val (.var 0)) (.cons (.ite (.or (.not (.blt (.isi [.tuple]) (.cons (.var 1) .nil))) (.cmp .gt (.blt .len (.cons (.var 1) .nil)) (.cst (.int 3)))) (.cons (.ret (.cst (.bl false))) .nil) .nil) (.cons (.for_ (.nm 2) (.val (.var 1)) (.cons (.ite (.or (.not (.blt (.isi [.tuple]) (.cons (.var 2) .nil))) (.or (.cmp .ne (.blt .len (.cons (.var 2) .nil)) (.cst (.int 4))) (.not (.call c__law_is_map_of (.cons (.idx (.var 2) (.cst (.int 2))) (.cons (.blt .len (.cons (.var 0) .nil)) .nil)))))) (.cons (.ret (.cst (.bl false))) .nil) .nil) (.cons (.ite (.not (.call c__law_is_map_of (.cons (.idx (.var 2) (.cst (.int 3))) (.cons (.blt .len (.cons (.var 0) .nil)) .nil)))) (.cons (.ret (.cst (.bl false))) .nil) .nil) (.cons (.ite (.not (.blt .all (.cons (.comp [3] (.nm 3) (.val (.upto (.var 2) (.cst (.int 2)))) (.no) (.call c__law_from (.cons (.var 3) (.cons (.cst (.int 0)) (.cons (.bin .sub (.blt .len (.cons (.var 0) .nil)) (.cst (.int 1))) .nil))))) .nil))) (.cons (.ret (.cst (.bl false))) .nil) .nil) .nil)))) .nil))) (.cons (.ret (.cst (.bl true))) .nil)))⟩
def d__law_is_entry (c__law_from : Nat) (c__law_common : Nat) : FDef := ⟨["house", "thing", "top", "bottom", "colour", "keeper", "way"], 2, (.cons (.ite (.or (.not (.blt (.isi [.tuple]) (.cons (.var 1) .nil))) (.or (.cmp .ne (.blt .len (.cons (.var 1) .nil)) (.cst (.int 4))) (.or (.not (.blt (.isi [.tuple]) (.cons (.idx (.var 1) (.cst (.int 0))) .nil))) (.cmp .ne (.blt .len (.cons (.idx (.var 1) (.cst (.int 0))) .nil)) (.cst (.int 2)))))) (.cons (.ret (.cst (.bl false))) .nil) .nil) (.cons (.unp (.tp [(.tp [(.nm 2), (.nm 3)]), (.nm 4), (.nm 5), (.nm 6)]) (.var 1)) (.cons (.ite (.or (.not (.call c__law_from (.cons (.var 3) (.cons (.cst (.int 2)) (.cons (.bin .sub (.bin .pow (.cst (.int 10)) (.cst (.int 12))) (.cst (.int 1))) .nil))))) (.not (.call c__law_from (.cons (.var 2) (.cons (.cst (.int 1)) (.cons (.bin .sub (.var 3) (.cst (.int 1))) .nil)))))) (.cons (.ret (.cst (.bl false))) .nil) .nil) (.cons (.ite (.cmp .ne (.call c__law_common (.cons (.var 2) (.cons (.var 3) .nil))) (.cst (.int 1))) (.cons (.ret (.cst (.bl false))) .nil) .nil) (.cons (.ite (.not (.call c__law_from (.cons (.var 4) (.cons (.cst (.int 0)) (.cons (.bin .sub (.idx (.var 0) (.cst (.int 0))) (.cst (.int 1))) .nil))))) (.cons (.ret (.cst (.bl false))) .nil) .nil) (.cons (.ite (.or (.isc false (.var 5) .non) (.isc false (.var 6) .non)) (.cons (.ret (.and (.isc false (.var 5) .non) (.isc false (.var 6) .non))) .nil) .nil) (.cons (.ret (.and (.call c__law_from (.cons (.var 5) (.cons (.cst (.int 0)) (.cons (.bin .sub (.blt .len (.cons (.idx (.var 0) (.cst (.int 2))) .nil)) (.cst (.int 1))) .nil)))) (.call c__law_from (.cons (.var 6) (.cons (.cst (.int 0)) (.cons (.cst (.int 2)) .nil)))))) .nil)))))))⟩
def d__law_is_book (c__law_put : Nat) (c__law_can : Nat) (c__law_is_entry : Nat) (c__law_begun : Nat) : FDef := ⟨["house", "passes", "thing", "board", "entry"], 3, (.cons (.ite (.or (.not (.blt (.isi [.tuple]) (.cons (.var 2) .nil))) (.cmp .gt (.blt .len (.cons (.var 2) .nil)) (.cst (.int 12)))) (.cons (.ret (.cst (.bl false))) .nil) .nil) (.cons (.set 3 (.call c__law_begun (.cons (.var 0) .nil))) (.cons (.for_ (.nm 4) (.val (.var 2)) (.cons (.ite (.or (.not (.call c__law_is_entry (.cons (.var 0) (.cons (.var 4) .nil)))) (.not (.call c__law_can (.cons (.var 0) (.cons (.var 3) (.cons (.var 1) (.cons (.var 4) .nil))))))) (.cons (.ret (.cst (.bl false))) .nil) .nil) (.cons (.set 3 (.call c__law_put (.cons (.var 0) (.cons (.var 3) (.cons (.idx (.var 4) (.cst (.int 0))) (.cons (.idx (.var 4) (.cst (.int 2))) (.cons (.idx (.var 4) (.cst (.int 3))) .nil))))))) .nil))) (.cons (.ret (.cst (.bl true))) .nil))))⟩
def d_all_stretches (c_mood_at : Nat) : FDef := ⟨["house", "state", "ends", "found", "stretch", "moods", "keeper"], 2, (.cons (.par [2, 3] (.cons (.bin .add (.bin .add (.tup (.cons (.tup (.cons (.cst (.int 0)) (.cons (.cst (.int 1)) .nil))) .nil)) (.idx (.var 1) (.cst (.int 0)))) (.tup (.cons (.tup (.cons (.cst (.int 1)) (.cons (.cst (.int 1)) .nil))) .nil))) (.cons (.lst .nil) .nil))) (.cons (.for_ (.nm 4) (.rng (.bin .add (.blt .len (.cons (.idx (.var 1) (.cst (.int 0))) .nil)) (.cst (.int 1)))) (.cons (.set 5 (.blt .tuple (.cons (.comp [6] (.nm 6) (.rng (.blt .len (.cons (.idx (.var 0) (.cst (.int 2))) .nil))) (.no) (.call c_mood_at (.cons (.var 1) (.cons (.var 6) (.cons (.var 4) .nil))))) .nil))) (.cons (.app 3 (.tup (.cons (.idx (.var 2) (.var 4)) (.cons (.idx (.var 2) (.bin .add (.var 4) (.cst (.int 1)))) (.cons (.var 5) .nil))))) .nil))) (.cons (.rtv 3) .nil)))⟩
def d_stretches (c_all_stretches : Nat) (c_state_of : Nat) (c_need_book : Nat) : FDef := ⟨["house", "passes", "book"], 3, (.cons (.expr (.call c_need_book (.cons (.var 0) (.cons (.var 1) (.cons (.var 2) .nil))))) (.cons (.ret (.call c_all_stretches (.cons (.var 0) (.cons (.call c_state_of (.cons (.var 0) (.cons (.var 1) (.cons (.var 2) .nil)))) .nil)))) .nil))⟩
def d__law_moods (c__law_mood : Nat) : FDef := ⟨["house", "board", "place", "keeper"], 3, (.cons (.ret (.blt .tuple (.cons (.comp [3] (.nm 3) (.rng (.blt .len (.cons (.idx (.var 0) (.cst (.int 2))) .nil))) (.no) (.call c__law_mood (.cons (.var 1) (.cons (.var 3) (.cons (.var 2) .nil))))) .nil))) .nil)⟩
def d__law_falls : FDef := ⟨["one", "two", "most"], 3, (.cons (.ite (.isc false (.var 0) .non) (.cons (.ret (.isc false (.var 1) .non)) .nil) .nil) (.cons (.ret (.or (.isc false (.var 1) .non) (.cmp .le (.bin .sub (.var 0) (.var 1)) (.var 2)))) .nil))⟩
def d_middle : FDef := ⟨["one", "other", "top", "bottom", "by", "rest"], 2, (.cons (.par [2, 3] (.cons (.bin .add (.bin .mul (.idx (.var 0) (.cst (.int 0))) (.idx (.var 1) (.cst (.int 1)))) (.bin .mul (.idx (.var 1) (.cst (.int 0))) (.idx (.var 0) (.cst (.int 1))))) (.cons (.bin .mul (.bin .mul (.cst (.int 2)) (.idx (.var 0) (.cst (.int 1)))) (.idx (.var 1) (.cst (.int 1)))) .nil))) (.cons (.par [4, 5] (.cons (.var 2) (.cons (.var 3) .nil))) (.cons (.whl (.cmp .ne (.var 5) (.cst (.int 0))) (.cons (.par [4, 5] (.cons (.var 5) (.cons (.bin .mod (.var 4) (.var 5)) .nil))) .nil)) (.cons (.ret (.tup (.cons (.bin .fdiv (.var 2) (.var 4)) (.cons (.bin .fdiv (.var 3) (.var 4)) .nil)))) .nil))))⟩
def d__law_least (c__law_sums : Nat) (c__law_fewer : Nat) : FDef := ⟨["house", "board", "passes", "found", "row", "one"], 3, (.cons (.set 3 (.cst .non)) (.cons (.for_ (.nm 4) (.val (.call c__law_sums (.cons (.var 0) (.cons (.var 1) (.cons (.var 2) .nil))))) (.cons (.for_ (.nm 5) (.val (.var 4)) (.cons (.set 3 (.ite (.call c__law_fewer (.cons (.var 5) (.cons (.var 3) .nil))) (.var 5) (.var 3))) .nil)) .nil)) (.cons (.rtv 3) .nil)))⟩
def d__law_amid (c__law_common : Nat) : FDef := ⟨["low", "high", "top", "bottom", "measure"], 2, (.cons (.par [2, 3] (.cons (.bin .add (.bin .mul (.idx (.var 0) (.cst (.int 0))) (.idx (.var 1) (.cst (.int 1)))) (.bin .mul (.idx (.var 1) (.cst (.int 0))) (.idx (.var 0) (.cst (.int 1))))) (.cons (.bin .mul (.bin .mul (.cst (.int 2)) (.idx (.var 0) (.cst (.int 1)))) (.idx (.var 1) (.cst (.int 1)))) .nil))) (.cons (.set 4 (.call c__law_common (.cons (.var 2) (.cons (.var 3) .nil)))) (.cons (.ret (.tup (.cons (.bin .fdiv (.var 2) (.var 4)) (.cons (.bin .fdiv (.var 3) (.var 4)) .nil)))) .nil)))⟩
def d__law_next (c__law_sums : Nat) (c__law_amid : Nat) (c__law_least : Nat) : FDef := ⟨["house", "board", "passes", "least", "ends", "colour", "row", "place", "one"], 3, (.cons (.par [3, 4] (.cons (.call c__law_least (.cons (.var 0) (.cons (.var 1) (.cons (.var 2) .nil)))) (.cons (.bin .add (.bin .add (.lst (.cons (.tup (.cons (.cst (.int 0)) (.cons (.cst (.int 1)) .nil))) .nil)) (.idx (.var 1) (.cst (.int 0)))) (.lst (.cons (.tup (.cons (.cst (.int 1)) (.cons (.cst (.int 1)) .nil))) .nil))) .nil))) (.cons (.for_ (.tp [(.nm 5), (.nm 6)]) (.enum (.call c__law_sums (.cons (.var 0) (.cons (.var 1) (.cons (.var 2) .nil))))) (.cons (.for_ (.tp [(.nm 7), (.nm 8)]) (.enum (.var 6)) (.cons (.ite (.and (.isc true (.var 3) .non) (.cmp .eq (.var 8) (.var 3))) (.cons (.ret (.tup (.cons (.call c__law_amid (.cons (.idx (.var 4) (.var 7)) (.cons (.idx (.var 4) (.bin .add (.var 7) (.cst (.int 1)))) .nil))) (.cons (.var 5) .nil)))) .nil) .nil) .nil)) .nil)) (.cons (.ret (.cst .non)) .nil)))⟩
def d__law_few (c_next_call : Nat) : FDef := ⟨["house", "passes", "book", "told"], 3, (.cons (.set 3 (.call c_next_call (.cons (.var 0) (.cons (.var 1) (.cons (.var 2) .nil))))) (.cons (.ret (.and (.isc true (.var 3) .non) (.and (.cmp .lt (.idx (.idx (.var 3) (.cst (.int 0))) (.cst (.int 1))) (.bin .pow (.cst (.int 10)) (.cst (.int 11)))) (.cmp .lt (.blt .len (.cons (.var 2) .nil)) (.cst (.int 11)))))) .nil))⟩
def d_best_of (c_is_less : Nat) : FDef := ⟨["rows", "best", "keeper", "way", "least"], 1, (.cons (.set 1 (.cst (.int 0))) (.cons (.for_ (.tp [(.nm 2), (.nm 3), (.nm 4)]) (.val (.var 0)) (.cons (.set 1 (.ite (.call c_is_less (.cons (.var 1) (.cons (.var 4) .nil))) (.var 4) (.var 1))) .nil)) (.cons (.rtv 1) .nil)))⟩
def d_worst_calls (c_all_stretches : Nat) (c_is_less : Nat) (c_best_of : Nat) (c_all_answers : Nat) (c_middle : Nat) (c_least_sum : Nat) (c_state_of : Nat) (c_need_book : Nat) : FDef := ⟨["house", "passes", "book", "state", "least", "found", "colour", "stretch", "low", "high", "moods", "rows"], 3, (.cons (.expr (.call c_need_book (.cons (.var 0) (.cons (.var 1) (.cons (.var 2) .nil))))) (.cons (.set 3 (.call c_state_of (.cons (.var 0) (.cons (.var 1) (.cons (.var 2) .nil))))) (.cons (.par [4, 5] (.cons (.call c_least_sum (.cons (.var 0) (.cons (.var 3) .nil))) (.cons (.lst .nil) .nil))) (.cons (.for_ (.nm 6) (.rng (.idx (.var 0) (.cst (.int 0)))) (.cons (.for_ (.tp [(.nm 7), (.tp [(.nm 8), (.nm 9), (.nm 10)])]) (.enum (.call c_all_stretches (.cons (.var 0) (.cons (.var 3) .nil)))) (.cons (.set 11 (.call c_all_answers (.cons (.var 0) (.cons (.var 3) (.cons (.call c_middle (.cons (.var 8) (.cons (.var 9) .nil))) (.cons (.var 6) .nil)))))) (.cons (.frz [11] (.ite (.or (.cmp .eq (.var 11) (.lst .nil)) (.call c_is_less (.cons (.call c_best_of (.cons (.var 11) .nil)) (.cons (.var 4) .nil)))) (.cons (.app 5 (.tup (.cons (.var 6) (.cons (.var 7) .nil)))) .nil) .nil)) .nil))) .nil)) (.cons (.rtv 5) .nil)))))⟩
def d_lost (c_is_less : Nat) (c_least_sum : Nat) (c_entered : Nat) (c_best_of : Nat) (c_all_answers : Nat) (c_begun : Nat) (c_need_book : Nat) : FDef := ⟨["house", "passes", "book", "state", "found", "place", "entry", "best", "least"], 3, (.cons (.expr (.call c_need_book (.cons (.var 0) (.cons (.var 1) (.cons (.var 2) .nil))))) (.cons (.par [3, 4] (.cons (.call c_begun (.cons (.var 0) (.cons (.var 1) .nil))) (.cons (.lst .nil) .nil))) (.cons (.for_ (.tp [(.nm 5), (.nm 6)]) (.enum (.var 2)) (.cons (.set 7 (.call c_best_of (.cons (.call c_all_answers (.cons (.var 0) (.cons (.var 3) (.cons (.idx (.var 6) (.cst (.int 0))) (.cons (.idx (.var 6) (.cst (.int 1))) .nil))))) .nil))) (.cons (.set 3 (.call c_entered (.cons (.var 0) (.cons (.var 3) (.cons (.var 6) .nil))))) (.cons (.set 8 (.call c_least_sum (.cons (.var 0) (.cons (.var 3) .nil)))) (.cons (.ite (.call c_is_less (.cons (.var 8) (.cons (.var 7) .nil))) (.cons (.app 4 (.tup (.cons (.var 5) (.cons (.var 8) (.cons (.var 7) .nil))))) .nil) .nil) .nil))))) (.cons (.rtv 4) .nil))))⟩
def d__law_best (c__law_fewer : Nat) (c__law_least : Nat) (c__law_put : Nat) (c__law_entries : Nat) : FDef := ⟨["house", "board", "passes", "mark", "colour", "best", "some", "entry", "later"], 5, (.cons (.par [5, 6] (.cons (.cst (.int 0)) (.cons (.call c__law_entries (.cons (.var 0) (.cons (.var 1) (.cons (.var 2) (.cons (.var 3) (.cons (.var 4) .nil)))))) .nil))) (.cons (.frz [6] (.for_ (.nm 7) (.val (.var 6)) (.cons (.set 8 (.call c__law_least (.cons (.var 0) (.cons (.call c__law_put (.cons (.var 0) (.cons (.var 1) (.cons (.var 3) (.cons (.idx (.var 7) (.cst (.int 2))) (.cons (.idx (.var 7) (.cst (.int 3))) .nil)))))) (.cons (.var 2) .nil))))) (.cons (.set 5 (.ite (.call c__law_fewer (.cons (.var 5) (.cons (.var 8) .nil))) (.var 8) (.var 5))) .nil)))) (.cons (.ret (.tup (.cons (.cmp .ne (.var 6) (.lst .nil)) (.cons (.var 5) .nil)))) .nil)))⟩
def d__law_middle (c__law_common : Nat) : FDef := ⟨["low", "high", "top", "bottom", "measure"], 2, (.cons (.par [2, 3] (.cons (.bin .add (.bin .mul (.idx (.var 0) (.cst (.int 0))) (.idx (.var 1) (.cst (.int 1)))) (.bin .mul (.idx (.var 1) (.cst (.int 0))) (.idx (.var 0) (.cst (.int 1))))) (.cons (.bin .mul (.bin .mul (.cst (.int 2)) (.idx (.var 0) (.cst (.int 1)))) (.idx (.var 1) (.cst (.int 1)))) .nil))) (.cons (.set 4 (.call c__law_common (.cons (.var 2) (.cons (.var 3) .nil)))) (.cons (.ret (.tup (.cons (.bin .fdiv (.var 2) (.var 4)) (.cons (.bin .fdiv (.var 3) (.var 4)) .nil)))) .nil)))⟩
def d__law_more : FDef := ⟨["one", "two"], 2, (.cons (.ret (.ite (.or (.isc false (.var 0) .non) (.isc false (.var 1) .non)) (.cst .non) (.bin .add (.var 0) (.var 1)))) .nil)⟩
def d__law_turned_book : FDef := ⟨["book", "many", "found", "mark", "colour", "keeper", "way"], 2, (.cons (.set 2 (.lst .nil)) (.cons (.for_ (.tp [(.nm 3), (.nm 4), (.nm 5), (.nm 6)]) (.val (.var 0)) (.cons (.app 2 (.tup (.cons (.var 3) (.cons (.var 4) (.cons (.ite (.isc false (.var 5) .non) (.cst .non) (.bin .sub (.bin .sub (.var 1) (.cst (.int 1))) (.var 5))) (.cons (.var 6) .nil)))))) .nil)) (.cons (.ret (.blt .tuple (.cons (.var 2) .nil))) .nil)))⟩
def d__law_best_loses_none (c_lost : Nat) (c__law_fewer : Nat) (c_answers : Nat) : FDef := ⟨["house", "passes", "ahead", "entry", "rows", "best", "row", "later"], 4, (.cons (.set 4 (.call c_answers (.cons (.var 0) (.cons (.var 1) (.cons (.var 2) (.cons (.idx (.var 3) (.cst (.int 0))) (.cons (.idx (.var 3) (.cst (.int 1))) .nil))))))) (.cons (.set 5 (.idx (.var 4) (.cst (.int 0)))) (.cons (.frz [4] (.for_ (.nm 6) (.val (.var 4)) (.cons (.set 5 (.ite (.call c__law_fewer (.cons (.idx (.var 5) (.cst (.int 2))) (.cons (.idx (.var 6) (.cst (.int 2))) .nil))) (.var 6) (.var 5))) .nil))) (.cons (.set 7 (.bin .add (.var 2) (.tup (.cons (.tup (.cons (.idx (.var 3) (.cst (.int 0))) (.cons (.idx (.var 3) (.cst (.int 1))) (.cons (.idx (.var 5) (.cst (.int 0))) (.cons (.idx (.var 5) (.cst (.int 1))) .nil))))) .nil)))) (.cons (.ret (.cmp .eq (.call c_lost (.cons (.var 0) (.cons (.var 1) (.cons (.var 7) .nil)))) (.call c_lost (.cons (.var 0) (.cons (.var 1) (.cons (.var 2) .nil)))))) .nil)))))⟩
def d_is_offer (c_is_within : Nat) (c_are_takes : Nat) : FDef := ⟨["colours", "thing"], 2, (.cons (.ite (.or (.not (.blt (.isi [.tuple]) (.cons (.var 1) .nil))) (.or (.cmp .ne (.blt .len (.cons (.var 1) .nil)) (.cst (.int 3))) (.not (.call c_is_within (.cons (.idx (.var 1) (.cst (.int 0))) (.cons (.cst (.int 1)) (.cons (.cst (.int 6)) .nil))))))) (.cons (.ret (.cst (.bl false))) .nil) .nil) (.cons (.ret (.and (.call c_are_takes (.cons (.var 0) (.cons (.idx (.var 1) (.cst (.int 1))) .nil))) (.call c_is_within (.cons (.idx (.var 1) (.cst (.int 2))) (.cons (.cst (.int 1)) (.cons (.cst (.int 1000)) .nil)))))) .nil))⟩
def d_lacking : FDef := ⟨["wanted", "offer", "worth", "takes", "cost", "colour", "many"], 2, (.cons (.unp (.tp [(.nm 2), (.nm 3), (.nm 4)]) (.var 1)) (.cons (.ret (.blt .tuple (.cons (.comp [5, 6] (.tp [(.nm 5), (.nm 6)]) (.enum (.var 0)) (.no) (.ite (.cmp .isIn (.var 5) (.var 3)) (.blt .max2 (.cons (.cst (.int 0)) (.cons (.bin .sub (.var 6) (.var 2)) .nil))) (.var 6))) .nil))) .nil))⟩
def d_best_counts (c_lacking : Nat) (c_best_counts : Nat) : FDef := ⟨["known", "offers", "wanted", "place", "best", "many", "left", "going", "rest", "one", "later"], 4, (.cons (.ite (.cmp .eq (.var 3) (.blt .len (.cons (.var 1) .nil))) (.cons (.ret (.ite (.cmp .eq (.blt .max1 (.cons (.var 2) .nil)) (.cst (.int 0))) (.tup (.cons (.cst (.int 0)) (.cons (.tup .nil) .nil))) (.cst .non))) .nil) .nil) (.cons (.ite (.cmp .notIn (.tup (.cons (.var 2) (.cons (.var 3) .nil))) (.var 0)) (.cons (.par [4, 5, 6] (.cons (.cst .non) (.cons (.cst (.int 0)) (.cons (.var 2) .nil)))) (.cons (.set 7 (.cst (.bl true))) (.cons (.whl (.var 7) (.cons (.set 8 (.call c_best_counts (.cons (.var 0) (.cons (.var 1) (.cons (.var 6) (.cons (.bin .add (.var 3) (.cst (.int 1))) .nil)))))) (.cons (.ite (.isc true (.var 8) .non) (.cons (.set 9 (.tup (.cons (.bin .add (.idx (.var 8) (.cst (.int 0))) (.bin .mul (.var 5) (.idx (.idx (.var 1) (.var 3)) (.cst (.int 2))))) (.cons (.bin .add (.tup (.cons (.var 5) .nil)) (.idx (.var 8) (.cst (.int 1)))) .nil)))) (.cons (.set 4 (.ite (.or (.isc false (.var 4) .non) (.cmp .lt (.var 9) (.var 4))) (.var 9) (.var 4))) .nil)) .nil) (.cons (.set 10 (.call c_lacking (.cons (.var 6) (.cons (.idx (.var 1) (.var 3)) .nil)))) (.cons (.par [7, 5, 6] (.cons (.cmp .ne (.var 10) (.var 6)) (.cons (.bin .add (.var 5) (.cst (.int 1))) (.cons (.var 10) .nil)))) .nil))))) (.cons (.stx 0 (.tup (.cons (.var 2) (.cons (.var 3) .nil))) (.var 4)) .nil)))) .nil) (.cons (.ret (.idx (.var 0) (.tup (.cons (.var 2) (.cons (.var 3) .nil))))) .nil)))⟩
def d__law_offers (c__law_take : Nat) : FDef := ⟨["bag", "colours", "many", "found", "turn", "takes", "colour", "cost"], 3, (.cons (.set 3 (.lst .nil)) (.cons (.for_ (.nm 4) (.rng (.var 2)) (.cons (.set 5 (.comp [6] (.nm 6) (.rng (.var 1)) (.yes (.cmp .eq (.call c__law_take (.cons (.var 0) (.cons (.cst (.int 2)) .nil))) (.cst (.int 0)))) (.var 6))) (.cons (.frz [5] (.set 5 (.ite (.cmp .ne (.var 5) (.lst .nil)) (.var 5) (.lst (.cons (.call c__law_take (.cons (.var 0) (.cons (.var 1) .nil))) .nil))))) (.cons (.set 7 (.bin .add (.cst (.int 1)) (.call c__law_take (.cons (.var 0) (.cons (.idx (.lst (.cons (.cst (.int 4)) (.cons (.cst (.int 30)) (.cons (.cst (.int 1000)) .nil)))) (.call c__law_take (.cons (.var 0) (.cons (.cst (.int 3)) .nil)))) .nil))))) (.cons (.app 3 (.tup (.cons (.bin .add (.cst (.int 1)) (.call c__law_take (.cons (.var 0) (.cons (.cst (.int 6)) .nil)))) (.cons (.blt .tuple (.cons (.var 5) .nil)) (.cons (.var 7) .nil))))) .nil))))) (.cons (.ret (.blt .tuple (.cons (.var 3) .nil))) .nil)))⟩
def d__law_counts : FDef := ⟨["many", "most", "found", "turn", "longer", "row", "count"], 2, (.cons (.set 2 (.lst (.cons (.tup .nil) .nil))) (.cons (.for_ (.nm 3) (.rng (.var 0)) (.cons (.set 4 (.lst .nil)) (.cons (.frz [2] (.for_ (.nm 5) (.val (.var 2)) (.cons (.set 4 (.bin .add (.var 4) (.comp [6] (.nm 6) (.rng (.bin .add (.var 1) (.cst (.int 1)))) (.no) (.bin .add (.var 5) (.tup (.cons (.var 6) .nil)))))) .nil))) (.cons (.frz [4] (.set 2 (.var 4))) .nil)))) (.cons (.rtv 2) .nil)))⟩
def d__law_enough : FDef := ⟨["colours", "offers", "row", "wanted", "colour", "whole", "count", "worth", "takes", "cost"], 4, (.cons (.for_ (.nm 4) (.rng (.var 0)) (.cons (.set 5 (.blt .sum (.cons (.comp [6, 7, 8, 9] (.tp [(.nm 6), (.tp [(.nm 7), (.nm 8), (.nm 9)])]) (.zip (.var 2) (.var 1)) (.yes (.cmp .isIn (.var 4) (.var 8))) (.bin .mul (.var 6) (.var 7))) .nil))) (.cons (.ite (.cmp .lt (.var 5) (.var 3)) (.cons (.ret (.cst (.bl false))) .nil) .nil) .nil))) (.cons (.ret (.cst (.bl true))) .nil))⟩
def d__law_some_offers (c__law_take : Nat) : FDef := ⟨["bag", "colours", "found", "turn", "takes", "colour"], 2, (.cons (.set 2 (.lst .nil)) (.cons (.for_ (.nm 3) (.rng (.bin .add (.cst (.int 1)) (.call c__law_take (.cons (.var 0) (.cons (.cst (.int 5)) .nil))))) (.cons (.set 4 (.comp [5] (.nm 5) (.rng (.var 1)) (.yes (.cmp .gt (.call c__law_take (.cons (.var 0) (.cons (.cst (.int 3)) .nil))) (.cst (.int 0)))) (.var 5))) (.cons (.frz [4] (.set 4 (.ite (.cmp .ne (.var 4) (.lst .nil)) (.var 4) (.lst (.cons (.call c__law_take (.cons (.var 0) (.cons (.var 1) .nil))) .nil))))) (.cons (.app 2 (.tup (.cons (.bin .add (.cst (.int 1)) (.call c__law_take (.cons (.var 0) (.cons (.cst (.int 5)) .nil)))) (.cons (.blt .tuple (.cons (.var 4) .nil)) (.cons (.bin .add (.cst (.int 1)) (.call c__law_take (.cons (.var 0) (.cons (.idx (.lst (.cons (.cst (.int 4)) (.cons (.cst (.int 1000)) .nil))) (.call c__law_take (.cons (.var 0) (.cons (.cst (.int 2)) .nil)))) .nil)))) .nil))))) .nil)))) (.cons (.ret (.blt .tuple (.cons (.var 2) .nil))) .nil)))⟩
def d__law_cost : FDef := ⟨["told"], 1, (.cons (.ret (.ite (.isc false (.var 0) .non) (.bin .pow (.cst (.int 10)) (.cst (.int 9))) (.idx (.var 0) (.cst (.int 0))))) .nil)⟩
def d__law_built_right (c_surely : Nat) (c__law_built : Nat) (c_cheapest : Nat) : FDef := ⟨["colours", "offers", "passes", "number", "cost", "counts", "whole", "count", "offer", "built", "at", "one"], 4, (.cons (.unp (.tp [(.nm 4), (.nm 5)]) (.call c_cheapest (.cons (.var 0) (.cons (.var 1) (.cons (.var 2) (.cons (.var 3) .nil)))))) (.cons (.set 6 (.blt .sum (.cons (.comp [7, 8] (.tp [(.nm 7), (.nm 8)]) (.zip (.var 5) (.var 1)) (.no) (.bin .mul (.var 7) (.idx (.var 8) (.cst (.int 2))))) .nil))) (.cons (.ite (.or (.cmp .ne (.blt .len (.cons (.var 5) .nil)) (.blt .len (.cons (.var 1) .nil))) (.cmp .ne (.var 4) (.var 6))) (.cons (.ret (.cst (.bl false))) .nil) .nil) (.cons (.set 9 (.call c__law_built (.cons (.var 1) (.cons (.var 5) .nil)))) (.cons (.ite (.isc false (.var 9) .non) (.cons (.ret (.cst (.bl true))) .nil) .nil) (.cons (.ite (.cmp .lt (.call c_surely (.cons (.tup (.cons (.var 0) (.cons (.idx (.var 9) (.cst (.int 0))) (.cons (.idx (.var 9) (.cst (.int 1))) .nil)))) (.cons (.var 2) (.cons (.tup .nil) .nil)))) (.var 3)) (.cons (.ret (.cst (.bl false))) .nil) .nil) (.cons (.for_ (.tp [(.nm 10), (.nm 11)]) (.enum (.idx (.var 9) (.cst (.int 1)))) (.cons (.ite (.cmp .ge (.call c_surely (.cons (.tup (.cons (.var 0) (.cons (.idx (.var 9) (.cst (.int 0))) (.cons (.bin .add (.upto (.idx (.var 9) (.cst (.int 1))) (.var 10)) (.from_ (.idx (.var 9) (.cst (.int 1))) (.bin .add (.var 10) (.cst (.int 1))))) .nil)))) (.cons (.var 2) (.cons (.tup .nil) .nil)))) (.var 3)) (.cons (.ret (.cst (.bl false))) .nil) .nil) .nil)) (.cons (.ret (.cst (.bl true))) .nil))))))))⟩
def d__law_with_kind : FDef := ⟨["house", "place", "kind", "keepers"], 3, (.cons (.set 3 (.bin .add (.bin .add (.upto (.idx (.var 0) (.cst (.int 2))) (.var 1)) (.tup (.cons (.tup (.cons (.var 2) (.cons (.idx (.idx (.idx (.var 0) (.cst (.int 2))) (.var 1)) (.cst (.int 1))) .nil))) .nil))) (.from_ (.idx (.var 0) (.cst (.int 2))) (.bin .add (.var 1) (.cst (.int 1)))))) (.cons (.ret (.tup (.cons (.idx (.var 0) (.cst (.int 0))) (.cons (.idx (.var 0) (.cst (.int 1))) (.cons (.var 3) .nil))))) .nil))⟩
def d__law_goes (c__law_put : Nat) (c__law_can : Nat) (c__law_begun : Nat) : FDef := ⟨["house", "passes", "book", "board", "entry"], 3, (.cons (.set 3 (.call c__law_begun (.cons (.var 0) .nil))) (.cons (.for_ (.nm 4) (.val (.var 2)) (.cons (.ite (.not (.call c__law_can (.cons (.var 0) (.cons (.var 3) (.cons (.var 1) (.cons (.var 4) .nil)))))) (.cons (.ret (.cst .non)) .nil) .nil) (.cons (.set 3 (.call c__law_put (.cons (.var 0) (.cons (.var 3) (.cons (.idx (.var 4) (.cst (.int 0))) (.cons (.idx (.var 4) (.cst (.int 2))) (.cons (.idx (.var 4) (.cst (.int 3))) .nil))))))) .nil))) (.cons (.rtv 3) .nil)))⟩
def d_all_next (c_served : Nat) (c_ways_at : Nat) : FDef := ⟨["house", "state", "stretch", "colour", "found", "keeper", "kind", "takes", "way"], 4, (.cons (.set 4 (.lst .nil)) (.cons (.for_ (.tp [(.nm 5), (.tp [(.nm 6), (.nm 7)])]) (.enum (.idx (.var 0) (.cst (.int 2)))) (.cons (.ite (.cmp .isIn (.var 3) (.var 7)) (.cons (.for_ (.nm 8) (.rng (.blt .len (.cons (.call c_ways_at (.cons (.var 0) (.cons (.var 1) (.cons (.var 5) (.cons (.var 2) .nil))))) .nil))) (.cons (.app 4 (.call c_served (.cons (.var 0) (.cons (.var 1) (.cons (.cst .non) (.cons (.var 2) (.cons (.var 5) (.cons (.var 8) .nil)))))))) .nil)) .nil) .nil) .nil)) (.cons (.ite (.cmp .gt (.idx (.var 1) (.cst (.int 3))) (.cst (.int 0))) (.cons (.app 4 (.call c_served (.cons (.var 0) (.cons (.var 1) (.cons (.cst .non) (.cons (.var 2) (.cons (.cst .non) (.cons (.cst .non) .nil)))))))) .nil) .nil) (.cons (.rtv 4) .nil))))⟩
def d_lasts (c_lasts : Nat) (c_all_next : Nat) : FDef := ⟨["known", "house", "state", "many", "spot", "colour", "stretch", "rows", "later"], 4, (.cons (.ite (.cmp .eq (.var 3) (.cst (.int 0))) (.cons (.ret (.cst (.bl true))) .nil) .nil) (.cons (.set 4 (.tup (.cons (.from_ (.var 2) (.cst (.int 1))) (.cons (.var 3) .nil)))) (.cons (.ite (.cmp .notIn (.var 4) (.var 0)) (.cons (.stx 0 (.var 4) (.cst (.bl true))) (.cons (.for_ (.nm 5) (.rng (.idx (.var 1) (.cst (.int 0)))) (.cons (.for_ (.nm 6) (.rng (.bin .add (.blt .len (.cons (.idx (.var 2) (.cst (.int 0))) .nil)) (.cst (.int 1)))) (.cons (.set 7 (.call c_all_next (.cons (.var 1) (.cons (.var 2) (.cons (.var 6) (.cons (.var 5) .nil)))))) (.cons (.ite (.and (.idx (.var 0) (.var 4)) (.not (.blt .any (.cons (.comp [8] (.nm 8) (.val (.var 7)) (.no) (.call c_lasts (.cons (.var 0) (.cons (.var 1) (.cons (.var 8) (.cons (.bin .sub (.var 3) (.cst (.int 1))) .nil)))))) .nil)))) (.cons (.stx 0 (.var 4) (.cst (.bl false))) .nil) .nil) .nil))) .nil)) .nil)) .nil) (.cons (.ret (.idx (.var 0) (.var 4))) .nil))))⟩
def d__law_lasts (c__law_lasts : Nat) (c__law_put : Nat) (c__law_entries : Nat) : FDef := ⟨["house", "board", "passes", "many", "ends", "colour", "low", "high", "mark", "some", "good", "entry"], 4, (.cons (.ite (.cmp .eq (.var 3) (.cst (.int 0))) (.cons (.ret (.cst (.bl true))) .nil) .nil) (.cons (.set 4 (.bin .add (.bin .add (.lst (.cons (.tup (.cons (.cst (.int 0)) (.cons (.cst (.int 1)) .nil))) .nil)) (.idx (.var 1) (.cst (.int 0)))) (.lst (.cons (.tup (.cons (.cst (.int 1)) (.cons (.cst (.int 1)) .nil))) .nil)))) (.cons (.for_ (.nm 5) (.rng (.idx (.var 0) (.cst (.int 0)))) (.cons (.for_ (.tp [(.nm 6), (.nm 7)]) (.zip (.var 4) (.from_ (.var 4) (.cst (.int 1)))) (.cons (.set 8 (.tup (.cons (.bin .add (.bin .mul (.idx (.var 6) (.cst (.int 0))) (.idx (.var 7) (.cst (.int 1)))) (.bin .mul (.idx (.var 7) (.cst (.int 0))) (.idx (.var 6) (.cst (.int 1))))) (.cons (.bin .mul (.bin .mul (.cst (.int 2)) (.idx (.var 6) (.cst (.int 1)))) (.idx (.var 7) (.cst (.int 1)))) .nil)))) (.cons (.par [9, 10] (.cons (.call c__law_entries (.cons (.var 0) (.cons (.var 1) (.cons (.var 2) (.cons (.var 8) (.cons (.var 5) .nil)))))) (.cons (.cst (.bl false)) .nil))) (.cons (.frz [9] (.for_ (.nm 11) (.val (.var 9)) (.cons (.ite (.not (.var 10)) (.cons (.set 10 (.call c__law_lasts (.cons (.var 0) (.cons (.call c__law_put (.cons (.var 0) (.cons (.var 1) (.cons (.var 8) (.cons (.idx (.var 11) (.cst (.int 2))) (.cons (.idx (.var 11) (.cst (.int 3))) .nil)))))) (.cons (.var 2) (.cons (.bin .sub (.var 3) (.cst (.int 1))) .nil)))))) .nil) .nil) .nil))) (.cons (.ite (.not (.var 10)) (.cons (.ret (.cst (.bl false))) .nil) .nil) .nil))))) .nil)) (.cons (.ret (.cst (.bl true))) .nil))))⟩
def d__law_called (c__law_from : Nat) (c__law_common : Nat) : FDef := ⟨["state", "mark", "colour", "house", "board", "passes", "waiting", "part"], 3, (.cons (.unp (.tp [(.nm 3), (.nm 4), (.nm 5), (.nm 6)]) (.var 0)) (.cons (.ite (.or (.not (.blt (.isi [.tuple]) (.cons (.var 1) .nil))) (.cmp .ne (.blt .len (.cons (.var 1) .nil)) (.cst (.int 2)))) (.cons (.ret (.cst (.str "NoMark"))) .nil) .nil) (.cons (.ite (.not (.blt .all (.cons (.comp [7] (.nm 7) (.val (.var 1)) (.no) (.call c__law_from (.cons (.var 7) (.cons (.cst (.int 1)) (.cons (.bin .sub (.bin .pow (.cst (.int 10)) (.cst (.int 12))) (.cst (.int 1))) .nil))))) .nil))) (.cons (.ret (.cst (.str "NoMark"))) .nil) .nil) (.cons (.ite (.or (.cmp .ge (.idx (.var 1) (.cst (.int 0))) (.idx (.var 1) (.cst (.int 1)))) (.cmp .ne (.call c__law_common (.cons (.idx (.var 1) (.cst (.int 0))) (.cons (.idx (.var 1) (.cst (.int 1))) .nil))) (.cst (.int 1)))) (.cons (.ret (.cst (.str "NoMark"))) .nil) .nil) (.cons (.ite (.not (.call c__law_from (.cons (.var 2) (.cons (.cst (.int 0)) (.cons (.bin .sub (.idx (.var 3) (.cst (.int 0))) (.cst (.int 1))) .nil))))) (.cons (.ret (.cst (.str "NoColour"))) .nil) .nil) (.cons (.ite (.or (.cmp .isIn (.var 1) (.idx (.var 4) (.cst (.int 0)))) (.and (.isc true (.var 6) .non) (.cmp .eq (.idx (.var 6) (.cst (.int 0))) (.var 1)))) (.cons (.ret (.cst (.str "Twice"))) .nil) .nil) (.cons (.ret (.ite (.isc true (.var 6) .non) (.cst (.str "NotNow")) (.tup (.cons (.var 3) (.cons (.var 4) (.cons (.var 5) (.cons (.tup (.cons (.var 1) (.cons (.var 2) .nil))) .nil))))))) .nil)))))))⟩
def d__law_answered (c__law_put : Nat) (c__law_ways : Nat) (c__law_place : Nat) (c__law_from : Nat) : FDef := ⟨["state", "keeper", "way", "house", "board", "passes", "waiting", "mark", "colour", "later"], 3, (.cons (.unp (.tp [(.nm 3), (.nm 4), (.nm 5), (.nm 6)]) (.var 0)) (.cons (.ite (.isc false (.var 6) .non) (.cons (.ret (.cst (.str "NotNow"))) .nil) .nil) (.cons (.unp (.tp [(.nm 7), (.nm 8)]) (.var 6)) (.cons (.ite (.isc false (.var 1) .non) (.cons (.set 9 (.call c__law_put (.cons (.var 3) (.cons (.var 4) (.cons (.var 7) (.cons (.cst .non) (.cons (.cst .non) .nil))))))) (.cons (.ret (.ite (.cmp .eq (.var 5) (.cst (.int 0))) (.cst (.str "NonePass")) (.tup (.cons (.var 3) (.cons (.var 9) (.cons (.bin .sub (.var 5) (.cst (.int 1))) (.cons (.cst .non) .nil))))))) .nil)) .nil) (.cons (.ite (.not (.call c__law_from (.cons (.var 1) (.cons (.cst (.int 0)) (.cons (.bin .sub (.blt .len (.cons (.idx (.var 3) (.cst (.int 2))) .nil)) (.cst (.int 1))) .nil))))) (.cons (.ret (.cst (.str "NoKeeper"))) .nil) .nil) (.cons (.ite (.or (.not (.call c__law_from (.cons (.var 2) (.cons (.cst (.int 0)) (.cons (.cst (.int 2)) .nil))))) (.cmp .notIn (.var 8) (.idx (.idx (.idx (.var 3) (.cst (.int 2))) (.var 1)) (.cst (.int 1))))) (.cons (.ret (.cst (.str "NoWay"))) .nil) .nil) (.cons (.ite (.cmp .ge (.var 2) (.blt .len (.cons (.call c__law_ways (.cons (.var 3) (.cons (.var 4) (.cons (.var 1) (.cons (.call c__law_place (.cons (.var 4) (.cons (.var 7) .nil))) .nil))))) .nil))) (.cons (.ret (.cst (.str "NoWay"))) .nil) .nil) (.cons (.ret (.tup (.cons (.var 3) (.cons (.call c__law_put (.cons (.var 3) (.cons (.var 4) (.cons (.var 7) (.cons (.var 1) (.cons (.var 2) .nil)))))) (.cons (.var 5) (.cons (.cst .non) .nil)))))) .nil))))))))⟩
def d__law_went (c__law_from : Nat) : FDef := ⟨["state", "keeper", "house", "board", "passes", "waiting", "owners", "one", "later"], 2, (.cons (.unp (.tp [(.nm 2), (.nm 3), (.nm 4), (.nm 5)]) (.var 0)) (.cons (.ite (.isc true (.var 5) .non) (.cons (.ret (.cst (.str "NotNow"))) .nil) .nil) (.cons (.ite (.not (.call c__law_from (.cons (.var 1) (.cons (.cst (.int 0)) (.cons (.bin .sub (.blt .len (.cons (.idx (.var 2) (.cst (.int 2))) .nil)) (.cst (.int 1))) .nil))))) (.cons (.ret (.cst (.str "NoKeeper"))) .nil) .nil) (.cons (.set 6 (.lst .nil)) (.cons (.for_ (.nm 7) (.val (.idx (.var 3) (.cst (.int 1)))) (.cons (.app 6 (.ite (.or (.isc false (.var 7) .non) (.cmp .eq (.var 7) (.var 1))) (.cst .non) (.bin .sub (.var 7) (.blt .int1 (.cons (.cmp .gt (.var 7) (.var 1)) .nil))))) .nil)) (.cons (.set 8 (.tup (.cons (.idx (.var 2) (.cst (.int 0))) (.cons (.idx (.var 2) (.cst (.int 1))) (.cons (.bin .add (.upto (.idx (.var 2) (.cst (.int 2))) (.var 1)) (.from_ (.idx (.var 2) (.cst (.int 2))) (.bin .add (.var 1) (.cst (.int 1))))) .nil))))) (.cons (.frz [6] (.ret (.tup (.cons (.var 8) (.cons (.tup (.cons (.idx (.var 3) (.cst (.int 0))) (.cons (.var 6) (.cons (.bin .add (.upto (.idx (.var 3) (.cst (.int 2))) (.var 1)) (.from_ (.idx (.var 3) (.cst (.int 2))) (.bin .add (.var 1) (.cst (.int 1))))) .nil)))) (.cons (.var 4) (.cons (.cst .non) .nil))))))) .nil)))))))⟩
def d__law_due (c__law_came : Nat) (c__law_went : Nat) (c__law_answered : Nat) (c__law_called : Nat) : FDef := ⟨["state", "deed", "word", "one", "two"], 2, (.cons (.unp (.tp [(.nm 2), (.nm 3), (.nm 4)]) (.var 1)) (.cons (.ite (.cmp .eq (.var 2) (.cst (.str "call"))) (.cons (.ret (.call c__law_called (.cons (.var 0) (.cons (.var 3) (.cons (.var 4) .nil))))) .nil) .nil) (.cons (.ite (.cmp .eq (.var 2) (.cst (.str "serve"))) (.cons (.ret (.call c__law_answered (.cons (.var 0) (.cons (.ite (.isc false (.var 3) .non) (.neg (.cst (.int 1))) (.var 3)) (.cons (.var 4) .nil))))) .nil) .nil) (.cons (.ite (.cmp .eq (.var 2) (.cst (.str "pass"))) (.cons (.ret (.call c__law_answered (.cons (.var 0) (.cons (.cst .non) (.cons (.cst .non) .nil))))) .nil) .nil) (.cons (.ret (.ite (.cmp .eq (.var 2) (.cst (.str "come"))) (.call c__law_came (.cons (.var 0) (.cons (.var 3) (.cons (.var 4) .nil)))) (.call c__law_went (.cons (.var 0) (.cons (.var 3) .nil))))) .nil)))))⟩
def d__law_a_deed (c__law_take : Nat) (c__law_entries : Nat) (c__law_a_mark : Nat) : FDef := ⟨["bag", "state", "house", "board", "passes", "waiting", "word", "marks", "colour", "takes", "keeper", "some"], 2, (.cons (.unp (.tp [(.nm 2), (.nm 3), (.nm 4), (.nm 5)]) (.var 1)) (.cons (.set 6 (.idx (.lst (.cons (.cst (.str "call")) (.cons (.cst (.str "call")) (.cons (.cst (.str "come")) (.cons (.cst (.str "go")) (.cons (.cst (.str "pass")) (.cons (.cst (.str "serve")) .nil))))))) (.call c__law_take (.cons (.var 0) (.cons (.cst (.int 6)) .nil))))) (.cons (.ite (.and (.isc true (.var 5) .non) (.cmp .gt (.call c__law_take (.cons (.var 0) (.cons (.cst (.int 5)) .nil))) (.cst (.int 0)))) (.cons (.set 6 (.idx (.lst (.cons (.cst (.str "serve")) (.cons (.cst (.str "serve")) (.cons (.cst (.str "serve")) (.cons (.cst (.str "pass")) .nil))))) (.call c__law_take (.cons (.var 0) (.cons (.cst (.int 4)) .nil))))) .nil) .nil) (.cons (.ite (.cmp .eq (.var 6) (.cst (.str "call"))) (.cons (.set 7 (.bin .add (.bin .add (.bin .mul (.lst (.cons (.call c__law_a_mark (.cons (.var 0) (.cons (.var 3) .nil))) .nil)) (.cst (.int 5))) (.lst (.cons (.tup (.cons (.cst (.int 0)) (.cons (.cst (.int 1)) .nil))) (.cons (.tup (.cons (.cst (.int 2)) (.cons (.cst (.int 4)) .nil))) (.cons (.cst .non) .nil))))) (.upto (.idx (.var 3) (.cst (.int 0))) (.cst (.int 1))))) (.cons (.set 8 (.idx (.lst (.cons (.call c__law_take (.cons (.var 0) (.cons (.idx (.var 2) (.cst (.int 0))) .nil))) (.cons (.idx (.var 2) (.cst (.int 0))) .nil))) (.bin .fdiv (.call c__law_take (.cons (.var 0) (.cons (.cst (.int 12)) .nil))) (.cst (.int 11))))) (.cons (.ret (.tup (.cons (.var 6) (.cons (.idx (.var 7) (.call c__law_take (.cons (.var 0) (.cons (.blt .len (.cons (.var 7) .nil)) .nil)))) (.cons (.var 8) .nil))))) .nil))) .nil) (.cons (.ite (.cmp .eq (.var 6) (.cst (.str "come"))) (.cons (.set 9 (.blt .tuple (.cons (.comp [8] (.nm 8) (.rng (.idx (.var 2) (.cst (.int 0)))) (.yes (.cmp .eq (.call c__law_take (.cons (.var 0) (.cons (.cst (.int 2)) .nil))) (.cst (.int 0)))) (.var 8)) .nil))) (.cons (.ret (.tup (.cons (.var 6) (.cons (.idx (.lst (.cons (.call c__law_take (.cons (.var 0) (.cons (.blt .len (.cons (.idx (.var 2) (.cst (.int 1))) .nil)) .nil))) (.cons (.cst (.int 9)) .nil))) (.bin .fdiv (.call c__law_take (.cons (.var 0) (.cons (.cst (.int 6)) .nil))) (.cst (.int 5)))) (.cons (.var 9) .nil))))) .nil)) .nil) (.cons (.set 10 (.idx (.lst (.cons (.call c__law_take (.cons (.var 0) (.cons (.blt .max2 (.cons (.cst (.int 1)) (.cons (.blt .len (.cons (.idx (.var 2) (.cst (.int 2))) .nil)) .nil))) .nil))) (.cons (.blt .len (.cons (.idx (.var 2) (.cst (.int 2))) .nil)) (.cons (.cst .non) .nil)))) (.blt .max2 (.cons (.cst (.int 0)) (.cons (.bin .sub (.call c__law_take (.cons (.var 0) (.cons (.cst (.int 9)) .nil))) (.cst (.int 6))) .nil))))) (.cons (.ite (.and (.cmp .eq (.var 6) (.cst (.str "serve"))) (.and (.isc true (.var 5) .non) (.cmp .gt (.call c__law_take (.cons (.var 0) (.cons (.cst (.int 4)) .nil))) (.cst (.int 0))))) (.cons (.set 11 (.call c__law_entries (.cons (.var 2) (.cons (.var 3) (.cons (.cst (.int 0)) (.cons (.idx (.var 5) (.cst (.int 0))) (.cons (.idx (.var 5) (.cst (.int 1))) .nil))))))) (.cons (.ite (.cmp .ne (.var 11) (.lst .nil)) (.cons (.ret (.bin .add (.tup (.cons (.var 6) .nil)) (.from_ (.idx (.var 11) (.call c__law_take (.cons (.var 0) (.cons (.blt .len (.cons (.var 11) .nil)) .nil)))) (.cst (.int 2))))) .nil) .nil) .nil)) .nil) (.cons (.ret (.tup (.cons (.var 6) (.cons (.var 10) (.cons (.idx (.lst (.cons (.cst (.int 0)) (.cons (.cst (.int 1)) (.cons (.cst (.int 2)) (.cons (.cst (.int 3)) (.cons (.cst .non) .nil)))))) (.call c__law_take (.cons (.var 0) (.cons (.cst (.int 5)) .nil)))) .nil))))) .nil))))))))⟩
def d__law_sum_at (c_worths : Nat) : FDef := ⟨["kinds", "keepers", "colour", "moods", "left", "some", "kind", "takes", "mood"], 5, (.cons (.set 5 (.comp [6, 7, 8] (.tp [(.tp [(.nm 6), (.nm 7)]), (.nm 8)]) (.zip (.var 1) (.var 3)) (.yes (.cmp .isIn (.var 2) (.var 7))) (.idx (.call c_worths (.cons (.idx (.var 0) (.var 6)) .nil)) (.var 8)))) (.cons (.ret (.ite (.cmp .isIn (.cst .non) (.var 5)) (.cst .non) (.bin .add (.var 4) (.blt .sum (.cons (.var 5) .nil))))) .nil))⟩
def d__law_three_refused (c__law_refused : Nat) : FDef := ⟨["door", "house", "book", "bads", "none", "odd", "bad"], 4, (.cons (.unp (.tp [(.nm 4), (.nm 5), (.nm 6)]) (.var 3)) (.cons (.ite (.cmp .ne (.call c__law_refused (.cons (.var 0) (.cons (.var 4) (.cons (.cst .non) (.cons (.cst .non) .nil))))) (.lst (.cons (.cst (.str "NoHouse")) (.cons (.cst (.bl true)) .nil)))) (.cons (.ret (.cst (.bl false))) .nil) .nil) (.cons (.ite (.cmp .ne (.call c__law_refused (.cons (.var 0) (.cons (.var 1) (.cons (.var 5) (.cons (.cst .non) .nil))))) (.lst (.cons (.cst (.str "NoPasses")) (.cons (.cst (.bl true)) .nil)))) (.cons (.ret (.cst (.bl false))) .nil) .nil) (.cons (.ret (.and (.cmp .eq (.call c__law_refused (.cons (.var 0) (.cons (.var 1) (.cons (.cst (.int 3)) (.cons (.var 6) .nil))))) (.lst (.cons (.cst (.str "NoBook")) (.cons (.cst (.bl true)) .nil)))) (.cmp .eq (.call c__law_refused (.cons (.var 0) (.cons (.var 1) (.cons (.cst (.int 20)) (.cons (.var 2) .nil))))) (.lst .nil)))) .nil))))⟩
def d__law_answers (c_answers : Nat) : FDef := ⟨["house", "passes", "book"], 3, (.cons (.ret (.call c_answers (.cons (.var 0) (.cons (.var 1) (.cons (.var 2) (.cons (.tup (.cons (.cst (.int 1)) (.cons (.bin .add (.bin .pow (.cst (.int 10)) (.cst (.int 9))) (.cst (.int 7))) .nil))) (.cons (.cst (.int 0)) .nil))))))) .nil)⟩
def d__law_ends_right (c_surely : Nat) (c_lost : Nat) (c_next_call : Nat) (c_answers : Nat) (c_worst_calls : Nat) (c_sums : Nat) (c__law_told_kinds : Nat) : FDef := ⟨["rows", "house", "book", "late"], 0, (.cons (.set 0 (.call c__law_told_kinds .nil)) (.cons (.set 1 (.tup (.cons (.cst (.int 2)) (.cons (.tup (.cons (.idx (.var 0) (.cst (.int 3))) (.cons (.idx (.var 0) (.cst (.int 0))) .nil))) (.cons (.tup (.cons (.tup (.cons (.cst (.int 0)) (.cons (.tup (.cons (.cst (.int 0)) (.cons (.cst (.int 1)) .nil))) .nil))) (.cons (.tup (.cons (.cst (.int 1)) (.cons (.tup (.cons (.cst (.int 1)) .nil)) .nil))) .nil))) .nil))))) (.cons (.ite (.or (.cmp .ne (.call c_sums (.cons (.var 1) (.cons (.cst (.int 1)) (.cons (.tup .nil) .nil)))) (.lst (.cons (.lst (.cons (.cst (.int 3)) .nil)) (.cons (.lst (.cons (.cst (.int 4)) .nil)) .nil)))) (.cmp .ne (.call c_surely (.cons (.var 1) (.cons (.cst (.int 1)) (.cons (.tup .nil) .nil)))) (.cst (.int 3)))) (.cons (.ret (.cst (.bl false))) .nil) .nil) (.cons (.set 2 (.tup (.cons (.tup (.cons (.tup (.cons (.cst (.int 1)) (.cons (.cst (.int 2)) .nil))) (.cons (.cst (.int 0)) (.cons (.cst (.int 0)) (.cons (.cst (.int 0)) .nil))))) (.cons (.tup (.cons (.tup (.cons (.cst (.int 1)) (.cons (.cst (.int 4)) .nil))) (.cons (.cst (.int 0)) (.cons (.cst (.int 0)) (.cons (.cst (.int 0)) .nil))))) .nil)))) (.cons (.ite (.or (.cmp .ne (.call c_sums (.cons (.var 1) (.cons (.cst (.int 1)) (.cons (.var 2) .nil)))) (.lst (.cons (.lst (.cons (.cst (.int 2)) (.cons (.cst (.int 1)) (.cons (.cst (.int 2)) .nil)))) (.cons (.lst (.cons (.cst (.int 3)) (.cons (.cst (.int 2)) (.cons (.cst (.int 3)) .nil)))) .nil)))) (.cmp .ne (.call c_worst_calls (.cons (.var 1) (.cons (.cst (.int 1)) (.cons (.var 2) .nil)))) (.lst (.cons (.tup (.cons (.cst (.int 0)) (.cons (.cst (.int 1)) .nil))) .nil)))) (.cons (.ret (.cst (.bl false))) .nil) .nil) (.cons (.ite (.cmp .ne (.call c_answers (.cons (.var 1) (.cons (.cst (.int 1)) (.cons (.var 2) (.cons (.tup (.cons (.cst (.int 1)) (.cons (.cst (.int 3)) .nil))) (.cons (.cst (.int 1)) .nil)))))) (.lst (.cons (.tup (.cons (.cst (.int 1)) (.cons (.cst (.int 0)) (.cons (.cst (.int 1)) .nil)))) (.cons (.tup (.cons (.cst .non) (.cons (.cst .non) (.cons (.cst (.int 0)) .nil)))) .nil)))) (.cons (.ret (.cst (.bl false))) .nil) .nil) (.cons (.ite (.or (.cmp .ne (.call c_answers (.cons (.var 1) (.cons (.cst (.int 1)) (.cons (.var 2) (.cons (.tup (.cons (.cst (.int 1)) (.cons (.cst (.int 3)) .nil))) (.cons (.cst (.int 0)) .nil)))))) (.lst (.cons (.tup (.cons (.cst .non) (.cons (.cst .non) (.cons (.cst (.int 0)) .nil)))) .nil))) (.cmp .ne (.call c_next_call (.cons (.var 1) (.cons (.cst (.int 1)) (.cons (.tup .nil) .nil)))) (.tup (.cons (.tup (.cons (.cst (.int 1)) (.cons (.cst (.int 2)) .nil))) (.cons (.cst (.int 0)) .nil))))) (.cons (.ret (.cst (.bl false))) .nil) .nil) (.cons (.set 3 (.bin .add (.var 2) (.tup (.cons (.tup (.cons (.tup (.cons (.cst (.int 1)) (.cons (.cst (.int 3)) .nil))) (.cons (.cst (.int 1)) (.cons (.cst .non) (.cons (.cst .non) .nil))))) .nil)))) (.cons (.ite (.or (.cmp .ne (.call c_lost (.cons (.var 1) (.cons (.cst (.int 1)) (.cons (.var 3) .nil)))) (.lst (.cons (.tup (.cons (.cst (.int 2)) (.cons (.cst (.int 0)) (.cons (.cst (.int 1)) .nil)))) .nil))) (.cmp .ne (.call c_lost (.cons (.var 1) (.cons (.cst (.int 1)) (.cons (.var 2) .nil)))) (.lst .nil))) (.cons (.ret (.cst (.bl false))) .nil) .nil) (.cons (.ret (.cmp .eq (.call c_surely (.cons (.var 1) (.cons (.cst (.int 1)) (.cons (.var 3) .nil)))) (.cst (.int 0)))) .nil))))))))))⟩
def d__law_shelf_right (c_alike_moods : Nat) (c__law_tree : Nat) (c_barring : Nat) (c_good_ways : Nat) (c__law_shelf : Nat) (c_answers : Nat) (c_is_fair : Nat) (c_by_all_plays : Nat) (c_surely : Nat) (c__law_told_kinds : Nat) : FDef := ⟨["rows", "house", "found"], 0, (.cons (.set 0 (.call c__law_told_kinds .nil)) (.cons (.set 1 (.tup (.cons (.cst (.int 1)) (.cons (.tup (.cons (.call c__law_shelf (.cons (.cst (.int 3)) .nil)) (.cons (.call c__law_tree (.cons (.cst (.int 2)) .nil)) (.cons (.idx (.var 0) (.cst (.int 4))) .nil)))) (.cons (.tup (.cons (.tup (.cons (.cst (.int 0)) (.cons (.tup (.cons (.cst (.int 0)) .nil)) .nil))) (.cons (.tup (.cons (.cst (.int 1)) (.cons (.tup (.cons (.cst (.int 0)) .nil)) .nil))) (.cons (.tup (.cons (.cst (.int 2)) (.cons (.tup (.cons (.cst (.int 0)) .nil)) .nil))) .nil)))) .nil))))) (.cons (.ite (.or (.cmp .ne (.call c_surely (.cons (.var 1) (.cons (.cst (.int 0)) (.cons (.tup .nil) .nil)))) (.cst (.int 5))) (.or (.cmp .ne (.call c_by_all_plays (.cons (.var 1) (.cons (.cst (.int 0)) (.cons (.cst (.int 3)) .nil)))) (.cst (.int 3))) (.isc true (.call c_is_fair (.cons (.call c__law_shelf (.cons (.cst (.int 5)) .nil)) .nil)) (.bl true)))) (.cons (.ret (.cst (.bl false))) .nil) .nil) (.cons (.set 2 (.call c_answers (.cons (.var 1) (.cons (.cst (.int 0)) (.cons (.tup .nil) (.cons (.tup (.cons (.cst (.int 2)) (.cons (.cst (.int 5)) .nil))) (.cons (.cst (.int 0)) .nil))))))) (.cons (.ite (.cmp .ne (.var 2) (.lst (.cons (.tup (.cons (.cst (.int 0)) (.cons (.cst (.int 0)) (.cons (.cst (.int 3)) .nil)))) (.cons (.tup (.cons (.cst (.int 0)) (.cons (.cst (.int 1)) (.cons (.cst (.int 4)) .nil)))) (.cons (.tup (.cons (.cst (.int 0)) (.cons (.cst (.int 2)) (.cons (.cst (.int 3)) .nil)))) (.cons (.tup (.cons (.cst (.int 1)) (.cons (.cst (.int 0)) (.cons (.cst (.int 4)) .nil)))) (.cons (.tup (.cons (.cst (.int 2)) (.cons (.cst (.int 0)) (.cons (.cst (.int 4)) .nil)))) .nil))))))) (.cons (.ret (.cst (.bl false))) .nil) .nil) (.cons (.ite (.or (.cmp .ne (.call c_good_ways (.cons (.call c__law_shelf (.cons (.cst (.int 3)) .nil)) (.cons (.cst (.int 0)) .nil))) (.tup (.cons (.cst (.int 1)) .nil))) (.or (.cmp .ne (.call c_good_ways (.cons (.idx (.var 0) (.cst (.int 3))) (.cons (.cst (.int 0)) .nil))) (.tup (.cons (.cst (.int 0)) .nil))) (.isc true (.call c_barring (.cons (.idx (.var 0) (.cst (.int 4))) .nil)) .non))) (.cons (.ret (.cst (.bl false))) .nil) .nil) (.cons (.ite (.cmp .ne (.call c_alike_moods (.cons (.idx (.var 0) (.cst (.int 3))) .nil)) (.lst (.cons (.tup (.cons (.cst (.int 0)) .nil)) (.cons (.tup (.cons (.cst (.int 1)) .nil)) (.cons (.tup (.cons (.cst (.int 2)) .nil)) (.cons (.tup (.cons (.cst (.int 3)) .nil)) .nil)))))) (.cons (.ret (.cst (.bl false))) .nil) .nil) (.cons (.ret (.cmp .eq (.call c_alike_moods (.cons (.call c__law_tree (.cons (.cst (.int 2)) .nil)) .nil)) (.lst (.cons (.tup (.cons (.cst (.int 0)) .nil)) (.cons (.tup (.cons (.cst (.int 1)) .nil)) (.cons (.tup (.cons (.cst (.int 2)) .nil)) .nil)))))) .nil))))))))⟩
end Mini
/-! PureA: what the small programs answer: rules to step through them. -/
namespace Mini
open PySem L2
def Ok {α : Type} (o : Out α) (Q : α → Store → Prop) : Prop := match o with
  | .ok a S => Q a S
  | _ => False
def OkO {α : Type} (o : Option α) (Q : α → Prop) : Prop := match o with
  | some a => Q a
  | none => False
def boolO : D → Option Bool
  | .bl b => some b
  | _ => none
section
variable {α β : Type}
theorem Ok.mono {o : Out α} {Q Q' : α → Store → Prop} (h : Ok o Q) (k : ∀ a S, Q a S → Q' a S) : Ok o Q' := by
  cases o with
  | ok a S => exact k a S h
  | exc _ _ => exact h
  | stuck => exact h
theorem Ok.out {o : Out α} {Q : α → Store → Prop} (h : Ok o Q) : ∃ a S, o = .ok a S ∧ Q a S := by
  cases o with
  | ok a S => exact ⟨a, S, rfl, h⟩
  | exc _ _ => exact h.elim
  | stuck => exact h.elim
theorem ok_of {o : Out α} {a : α} {S : Store} {Q : α → Store → Prop} (h : o = .ok a S) (q : Q a S) : Ok o Q := by
  rw [h]
  exact q
theorem ok_ok {a : α} {S : Store} {Q : α → Store → Prop} : Ok (.ok a S) Q = Q a S := rfl
theorem ok_ret {a : α} {S : Store} {Q : α → Store → Prop} : Ok (M.ret a S) Q = Q a S := rfl
theorem ok_stk {S : Store} {Q : α → Store → Prop} : Ok (M.stk S) Q = False := rfl
theorem ok_opt {o : Option α} {S : Store} {Q : α → Store → Prop} : Ok (M.opt o S) Q = OkO o fun a => Q a S := by
  cases o <;> rfl
theorem ok_ask {f : Store → Option α} {S : Store} {Q : α → Store → Prop} : Ok (M.ask f S) Q = OkO (f S) fun a => Q a S := by
  unfold M.ask
  cases f S <;> rfl
theorem ok_bnd {m : M α} {f : α → M β} {S : Store} {Q : β → Store → Prop} : Ok (M.bnd m f S) Q = Ok (m S) fun a S' => Ok (f a S') Q := by
  unfold M.bnd
  cases m S <;> rfl
theorem ok_noX {m : M α} {S : Store} {Q : α → Store → Prop} : Ok (M.noX m S) Q = Ok (m S) Q := by
  unfold M.noX
  cases m S <;> rfl
theorem ok_ite {c : Prop} [Decidable c] {m n : M α} {S : Store} {Q : α → Store → Prop} : Ok ((if c then m else n) S) Q = if c then Ok (m S) Q else Ok (n S) Q := by
  by_cases h : c <;> simp [h]
theorem oko_some {a : α} {Q : α → Prop} : OkO (some a) Q = Q a := rfl
theorem oko_none {Q : α → Prop} : OkO none Q = False := rfl
theorem oko_map {f : α → β} {o : Option α} {Q : β → Prop} : OkO (o.map f) Q = OkO o fun a => Q (f a) := by
  cases o <;> rfl
theorem oko_if {c : Prop} [Decidable c] {a : α} {Q : α → Prop} : OkO (if c then some a else none) Q = (c ∧ Q a) := by
  by_cases h : c <;> simp [h, OkO]
theorem oko_of {o : Option α} {a : α} {Q : α → Prop} (h : o = some a) (q : Q a) : OkO o Q := by
  rw [h]
  exact q
end
theorem ok_asB {d : D} {S : Store} {Q : Bool → Store → Prop} : Ok (asB d S) Q = OkO (boolO d) fun b => Q b S := by
  cases d <;> rfl
theorem boolO_bl {b : Bool} : boolO (.bl b) = some b := rfl
/-! ### expressions -/
def compF (cs : Calls) (own : List Nat) (tg : Tg) (c : Oep) (e : Ep) (env : Env) : D → M (Option D) := fun x => M.bnd (M.opt (bindTg tg x (wipeE env own))) fun env' =>
  M.bnd (evalC cs c env') fun k => if k then M.bnd (evalE cs false e env') fun r => M.ret (some r.d) else M.ret none
section
variable {cs : Calls} {env : Env} {S : Store} {rd : Bool} {Q : Rv → Store → Prop} {QL : List D → Store → Prop} {QV : List Rv → Store → Prop} {QB : Bool → Store → Prop} {QO : Option D → Store → Prop}
theorem c_F {own : List Nat} {tg : Tg} {c : Oep} {e : Ep} {x : D} : Ok (compF cs own tg c e env x S) QO = OkO (bindTg tg x (wipeE env own)) fun env' => Ok (evalC cs c env' S) fun k S1 => if k = true then Ok (evalE cs false e env' S1) fun r S2 => QO (some r.d) S2 else QO none S1 := by
  unfold compF
  simp only [ok_bnd, ok_opt, ok_ite, ok_ret]
theorem e_var {i : Nat} : Ok (evalE cs rd (.var i) env S) Q = OkO (rdVar rd env i) fun r => Q r S := by
  show Ok (M.opt (rdVar rd env i) S) Q = _
  rw [ok_opt]
theorem e_cst {d : D} : Ok (evalE cs rd (.cst d) env S) Q = Q (.fz d) S := rfl
theorem e_bin {o : BOp} {a b : Ep} : Ok (evalE cs rd (.bin o a b) env S) Q = Ok (evalE cs true a env S) fun x S1 => Ok (evalE cs true b env S1) fun y S2 => OkO (binop o x.d y.d) fun r => Q r S2 := by
  simp only [evalE, ok_bnd, ok_opt]
theorem e_neg {a : Ep} : Ok (evalE cs rd (.neg a) env S) Q = Ok (evalE cs true a env S) fun x S1 => OkO (negD x.d) fun r => Q r S1 := by
  simp only [evalE, ok_bnd, ok_opt]
theorem e_cmp {o : COp} {a b : Ep} : Ok (evalE cs rd (.cmp o a b) env S) Q = Ok (evalE cs true a env S) fun x S1 => Ok (evalE cs true b env S1) fun y S2 => OkO (cmpop o x.d y.d) fun c => Q (.fz (.bl c)) S2 := by
  simp only [evalE, ok_bnd, ok_opt, ok_ret]
theorem e_chn {o o' : COp} {a b c : Ep} : Ok (evalE cs rd (.chn o o' a b c) env S) Q = Ok (evalE cs true a env S) fun x S1 => Ok (evalE cs true b env S1) fun y S2 => OkO (cmpop o x.d y.d) fun k => if k = true then Ok (evalE cs true c env S2) fun z S3 => OkO (cmpop o' y.d z.d) fun k' => Q (.fz (.bl k')) S3 else Q (.fz (.bl false)) S2 := by
  simp only [evalE, ok_bnd, ok_opt, ok_ret, ok_ite]
theorem e_isc {ng : Bool} {a : Ep} {d : D} : Ok (evalE cs rd (.isc ng a d) env S) Q = Ok (evalE cs true a env S) fun x S1 => OkO (isc x.d d) fun k => Q (.fz (.bl (if ng = true then !k else k))) S1 := by
  simp only [evalE, ok_bnd, ok_opt, ok_ret]
theorem e_and {a b : Ep} : Ok (evalE cs rd (.and a b) env S) Q = Ok (evalE cs true a env S) fun x S1 => OkO (boolO x.d) fun k => if k = true then Ok (evalE cs true b env S1) fun y S2 => OkO (boolO y.d) fun k' => Q (.fz (.bl k')) S2 else Q (.fz (.bl false)) S1 := by
  simp only [evalE, ok_bnd, ok_asB, ok_ret, ok_ite]
theorem e_or {a b : Ep} : Ok (evalE cs rd (.or a b) env S) Q = Ok (evalE cs true a env S) fun x S1 => OkO (boolO x.d) fun k => if k = true then Q (.fz (.bl true)) S1 else Ok (evalE cs true b env S1) fun y S2 => OkO (boolO y.d) fun k' => Q (.fz (.bl k')) S2 := by
  simp only [evalE, ok_bnd, ok_asB, ok_ret, ok_ite]
theorem e_not {a : Ep} : Ok (evalE cs rd (.not a) env S) Q = Ok (evalE cs true a env S) fun x S1 => OkO (boolO x.d) fun k => Q (.fz (.bl (!k))) S1 := by
  simp only [evalE, ok_bnd, ok_asB, ok_ret]
theorem e_ite {t a b : Ep} : Ok (evalE cs rd (.ite t a b) env S) Q = Ok (evalE cs true t env S) fun x S1 => OkO (boolO x.d) fun k => if k = true then Ok (evalE cs false a env S1) Q else Ok (evalE cs false b env S1) Q := by
  simp only [evalE, ok_bnd, ok_asB, ok_ite]
theorem e_tup {es : Eps} : Ok (evalE cs rd (.tup es) env S) Q = Ok (evalEs cs es env S) fun ds S1 => ds.length ≤ sizeLine ∧ Q (.fz (.tup ds)) S1 := by
  simp only [evalE, ok_bnd, ok_ite, ok_ret, ok_stk, and_iff_left_of_imp]
  congr 1
  funext ds S1
  by_cases h : ds.length ≤ sizeLine <;> simp [h]
theorem e_lst {es : Eps} : Ok (evalE cs rd (.lst es) env S) Q = Ok (evalEs cs es env S) fun ds S1 => ds.length ≤ sizeLine ∧ Q (.ow ds) S1 := by
  simp only [evalE, ok_bnd, ok_ite, ok_ret, ok_stk]
  congr 1
  funext ds S1
  by_cases h : ds.length ≤ sizeLine <;> simp [h]
theorem e_newc {es : Eps} : Ok (evalE cs rd (.newc es) env S) Q = Ok (evalEs cs es env S) fun ds S1 => ds.length ≤ sizeLine ∧ Q (.fz (.cell S1.length)) (S1 ++ [.lst ds]) := by
  simp only [evalE, ok_bnd, ok_ite, ok_stk]
  congr 1
  funext ds S1
  by_cases h : ds.length ≤ sizeLine
  · simp only [h, if_true, true_and]
    rfl
  · simp [h]
theorem e_idx {a i : Ep} : Ok (evalE cs rd (.idx a i) env S) Q = Ok (evalE cs true a env S) fun x S1 => Ok (evalE cs true i env S1) fun y S2 => OkO (idxop x.d y.d S2) fun d => Q (.fz d) S2 := by
  simp only [evalE, ok_bnd, ok_ask, ok_ret]
theorem e_from {a i : Ep} : Ok (evalE cs rd (.from_ a i) env S) Q = Ok (evalE cs true a env S) fun x S1 => Ok (evalE cs true i env S1) fun y S2 => OkO (frmD x.d y.d) fun r => Q r S2 := by
  simp only [evalE, ok_bnd, ok_opt]
theorem e_upto {a i : Ep} : Ok (evalE cs rd (.upto a i) env S) Q = Ok (evalE cs true a env S) fun x S1 => Ok (evalE cs true i env S1) fun y S2 => OkO (uptD x.d y.d) fun r => Q r S2 := by
  simp only [evalE, ok_bnd, ok_opt]
theorem e_rev {a : Ep} : Ok (evalE cs rd (.rev a) env S) Q = Ok (evalE cs true a env S) fun x S1 => OkO (revD x.d) fun r => Q r S1 := by
  simp only [evalE, ok_bnd, ok_opt]
theorem e_call {f : Nat} {es : Eps} : Ok (evalE cs rd (.call f es) env S) Q = Ok (evalEs cs es env S) fun ds S1 => Ok (cs f ds S1) Q := by
  simp only [evalE, ok_bnd]
theorem e_blt {b : Blt} {es : Eps} : Ok (evalE cs rd (.blt b es) env S) Q = Ok (evalRs cs es env S) fun ds S1 => OkO (bltop S1 b ds) fun r => Q r S1 := by
  simp only [evalE, ok_bnd, ok_ask]
theorem e_mth {m : Mt} {a : Ep} {es : Eps} : Ok (evalE cs rd (.mth m a es) env S) Q = Ok (evalE cs true a env S) fun x S1 => Ok (evalRs cs es env S1) fun ds S2 => OkO (mthop m x.d ds) fun r => Q r S2 := by
  simp only [evalE, ok_bnd, ok_opt]
theorem e_trng {a : Ep} : Ok (evalE cs rd (.trng a) env S) Q = Ok (evalE cs true a env S) fun x S1 => OkO (trgD x.d) fun r => Q r S1 := by
  simp only [evalE, ok_bnd, ok_opt]
theorem e_comp {own : List Nat} {tg : Tg} {it : Src} {c : Oep} {e : Ep} : Ok (evalE cs rd (.comp own tg it c e) env S) Q = Ok (evalIt cs true it env S) fun xs S1 => Ok (compM (compF cs own tg c e env) xs [] S1) fun ys S2 => Q (.ow ys) S2 := by
  simp only [evalE, ok_bnd, ok_noX, ok_ret]
  rfl
theorem es_nil : Ok (evalEs cs .nil env S) QL = QL [] S := rfl
theorem es_cons {e : Ep} {r : Eps} : Ok (evalEs cs (.cons e r) env S) QL = Ok (evalE cs false e env S) fun x S1 => Ok (evalEs cs r env S1) fun xs S2 => QL (x.d :: xs) S2 := by
  simp only [evalEs, ok_bnd, ok_ret]
theorem rs_nil : Ok (evalRs cs .nil env S) QL = QL [] S := rfl
theorem rs_cons {e : Ep} {r : Eps} : Ok (evalRs cs (.cons e r) env S) QL = Ok (evalE cs true e env S) fun x S1 => Ok (evalRs cs r env S1) fun xs S2 => QL (x.d :: xs) S2 := by
  simp only [evalRs, ok_bnd, ok_ret]
theorem vs_nil : Ok (evalVs cs .nil env S) QV = QV [] S := rfl
theorem vs_cons {e : Ep} {r : Eps} : Ok (evalVs cs (.cons e r) env S) QV = Ok (evalE cs false e env S) fun x S1 => Ok (evalVs cs r env S1) fun xs S2 => QV (x :: xs) S2 := by
  simp only [evalVs, ok_bnd, ok_ret]
theorem c_no : Ok (evalC cs .no env S) QB = QB true S := rfl
theorem c_yes {e : Ep} : Ok (evalC cs (.yes e) env S) QB = Ok (evalE cs true e env S) fun x S1 => OkO (boolO x.d) fun b => QB b S1 := by
  simp only [evalC, ok_bnd, ok_asB]
theorem it_val {e : Ep} : Ok (evalIt cs rd (.val e) env S) QL = Ok (evalE cs rd e env S) fun x S1 => OkO (items x.d) fun ds => QL ds S1 := by
  simp only [evalIt, ok_bnd, ok_opt]
theorem it_rng {e : Ep} : Ok (evalIt cs rd (.rng e) env S) QL = Ok (evalE cs rd e env S) fun x S1 => OkO (rngO x.d) fun ds => QL ds S1 := by
  simp only [evalIt, ok_bnd, ok_opt]
theorem it_enum {e : Ep} : Ok (evalIt cs rd (.enum e) env S) QL = Ok (evalE cs rd e env S) fun x S1 => OkO (enmO x.d) fun ds => QL ds S1 := by
  simp only [evalIt, ok_bnd, ok_opt]
theorem it_zip {a b : Ep} : Ok (evalIt cs rd (.zip a b) env S) QL = Ok (evalE cs rd a env S) fun x S1 => Ok (evalE cs rd b env S1) fun y S2 => OkO (zipO x.d y.d) fun ds => QL ds S2 := by
  simp only [evalIt, ok_bnd, ok_opt]
end
/-! ### slots -/
theorem rd_succ {rd : Bool} {x : Option Rv} {env : Env} {i : Nat} : rdVar rd (x :: env) (i + 1) = rdVar rd env i := rfl
theorem rd_fz {rd : Bool} {d : D} {env : Env} : rdVar rd (some (.fz d) :: env) 0 = some (.fz d) := rfl
theorem rd_ow {xs : List D} {env : Env} : rdVar true (some (.ow xs) :: env) 0 = some (.ow xs) := rfl
theorem d_fz {d : D} : Rv.d (.fz d) = d := rfl
theorem d_ow {xs : List D} : Rv.d (.ow xs) = .lst xs := rfl
theorem ow_succ {x : Option Rv} {env : Env} {i : Nat} : owAt (x :: env) (i + 1) = owAt env i := rfl
theorem ow_zero {xs : List D} {env : Env} : owAt (some (.ow xs) :: env) 0 = some xs := rfl
theorem frz_nil {env : Env} : frzE env [] = env := rfl
/-! ### operators -/
theorem bin_add {a b : D} : binop .add a b = addD a b := rfl
theorem bin_sub {a b : D} : binop .sub a b = subD a b := rfl
theorem bin_mul {a b : D} : binop .mul a b = mulD a b := rfl
theorem bin_fdiv {a b : D} : binop .fdiv a b = fdivD a b := rfl
theorem bin_mod {a b : D} : binop .mod a b = modD a b := rfl
theorem bin_pow {a b : D} : binop .pow a b = powD a b := rfl
theorem add_ii {i j : Int} : addD (.int i) (.int j) = some (.fz (.int (i + j))) := rfl
theorem add_ll {i j : List D} : addD (.lst i) (.lst j) = if i.length + j.length ≤ sizeLine then some (.ow (i ++ j)) else none := rfl
theorem add_tt {i j : List D} : addD (.tup i) (.tup j) = if i.length + j.length ≤ sizeLine then some (.fz (.tup (i ++ j))) else none := rfl
theorem sub_ii {i j : Int} : subD (.int i) (.int j) = some (.fz (.int (i - j))) := rfl
theorem mul_ii {i j : Int} : mulD (.int i) (.int j) = if (-(2 ^ 64) < i ∧ i < 2 ^ 64) ∨ (-(2 ^ 64) < j ∧ j < 2 ^ 64) then some (.fz (.int (i * j))) else none := rfl
theorem fdiv_ii {i j : Int} : fdivD (.int i) (.int j) = if 0 < j ∧ j < 1073741824 then some (.fz (.int (i / j))) else none := rfl
theorem mod_ii {i j : Int} : modD (.int i) (.int j) = if 0 < j then some (.fz (.int (i % j))) else none := rfl
theorem pow_ii {i j : Int} : powD (.int i) (.int j) = if 0 ≤ j ∧ j ≤ 100 ∧ -(2 ^ 60) < i ∧ i < 2 ^ 60 then some (.fz (.int (i ^ j.toNat))) else none := rfl
theorem neg_i {i : Int} : negD (.int i) = some (.fz (.int (-i))) := rfl
theorem eqD_ii {i j : Int} : eqD (.int i) (.int j) = some (i == j) := rfl
theorem eqD_bb {i j : Bool} : eqD (.bl i) (.bl j) = some (i == j) := rfl
theorem cmp_eq {a b : D} : cmpop .eq a b = eqD a b := rfl
theorem cmp_ne {a b : D} : cmpop .ne a b = (eqD a b).map (!·) := rfl
theorem cmp_lt {i j : Int} : cmpop .lt (.int i) (.int j) = some (decide (i < j)) := rfl
theorem cmp_le {i j : Int} : cmpop .le (.int i) (.int j) = some (decide (i ≤ j)) := rfl
theorem cmp_gt {i j : Int} : cmpop .gt (.int i) (.int j) = some (decide (j < i)) := rfl
theorem cmp_ge {i j : Int} : cmpop .ge (.int i) (.int j) = some (decide (j ≤ i)) := rfl
theorem isc_nn : isc .non .non = some true := rfl
theorem isc_bb {a b : Bool} : isc (.bl a) (.bl b) = some (a == b) := rfl
theorem isc_in {i : Int} : isc (.int i) .non = some false := rfl
theorem isc_tn {i : List D} : isc (.tup i) .non = some false := rfl
theorem isc_ln {i : List D} : isc (.lst i) .non = some false := rfl
/-! ### built-ins -/
theorem blt_len_scr {S : Store} {xs : List Int} : bltop S .len [.scr xs] = some (.fz (.int xs.length)) := rfl
theorem blt_len_tup {S : Store} {xs : List D} : bltop S .len [.tup xs] = some (.fz (.int xs.length)) := rfl
theorem blt_len_lst {S : Store} {xs : List D} : bltop S .len [.lst xs] = some (.fz (.int xs.length)) := rfl
theorem blt_tuple_lst {S : Store} {xs : List D} : bltop S .tuple [.lst xs] = some (.fz (.tup xs)) := rfl
theorem blt_tuple_tup {S : Store} {xs : List D} : bltop S .tuple [.tup xs] = some (.fz (.tup xs)) := rfl
theorem blt_list_lst {S : Store} {xs : List D} : bltop S .list [.lst xs] = some (.ow xs) := rfl
theorem blt_list_tup {S : Store} {xs : List D} : bltop S .list [.tup xs] = some (.ow xs) := rfl
theorem blt_all {S : Store} {xs : List D} : bltop S .all [.lst xs] = (boolsD xs).map fun bs => .fz (.bl (bs.all id)) := rfl
theorem blt_any {S : Store} {xs : List D} : bltop S .any [.lst xs] = (boolsD xs).map fun bs => .fz (.bl (bs.any id)) := rfl
theorem blt_max2 {S : Store} {i j : Int} : bltop S .max2 [.int i, .int j] = some (.fz (.int (if j > i then j else i))) := rfl
theorem blt_min2 {S : Store} {i j : Int} : bltop S .min2 [.int i, .int j] = some (.fz (.int (if j < i then j else i))) := rfl
theorem blt_int_b {S : Store} {b : Bool} : bltop S .int1 [.bl b] = some (.fz (.int (if b then 1 else 0))) := rfl
theorem blt_int_i {S : Store} {b : Int} : bltop S .int1 [.int b] = some (.fz (.int b)) := rfl
theorem blt_repr {S : Store} {b : Bool} : bltop S .repr [.bl b] = some (.fz (.str (if b then sTrue else sFalse))) := rfl
theorem blt_isi {S : Store} {ts : List Ty} {d : D} : bltop S (.isi ts) [d] = (tyIn d ts).map fun b => .fz (.bl b) := rfl
/-! ### indices -/
theorem ixN_nat {n k : Nat} (h : k < n) : ixN n (k : Int) = some k := by
  unfold ixN
  rw [if_pos (by omega), if_pos (by omega), Int.toNat_natCast]
theorem ixN_of {n : Nat} {i : Int} (h0 : 0 ≤ i) (h : i < n) : ixN n i = some i.toNat := by
  unfold ixN
  rw [if_pos h0, if_pos h]
theorem atI_of {α : Type} {xs : List α} {i : Int} (h0 : 0 ≤ i) (h : i < xs.length) : ∃ x, atI xs i = some x ∧ xs[i.toNat]? = some x ∧ x ∈ xs := by
  have hl : i.toNat < xs.length := by omega
  refine ⟨xs[i.toNat], ?_, List.getElem?_eq_getElem hl, List.getElem_mem hl⟩
  unfold atI
  rw [ixN_of h0 h]
  show xs[i.toNat]? = _
  rw [List.getElem?_eq_getElem hl]
theorem ix_tup {xs : List D} {k : Int} {S : Store} : idxop (.tup xs) (.int k) S = atI xs k := rfl
theorem ix_lst {xs : List D} {k : Int} {S : Store} : idxop (.lst xs) (.int k) S = atI xs k := rfl
theorem ix_scr {xs : List Int} {k : Int} {S : Store} : idxop (.scr xs) (.int k) S = (atI xs k).map D.int := rfl
theorem ix_cell {n : Nat} {xs : List D} {k : Int} {S : Store} (h : S[n]? = some (.lst xs)) : idxop (.cell n) (.int k) S = atI xs k := by
  show (match S[n]? with | some (.lst xs) => atI xs k | _ => none) = _
  rw [h]
/-! ### statements -/
def forF (cs : Calls) (tg : Tg) (b : Sms) : D → Env → M (Fl × Env) := fun x env => M.bnd (M.opt (bindTg tg x env)) fun env' => execSs cs b env'
section
variable {cs : Calls} {env : Env} {S : Store} {Q : Fl × Env → Store → Prop} {r : Sms}
/-- what follows a statement that may leave -/
def cont (cs : Calls) (r : Sms) (Q : Fl × Env → Store → Prop) : Fl × Env → Store → Prop := fun o S => match o.1 with
  | .nx => Ok (execSs cs r o.2 S) Q
  | f => Q (f, o.2) S
theorem cont_nx : cont cs r Q (.nx, env) S = Ok (execSs cs r env S) Q := rfl
theorem cont_ret {v : Rv} : cont cs r Q (.ret v, env) S = Q (.ret v, env) S := rfl
theorem s_nil : Ok (execSs cs .nil env S) Q = Q (.nx, env) S := rfl
theorem s_any {s : Sm} : Ok (execSs cs (.cons s r) env S) Q = Ok (execS cs s env S) (cont cs r Q) := by
  show Ok (M.bnd (execS cs s env) _ S) Q = _
  rw [ok_bnd]
  congr 1
  funext o S'
  obtain ⟨f, e⟩ := o
  cases f <;> rfl
theorem s_set {i : Nat} {e : Ep} : Ok (execSs cs (.cons (.set i e) r) env S) Q = Ok (evalE cs false e env S) fun v S' => Ok (execSs cs r (env.set i (some v)) S') Q := by
  rw [s_any]
  show Ok (M.bnd (evalE cs false e env) _ S) _ = _
  rw [ok_bnd]
  rfl
theorem s_unp {t : Tg} {e : Ep} : Ok (execSs cs (.cons (.unp t e) r) env S) Q = Ok (evalE cs true e env S) fun v S' => OkO (bindTg t v.d env) fun env' => Ok (execSs cs r env' S') Q := by
  rw [s_any]
  show Ok (M.bnd (evalE cs true e env) _ S) _ = _
  rw [ok_bnd]
  congr 1
  funext v S'
  rw [ok_bnd, ok_opt]
  rfl
theorem s_par {is : List Nat} {es : Eps} : Ok (execSs cs (.cons (.par is es) r) env S) Q = Ok (evalVs cs es env S) fun vs S' => OkO (setAll env is vs) fun env' => Ok (execSs cs r env' S') Q := by
  rw [s_any]
  show Ok (M.bnd (evalVs cs es env) _ S) _ = _
  rw [ok_bnd]
  congr 1
  funext v S'
  rw [ok_bnd, ok_opt]
  rfl
theorem s_stx {i : Nat} {ix e : Ep} : Ok (execSs cs (.cons (.stx i ix e) r) env S) Q = Ok (evalE cs false e env S) fun v S1 => OkO (rdVar true env i) fun _ => Ok (evalE cs true ix env S1) fun k S2 => Ok (stxop env i k.d v.d S2) fun env' S3 => Ok (execSs cs r env' S3) Q := by
  rw [s_any]
  show Ok (M.bnd (evalE cs false e env) _ S) _ = _
  rw [ok_bnd]
  congr 1
  funext v S'
  rw [ok_bnd, ok_opt]
  congr 1
  funext _
  rw [ok_bnd]
  congr 1
  funext k S2
  rw [ok_bnd]
  rfl
theorem s_app {i : Nat} {e : Ep} : Ok (execSs cs (.cons (.app i e) r) env S) Q = OkO (owAt env i) fun xs => Ok (evalE cs false e env S) fun v S1 => xs.length < sizeLine ∧ Ok (execSs cs r (env.set i (some (.ow (xs ++ [v.d])))) S1) Q := by
  rw [s_any]
  show Ok (M.bnd (M.opt (owAt env i)) _ S) _ = _
  rw [ok_bnd, ok_opt]
  congr 1
  funext xs
  rw [ok_bnd]
  congr 1
  funext v S1
  rw [ok_ite]
  by_cases h : xs.length < sizeLine
  · rw [if_pos h]
    simp only [h, true_and]
    rfl
  · rw [if_neg h]
    simp only [h, false_and]
    rfl
theorem s_expr {e : Ep} : Ok (execSs cs (.cons (.expr e) r) env S) Q = Ok (evalE cs false e env S) fun _ S1 => Ok (execSs cs r env S1) Q := by
  rw [s_any]
  show Ok (M.bnd (evalE cs false e env) _ S) _ = _
  rw [ok_bnd]
  rfl
theorem s_ret {e : Ep} : Ok (execSs cs (.cons (.ret e) r) env S) Q = Ok (evalE cs false e env S) fun v S1 => Q (.ret v, env) S1 := by
  rw [s_any]
  show Ok (M.bnd (evalE cs false e env) _ S) _ = _
  rw [ok_bnd]
  rfl
theorem s_rtv {i : Nat} : Ok (execSs cs (.cons (.rtv i) r) env S) Q = OkO (rdVar true env i) fun v => Q (.ret v, env) S := by
  rw [s_any]
  show Ok (M.bnd (M.opt (rdVar true env i)) _ S) _ = _
  rw [ok_bnd, ok_opt]
  rfl
theorem s_frz {is : List Nat} {s : Sm} : Ok (execSs cs (.cons (.frz is s) r) env S) Q = Ok (execSs cs (.cons s r) (frzE env is) S) Q := by
  rw [s_any, s_any]
  rfl
theorem e_B {t : Ep} {Q : Bool → Store → Prop} : Ok (evalB cs t env S) Q = Ok (evalE cs true t env S) fun x S1 => OkO (boolO x.d) fun b => Q b S1 := by
  unfold evalB
  rw [ok_bnd]
  congr 1
  funext x S1
  rw [ok_asB]
theorem s_ite {t : Ep} {a b : Sms} : Ok (execSs cs (.cons (.ite t a b) r) env S) Q = Ok (evalE cs true t env S) fun x S1 => OkO (boolO x.d) fun k => if k = true then Ok (execSs cs a env S1) (cont cs r Q) else Ok (execSs cs b env S1) (cont cs r Q) := by
  rw [s_any]
  show Ok (M.bnd (evalB cs t env) _ S) _ = _
  rw [ok_bnd, e_B]
  congr 1
  funext x S1
  congr 1
  funext k
  rw [ok_ite]
theorem f_F {tg : Tg} {b : Sms} {x : D} : Ok (forF cs tg b x env S) Q = OkO (bindTg tg x env) fun env' => Ok (execSs cs b env' S) Q := by
  unfold forF
  rw [ok_bnd, ok_opt]
theorem s_for {tg : Tg} {it : Src} {b : Sms} : Ok (execSs cs (.cons (.for_ tg it b) r) env S) Q = Ok (evalIt cs false it env S) fun xs S1 => Ok (forM (forF cs tg b) xs env S1) (cont cs r Q) := by
  rw [s_any]
  show Ok (M.bnd (evalIt cs false it env) _ S) _ = _
  rw [ok_bnd]
  rfl
theorem s_whl {t : Ep} {b : Sms} : Ok (execSs cs (.cons (.whl t b) r) env S) Q = Ok (whlM (fun env => evalB cs t env) (fun env => execSs cs b env) WF env S) (cont cs r Q) := by
  rw [s_any]
  rfl
end
/-! ### for -/
/-- the turns of a for: I holds ahead of turn i -/
theorem for_ok {f : D → Env → M (Fl × Env)} {Q : Fl × Env → Store → Prop} (xs : List D) (I : Nat → Env → Store → Prop) {env : Env} {S : Store} (h0 : I 0 env S)
    (step : ∀ (i : Nat) x env S, xs[i]? = some x → I i env S → Ok (f x env S) fun o S' => match o.1 with
      | .nx => I (i + 1) o.2 S'
      | .ct => I (i + 1) o.2 S'
      | .brk => Q (.nx, o.2) S'
      | .ret r => Q (.ret r, o.2) S')
    (fin : ∀ env S, I xs.length env S → Q (.nx, env) S) : Ok (forM f xs env S) Q := by
  have key : ∀ (ys : List D) (i : Nat) env S, (∀ (j : Nat) y, ys[j]? = some y → xs[i + j]? = some y) → i + ys.length = xs.length → I i env S → Ok (forM f ys env S) Q := by
    intro ys
    induction ys with
    | nil =>
      intro i env S _ hl h
      have : i = xs.length := by simpa using hl
      subst this
      exact fin env S h
    | cons y ys ih =>
      intro i env S hx hl h
      show Ok (M.bnd (f y env) _ S) Q
      rw [ok_bnd]
      refine (step i y env S (by simpa using hx 0 y rfl) h).mono fun o S' q => ?_
      obtain ⟨fl, e⟩ := o
      have nx : I (i + 1) e S' → Ok (forM f ys e S') Q := fun q => ih (i + 1) e S' (fun j z hz => by
        have := hx (j + 1) z (by simpa using hz)
        rwa [show i + (j + 1) = i + 1 + j by omega] at this) (by simp at hl; omega) q
      cases fl with
      | nx => exact nx q
      | ct => exact nx q
      | brk => exact q
      | ret v => exact q
  exact key xs 0 env S (fun j y h => by simpa using h) (by simp) h0
/-! ### comprehensions -/
theorem comp_ok {f : D → M (Option D)} {Q : List D → Store → Prop} (xs : List D) (I : Nat → List D → Store → Prop) {S : Store} (h0 : I 0 [] S) (hz : xs.length ≤ sizeLine) (hl : ∀ (i : Nat) ys S, I i ys S → ys.length ≤ i)
    (step : ∀ (i : Nat) x ys S, xs[i]? = some x → I i ys S → Ok (f x S) fun o S' => match o with
      | none => I (i + 1) ys S'
      | some d => I (i + 1) (ys ++ [d]) S')
    (fin : ∀ ys S, I xs.length ys S → Q ys S) : Ok (compM f xs [] S) Q := by
  have key : ∀ (zs : List D) (i : Nat) ys S, (∀ (j : Nat) y, zs[j]? = some y → xs[i + j]? = some y) → i + zs.length = xs.length → I i ys S → Ok (compM f zs ys S) Q := by
    intro zs
    induction zs with
    | nil =>
      intro i ys S _ hl h
      have : i = xs.length := by simpa using hl
      subst this
      exact fin ys S h
    | cons z zs ih =>
      intro i ys S hx hlen h
      show Ok (M.bnd (f z) _ S) Q
      rw [ok_bnd]
      have hlen : i + (zs.length + 1) = xs.length := by simpa using hlen
      have hy := hl i ys S h
      refine (step i z ys S (by simpa using hx 0 z rfl) h).mono fun o S' q => ?_
      have nx : ∀ ys', I (i + 1) ys' S' → Ok (compM f zs ys' S') Q := fun ys' q => ih (i + 1) ys' S' (fun j w hw => by
        have := hx (j + 1) w (by simpa using hw)
        rwa [show i + (j + 1) = i + 1 + j by omega] at this) (by omega) q
      cases o with
      | none => exact nx ys q
      | some d =>
        show Ok ((if ys.length < sizeLine then compM f zs (ys ++ [d]) else M.stk) S') Q
        rw [if_pos (by omega)]
        exact nx _ q
  exact key xs 0 [] S (fun j y h => by simpa using h) (by simp) h0
/-- each item is reckoned by itself, the store stays -/
theorem comp_map {f : D → M (Option D)} {g : D → D} {xs : List D} {S : Store} (hz : xs.length ≤ sizeLine) (h : ∀ x ∈ xs, f x S = .ok (some (g x)) S) : compM f xs [] S = .ok (xs.map g) S := by
  have : Ok (compM f xs [] S) (fun ys S' => ys = xs.map g ∧ S' = S) := by
    refine comp_ok xs (fun i ys S' => ys = (xs.take i).map g ∧ S' = S) ⟨by simp, rfl⟩ hz (fun i ys S' ⟨e, _⟩ => by rw [e]; simp; omega) (fun i x ys S' hx ⟨e1, e2⟩ => ?_) (fun ys S' ⟨e1, e2⟩ => ⟨by rw [e1, List.take_length], e2⟩)
    subst e2
    refine ok_of (h x (List.mem_of_getElem? hx)) ⟨?_, rfl⟩
    rw [e1, List.take_add_one, hx]
    simp
  obtain ⟨a, S', e, rfl, rfl⟩ := this.out
  exact e
/-! ### calls -/
def fin (Q : Rv → Store → Prop) : Fl × Env → Store → Prop := fun o S => match o.1 with
  | .ret r => Q r S
  | .nx => Q (.fz .non) S
  | _ => False
theorem fin_ret {Q : Rv → Store → Prop} {r : Rv} {env : Env} {S : Store} : fin Q (.ret r, env) S = Q r S := rfl
theorem fin_nx {Q : Rv → Store → Prop} {env : Env} {S : Store} : fin Q (.nx, env) S = Q (.fz .non) S := rfl
theorem ok_run {P : Nat → Option FDef} {n i : Nat} {fd : FDef} {ds : List D} {S : Store} {Q : Rv → Store → Prop} (h : P i = some fd) (hl : ds.length = fd.ar) (k : Ok (execSs (run P n) fd.body (startE fd.N ds) S) (fin Q)) : Ok (run P (n + 1) i ds S) Q := by
  show Ok ((match P i with | none => M.stk | some fd => if ds.length = fd.ar then M.bnd (execSs (run P n) fd.body (startE fd.N ds)) fun o => match o.1 with
        | .ret r => M.ret r
        | .nx => M.ret (.fz .non)
        | _ => M.stk
      else M.stk) S) Q
  rw [h]
  show Ok ((if ds.length = fd.ar then _ else M.stk) S) Q
  rw [if_pos hl, ok_bnd]
  refine k.mono fun o S' q => ?_
  obtain ⟨f, e⟩ := o
  cases f <;> exact q
end Mini
/-! PureB: types, plain data, further rules. -/
namespace Mini
open PySem L2
theorem ty_non_int : tyIs .non .int = some false := rfl
theorem ty_non_bool : tyIs .non .bool = some false := rfl
theorem ty_non_str : tyIs .non .str = some false := rfl
theorem ty_non_tuple : tyIs .non .tuple = some false := rfl
theorem ty_non_list : tyIs .non .list = some false := rfl
theorem ty_bl_int {b : Bool} : tyIs (.bl b) .int = some true := rfl
theorem ty_bl_bool {b : Bool} : tyIs (.bl b) .bool = some true := rfl
theorem ty_bl_str {b : Bool} : tyIs (.bl b) .str = some false := rfl
theorem ty_bl_tuple {b : Bool} : tyIs (.bl b) .tuple = some false := rfl
theorem ty_bl_list {b : Bool} : tyIs (.bl b) .list = some false := rfl
theorem ty_int_int {i : Int} : tyIs (.int i) .int = some true := rfl
theorem ty_int_bool {i : Int} : tyIs (.int i) .bool = some false := rfl
theorem ty_int_str {i : Int} : tyIs (.int i) .str = some false := rfl
theorem ty_int_tuple {i : Int} : tyIs (.int i) .tuple = some false := rfl
theorem ty_int_list {i : Int} : tyIs (.int i) .list = some false := rfl
theorem ty_str_int {x : Str} : tyIs (.str x) .int = some false := rfl
theorem ty_str_bool {x : Str} : tyIs (.str x) .bool = some false := rfl
theorem ty_str_str {x : Str} : tyIs (.str x) .str = some true := rfl
theorem ty_str_tuple {x : Str} : tyIs (.str x) .tuple = some false := rfl
theorem ty_str_list {x : Str} : tyIs (.str x) .list = some false := rfl
theorem ty_tup_int {xs : List D} : tyIs (.tup xs) .int = some false := rfl
theorem ty_tup_bool {xs : List D} : tyIs (.tup xs) .bool = some false := rfl
theorem ty_tup_str {xs : List D} : tyIs (.tup xs) .str = some false := rfl
theorem ty_tup_tuple {xs : List D} : tyIs (.tup xs) .tuple = some true := rfl
theorem ty_tup_list {xs : List D} : tyIs (.tup xs) .list = some false := rfl
theorem ty_lst_int {xs : List D} : tyIs (.lst xs) .int = some false := rfl
theorem ty_lst_bool {xs : List D} : tyIs (.lst xs) .bool = some false := rfl
theorem ty_lst_str {xs : List D} : tyIs (.lst xs) .str = some false := rfl
theorem ty_lst_tuple {xs : List D} : tyIs (.lst xs) .tuple = some false := rfl
theorem ty_lst_list {xs : List D} : tyIs (.lst xs) .list = some true := rfl
theorem ty_one {d : D} {t : Ty} : tyIn d [t] = tyIs d t := by
  show (match tyIs d t, some false with | some b, some c => some (b || c) | _, _ => none) = _
  cases tyIs d t with
  | none => rfl
  | some b => cases b <;> rfl
theorem ty_two {d : D} {t u : Ty} {b c : Bool} (h : tyIs d t = some b) (h' : tyIs d u = some c) : tyIn d [t, u] = some (b || c) := by
  show (match tyIs d t, tyIn d [u] with | some b, some c => some (b || c) | _, _ => none) = _
  rw [ty_one, h, h']
theorem eq_of_ok {α : Type} {o : Out α} {b : α} {S : Store} (h : Ok o (fun a S' => a = b ∧ S' = S)) : o = .ok b S := by
  obtain ⟨a, S', e, rfl, rfl⟩ := h.out
  exact e
mutual
/-- plain data, each tuple and list of at most n -/
def D.ok (n : Nat) : D → Bool
  | .non | .bl _ | .int _ | .str _ => true
  | .tup xs | .lst xs => Nat.ble xs.length n && D.oks n xs
  | _ => false
def D.oks (n : Nat) : List D → Bool
  | [] => true
  | x :: xs => D.ok n x && D.oks n xs
end
theorem oks_all {n : Nat} {xs : List D} : D.oks n xs = true ↔ ∀ x ∈ xs, D.ok n x = true := by
  induction xs with
  | nil => simp [D.oks]
  | cons x xs ih => simp [D.oks, ih]
theorem ok_tup {n : Nat} {xs : List D} : D.ok n (.tup xs) = true ↔ xs.length ≤ n ∧ ∀ x ∈ xs, D.ok n x = true := by
  show (Nat.ble xs.length n && D.oks n xs) = true ↔ _
  rw [Bool.and_eq_true, oks_all, Nat.ble_eq]
theorem ok_lst {n : Nat} {xs : List D} : D.ok n (.lst xs) = true ↔ xs.length ≤ n ∧ ∀ x ∈ xs, D.ok n x = true := ok_tup
mutual
theorem D.ok_mono {n m : Nat} (h : n ≤ m) : ∀ {d : D}, D.ok n d = true → D.ok m d = true
  | .non, _ | .bl _, _ | .int _, _ | .str _, _ => rfl
  | .tup xs, q => by
    have q : (Nat.ble xs.length n && D.oks n xs) = true := q
    rw [Bool.and_eq_true] at q
    show (Nat.ble xs.length m && D.oks m xs) = true
    rw [Bool.and_eq_true, D.oks_mono h q.2]
    exact ⟨Nat.ble_eq_true_of_le (Nat.le_trans (Nat.le_of_ble_eq_true q.1) h), rfl⟩
  | .lst xs, q => by
    have q : (Nat.ble xs.length n && D.oks n xs) = true := q
    rw [Bool.and_eq_true] at q
    show (Nat.ble xs.length m && D.oks m xs) = true
    rw [Bool.and_eq_true, D.oks_mono h q.2]
    exact ⟨Nat.ble_eq_true_of_le (Nat.le_trans (Nat.le_of_ble_eq_true q.1) h), rfl⟩
  | .cell _, q | .fn _, q | .scr _, q => by cases q
theorem D.oks_mono {n m : Nat} (h : n ≤ m) : ∀ {xs : List D}, D.oks n xs = true → D.oks m xs = true
  | [], _ => rfl
  | x :: xs, q => by
    have q : (D.ok n x && D.oks n xs) = true := q
    rw [Bool.and_eq_true] at q
    show (D.ok m x && D.oks m xs) = true
    rw [Bool.and_eq_true]
    exact ⟨D.ok_mono h q.1, D.oks_mono h q.2⟩
end
theorem boolsD_map {bs : List Bool} : boolsD (bs.map D.bl) = some bs := by
  induction bs with
  | nil => rfl
  | cons b bs ih =>
    show (boolsD (bs.map D.bl)).map (b :: ·) = _
    rw [ih]
    rfl
theorem boolsD_map' {α : Type} {g : α → Bool} {xs : List α} : boolsD (xs.map fun x => D.bl (g x)) = some (xs.map g) := by
  have : (xs.map fun x => D.bl (g x)) = (xs.map g).map D.bl := by rw [List.map_map]; rfl
  rw [this, boolsD_map]
theorem intsD_map {ns : List Int} : intsD (ns.map D.int) = some ns := by
  induction ns with
  | nil => rfl
  | cons b bs ih =>
    show (intsD (bs.map D.int)).map (b :: ·) = _
    rw [ih]
    rfl
theorem all_id {α : Type} {g : α → Bool} {xs : List α} : (xs.map g).all id = xs.all g := by
  rw [List.all_map]
  rfl
theorem frz_cons {env : Env} {i : Nat} {is : List Nat} : frzE env (i :: is) = match (frzE env is)[i]? with
  | some (some (.ow xs)) => (frzE env is).set i (some (.fz (.lst xs)))
  | _ => frzE env is := rfl
theorem frz_two {env : Env} {i j : Nat} {is : List Nat} : frzE env (i :: j :: is) = frzE (frzE env (j :: is)) [i] := rfl
theorem frz_z {r : Rv} {env : Env} : frzE (some r :: env) [0] = some (.fz r.d) :: env := by
  cases r <;> rfl
theorem frz_zn {env : Env} : frzE (none :: env) [0] = none :: env := rfl
theorem frz_succ {x : Option Rv} {env : Env} {i : Nat} : frzE (x :: env) [i + 1] = x :: frzE env [i] := by
  show (match (x :: env)[i + 1]? with | some (some (.ow xs)) => (x :: env).set (i + 1) (some (.fz (.lst xs))) | _ => x :: env) = x :: (match env[i]? with | some (some (.ow xs)) => env.set i (some (.fz (.lst xs))) | _ => env)
  rw [List.getElem?_cons_succ]
  cases env[i]? with
  | none => rfl
  | some q =>
    cases q with
    | none => rfl
    | some r => cases r <;> rfl
theorem setAll_nil {env : Env} : setAll env [] [] = some env := rfl
theorem setAll_cons {env : Env} {i : Nat} {is : List Nat} {r : Rv} {rs : List Rv} : setAll env (i :: is) (r :: rs) = setAll (env.set i (some r)) is rs := rfl
theorem upt_tup {xs : List D} {k : Int} : uptD (.tup xs) (.int k) = some (.fz (.tup (cutD xs none (some k)))) := rfl
theorem upt_lst {xs : List D} {k : Int} : uptD (.lst xs) (.int k) = some (.ow (cutD xs none (some k))) := rfl
theorem frm_tup {xs : List D} {k : Int} : frmD (.tup xs) (.int k) = some (.fz (.tup (cutD xs (some k) none))) := rfl
theorem frm_lst {xs : List D} {k : Int} : frmD (.lst xs) (.int k) = some (.ow (cutD xs (some k) none)) := rfl
theorem rev_tup {xs : List D} : revD (.tup xs) = some (.fz (.tup xs.reverse)) := rfl
theorem rev_lst {xs : List D} : revD (.lst xs) = some (.ow xs.reverse) := rfl
theorem trg_i {n : Int} : trgD (.int n) = if okRng n = true then some (.fz (.tup (rngD n))) else none := rfl
/-- one turn of a for over a list whose items stand there -/
theorem f_nil {f : D → Env → M (Fl × Env)} {env : Env} {S : Store} {Q : Fl × Env → Store → Prop} : Ok (forM f [] env S) Q = Q (.nx, env) S := rfl
def turn (f : D → Env → M (Fl × Env)) (xs : List D) (Q : Fl × Env → Store → Prop) : Fl × Env → Store → Prop := fun o S => match o.1 with
  | .nx => Ok (forM f xs o.2 S) Q
  | .ct => Ok (forM f xs o.2 S) Q
  | .brk => Q (.nx, o.2) S
  | .ret r => Q (.ret r, o.2) S
theorem turn_nx {f : D → Env → M (Fl × Env)} {xs : List D} {env : Env} {S : Store} {Q : Fl × Env → Store → Prop} : turn f xs Q (.nx, env) S = Ok (forM f xs env S) Q := rfl
theorem turn_ret {f : D → Env → M (Fl × Env)} {xs : List D} {env : Env} {S : Store} {r : Rv} {Q : Fl × Env → Store → Prop} : turn f xs Q (.ret r, env) S = Q (.ret r, env) S := rfl
theorem f_cons {f : D → Env → M (Fl × Env)} {x : D} {xs : List D} {env : Env} {S : Store} {Q : Fl × Env → Store → Prop} : Ok (forM f (x :: xs) env S) Q = Ok (f x env S) (turn f xs Q) := by
  show Ok (M.bnd (f x env) _ S) Q = _
  rw [ok_bnd]
  congr 1
  funext o S'
  obtain ⟨fl, e⟩ := o
  cases fl <;> rfl
theorem cut_len {xs : List D} {lo hi : Option Int} : (cutD xs lo hi).length ≤ xs.length := by
  unfold cutD
  rw [List.length_take, List.length_drop]
  omega
theorem cut_mem {xs : List D} {lo hi : Option Int} {x : D} (h : x ∈ cutD xs lo hi) : x ∈ xs := List.mem_of_mem_drop (List.mem_of_mem_take h)
theorem ok_newc {ds : List D} {S : Store} {Q : Rv → Store → Prop} : Ok (newcM ds S) Q = Q (.fz (.cell S.length)) (S ++ [.lst ds]) := rfl
theorem items_tup {xs : List D} : items (.tup xs) = some xs := rfl
theorem items_lst {xs : List D} : items (.lst xs) = some xs := rfl
theorem rng_i {n : Int} : rngO (.int n) = if okRng n = true then some (rngD n) else none := rfl
theorem bind_nm {i : Nat} {d : D} {env : Env} : bindTg (.nm i) d env = some (env.set i (some (.fz d))) := rfl
theorem bind_tp {ts : List Tg} {xs : List D} {env : Env} : bindTg (.tp ts) (.tup xs) env = bindTgs ts xs env := rfl
theorem bind_cons {i : Nat} {ts : List Tg} {x : D} {xs : List D} {env : Env} : bindTgs (.nm i :: ts) (x :: xs) env = bindTgs ts xs (env.set i (some (.fz x))) := rfl
theorem bind_nil {env : Env} : bindTgs [] [] env = some env := rfl
theorem wipe_nil {env : Env} : wipeE env [] = env := rfl
theorem wipe_cons {env : Env} {i : Nat} {is : List Nat} : wipeE env (i :: is) = (wipeE env is).set i none := rfl
theorem rng_len {n : Int} : (rngD n).length = n.toNat := by
  unfold rngD
  rw [List.length_map, List.length_range]
theorem rng_get {n : Int} {i : Nat} {x : D} (h : (rngD n)[i]? = some x) : x = .int (i : Nat) ∧ (i : Int) < n := by
  unfold rngD at h
  rw [List.getElem?_map] at h
  obtain ⟨j, h1, h2⟩ := Option.map_eq_some_iff.mp h
  have := (List.getElem?_eq_some_iff.mp h1)
  obtain ⟨hl, he⟩ := this
  rw [List.getElem_range] at he
  rw [List.length_range] at hl
  subst he
  exact ⟨h2.symm, by omega⟩
theorem rng_mem {n : Int} {x : D} (h : x ∈ rngD n) : ∃ i : Nat, x = .int (i : Nat) ∧ (i : Int) < n := by
  obtain ⟨i, hi⟩ := List.getElem?_of_mem h
  exact ⟨i, rng_get hi⟩
theorem okRng_i {n : Int} (h0 : 0 ≤ n) (h : n ≤ 16000000) : okRng n = true := by
  unfold okRng
  rw [decide_eq_true (by omega), decide_eq_true h]
  rfl
theorem size16 : sizeLine = 16777216 := by decide
end Mini
/-! PureC: kinds, as the package looks at them. -/
namespace Mini
open PySem L2
def isW (lo hi : Int) : D → Bool
  | .int i => decide (lo ≤ i) && decide (i ≤ hi)
  | _ => false
def isM (many : Int) : D → Bool
  | .tup xs => ((xs.length : Int) == many) && xs.all (isW 0 (many - 1))
  | _ => false
def isY (many : Int) : D → Bool
  | .tup [a, b, c, d] => isW 0 (many - 1) a && isW 0 (many - 1) b && isM many c && isM many d
  | _ => false
def isO (many : Int) : D → Bool
  | .tup xs => decide ((xs.length : Int) ≤ 3) && xs.all (isY many)
  | _ => false
def isK : D → Bool
  | .tup xs => decide ((1 : Int) ≤ xs.length) && decide ((xs.length : Int) ≤ 6) && xs.all (isO xs.length)
  | _ => false
section
variable {P : Nat → Option FDef} {f g w wm n m : Nat} {d : D} {lo hi many : Int} {S : Store}
theorem sp_is_within (h : P f = some d_is_within) (hd : D.ok m d = true) : run P (n + 1) f [d, .int lo, .int hi] S = .ok (.fz (.bl (isW lo hi d))) S := by
  refine eq_of_ok (ok_run h rfl ?_)
  show Ok (execSs _ (.cons _ .nil) [some (.fz d), some (.fz (.int lo)), some (.fz (.int hi))] S) _
  rw [s_ret]
  cases d <;> first | (cases hd; done) | skip
  all_goals simp only [ok_newc, upt_tup, upt_lst, frm_tup, frm_lst, rev_tup, rev_lst, trg_i, s_nil, s_ret, s_rtv, s_set, s_unp, s_par, s_app, s_expr, s_frz, cont_nx, cont_ret, fin_ret, fin_nx, frz_nil, frz_two, frz_succ, frz_z, frz_zn, List.getElem?_cons_zero, List.getElem?_cons_succ, setAll_cons, setAll_nil, e_var, e_cst, e_bin, e_neg, e_cmp, e_chn, e_isc, e_and, e_or, e_not, e_ite, e_tup, e_lst, e_newc, e_idx, e_from, e_upto, e_rev, e_call, e_blt, e_mth, e_trng, e_comp, es_nil, es_cons, rs_nil, rs_cons, vs_nil, vs_cons, c_no, c_yes, it_val, it_rng, it_enum, it_zip, c_F, f_F, items_tup, items_lst, rng_i, ok_noX, bind_nm, bind_tp, bind_cons, bind_nil, wipe_nil, wipe_cons, ok_bnd, ok_ret, ok_opt, ok_ask, ok_ite, ok_asB, ok_stk, oko_some, oko_none, oko_map, oko_if, boolO_bl, rd_succ, rd_fz, rd_ow, d_fz, d_ow, ow_succ, ow_zero, List.set_cons_zero, List.set_cons_succ, bin_add, bin_sub, bin_mul, bin_fdiv, bin_mod, bin_pow, add_ii, add_ll, add_tt, sub_ii, mul_ii, fdiv_ii, mod_ii, pow_ii, neg_i, eqD_ii, eqD_bb, cmp_eq, cmp_ne, cmp_lt, cmp_le, cmp_gt, cmp_ge, isc_nn, isc_bb, isc_in, isc_tn, isc_ln, blt_len_scr, blt_len_tup, blt_len_lst, blt_tuple_lst, blt_tuple_tup, blt_list_lst, blt_list_tup, blt_all, blt_any, blt_max2, blt_min2, blt_int_b, blt_int_i, blt_repr, blt_isi, ix_tup, ix_lst, ix_scr, ty_one, ty_non_int, ty_non_bool, ty_non_str, ty_non_tuple, ty_non_list, ty_bl_int, ty_bl_bool, ty_bl_str, ty_bl_tuple, ty_bl_list, ty_int_int, ty_int_bool, ty_int_str, ty_int_tuple, ty_int_list, ty_str_int, ty_str_bool, ty_str_str, ty_str_tuple, ty_str_list, ty_tup_int, ty_tup_bool, ty_tup_str, ty_tup_tuple, ty_tup_list, ty_lst_int, ty_lst_bool, ty_lst_str, ty_lst_tuple, ty_lst_list, decide_eq_true_eq, Bool.not_true, Bool.not_false, if_true, if_false, ite_true, ite_false, Bool.false_eq_true, Bool.true_eq_false, Option.map_some, true_and, and_true, reduceCtorEq, List.length_cons, List.length_nil]
  all_goals first | exact ⟨rfl, rfl⟩ | rfl | skip
  rename_i i
  by_cases h1 : lo ≤ i <;> by_cases h2 : i ≤ hi <;> simp [h1, h2, fin, isW]
theorem sp_is_map (h : P f = some (d_is_map w)) (hw : P w = some d_is_within) (hd : D.ok m d = true) (hm : m ≤ sizeLine) : run P (n + 2) f [d, .int many] S = .ok (.fz (.bl (isM many d))) S := by
  refine eq_of_ok (ok_run h rfl ?_)
  show Ok (execSs _ (.cons _ .nil) [some (.fz d), some (.fz (.int many)), none] S) _
  rw [s_ret]
  cases d <;> first | (cases hd; done) | skip
  all_goals simp only [ok_newc, upt_tup, upt_lst, frm_tup, frm_lst, rev_tup, rev_lst, trg_i, s_nil, s_ret, s_rtv, s_set, s_unp, s_par, s_app, s_expr, s_frz, cont_nx, cont_ret, fin_ret, fin_nx, frz_nil, frz_two, frz_succ, frz_z, frz_zn, List.getElem?_cons_zero, List.getElem?_cons_succ, setAll_cons, setAll_nil, e_var, e_cst, e_bin, e_neg, e_cmp, e_chn, e_isc, e_and, e_or, e_not, e_ite, e_tup, e_lst, e_newc, e_idx, e_from, e_upto, e_rev, e_call, e_blt, e_mth, e_trng, e_comp, es_nil, es_cons, rs_nil, rs_cons, vs_nil, vs_cons, c_no, c_yes, it_val, it_rng, it_enum, it_zip, c_F, f_F, items_tup, items_lst, rng_i, ok_noX, bind_nm, bind_tp, bind_cons, bind_nil, wipe_nil, wipe_cons, ok_bnd, ok_ret, ok_opt, ok_ask, ok_ite, ok_asB, ok_stk, oko_some, oko_none, oko_map, oko_if, boolO_bl, rd_succ, rd_fz, rd_ow, d_fz, d_ow, ow_succ, ow_zero, List.set_cons_zero, List.set_cons_succ, bin_add, bin_sub, bin_mul, bin_fdiv, bin_mod, bin_pow, add_ii, add_ll, add_tt, sub_ii, mul_ii, fdiv_ii, mod_ii, pow_ii, neg_i, eqD_ii, eqD_bb, cmp_eq, cmp_ne, cmp_lt, cmp_le, cmp_gt, cmp_ge, isc_nn, isc_bb, isc_in, isc_tn, isc_ln, blt_len_scr, blt_len_tup, blt_len_lst, blt_tuple_lst, blt_tuple_tup, blt_list_lst, blt_list_tup, blt_all, blt_any, blt_max2, blt_min2, blt_int_b, blt_int_i, blt_repr, blt_isi, ix_tup, ix_lst, ix_scr, ty_one, ty_non_int, ty_non_bool, ty_non_str, ty_non_tuple, ty_non_list, ty_bl_int, ty_bl_bool, ty_bl_str, ty_bl_tuple, ty_bl_list, ty_int_int, ty_int_bool, ty_int_str, ty_int_tuple, ty_int_list, ty_str_int, ty_str_bool, ty_str_str, ty_str_tuple, ty_str_list, ty_tup_int, ty_tup_bool, ty_tup_str, ty_tup_tuple, ty_tup_list, ty_lst_int, ty_lst_bool, ty_lst_str, ty_lst_tuple, ty_lst_list, decide_eq_true_eq, Bool.not_true, Bool.not_false, if_true, if_false, ite_true, ite_false, Bool.false_eq_true, Bool.true_eq_false, Option.map_some, true_and, and_true, reduceCtorEq, List.length_cons, List.length_nil]
  all_goals first | exact ⟨rfl, rfl⟩ | rfl | skip
  rename_i xs
  obtain ⟨h1, h2⟩ := ok_tup.mp hd
  by_cases hl : ((xs.length : Int) == many) = true
  · simp only [hl, if_true]
    refine ok_of (comp_map (g := fun x => D.bl (isW 0 (many - 1) x)) (by omega) fun x hx => ?_) ?_
    · refine eq_of_ok ?_
      simp only [ok_newc, upt_tup, upt_lst, frm_tup, frm_lst, rev_tup, rev_lst, trg_i, s_nil, s_ret, s_rtv, s_set, s_unp, s_par, s_app, s_expr, s_frz, cont_nx, cont_ret, fin_ret, fin_nx, frz_nil, frz_two, frz_succ, frz_z, frz_zn, List.getElem?_cons_zero, List.getElem?_cons_succ, setAll_cons, setAll_nil, e_var, e_cst, e_bin, e_neg, e_cmp, e_chn, e_isc, e_and, e_or, e_not, e_ite, e_tup, e_lst, e_newc, e_idx, e_from, e_upto, e_rev, e_call, e_blt, e_mth, e_trng, e_comp, es_nil, es_cons, rs_nil, rs_cons, vs_nil, vs_cons, c_no, c_yes, it_val, it_rng, it_enum, it_zip, c_F, f_F, items_tup, items_lst, rng_i, ok_noX, bind_nm, bind_tp, bind_cons, bind_nil, wipe_nil, wipe_cons, ok_bnd, ok_ret, ok_opt, ok_ask, ok_ite, ok_asB, ok_stk, oko_some, oko_none, oko_map, oko_if, boolO_bl, rd_succ, rd_fz, rd_ow, d_fz, d_ow, ow_succ, ow_zero, List.set_cons_zero, List.set_cons_succ, bin_add, bin_sub, bin_mul, bin_fdiv, bin_mod, bin_pow, add_ii, add_ll, add_tt, sub_ii, mul_ii, fdiv_ii, mod_ii, pow_ii, neg_i, eqD_ii, eqD_bb, cmp_eq, cmp_ne, cmp_lt, cmp_le, cmp_gt, cmp_ge, isc_nn, isc_bb, isc_in, isc_tn, isc_ln, blt_len_scr, blt_len_tup, blt_len_lst, blt_tuple_lst, blt_tuple_tup, blt_list_lst, blt_list_tup, blt_all, blt_any, blt_max2, blt_min2, blt_int_b, blt_int_i, blt_repr, blt_isi, ix_tup, ix_lst, ix_scr, ty_one, ty_non_int, ty_non_bool, ty_non_str, ty_non_tuple, ty_non_list, ty_bl_int, ty_bl_bool, ty_bl_str, ty_bl_tuple, ty_bl_list, ty_int_int, ty_int_bool, ty_int_str, ty_int_tuple, ty_int_list, ty_str_int, ty_str_bool, ty_str_str, ty_str_tuple, ty_str_list, ty_tup_int, ty_tup_bool, ty_tup_str, ty_tup_tuple, ty_tup_list, ty_lst_int, ty_lst_bool, ty_lst_str, ty_lst_tuple, ty_lst_list, decide_eq_true_eq, Bool.not_true, Bool.not_false, if_true, if_false, ite_true, ite_false, Bool.false_eq_true, Bool.true_eq_false, Option.map_some, true_and, and_true, reduceCtorEq, List.length_cons, List.length_nil]
      refine ok_of (sp_is_within hw (h2 x hx)) ?_
      simp only [ok_newc, upt_tup, upt_lst, frm_tup, frm_lst, rev_tup, rev_lst, trg_i, s_nil, s_ret, s_rtv, s_set, s_unp, s_par, s_app, s_expr, s_frz, cont_nx, cont_ret, fin_ret, fin_nx, frz_nil, frz_two, frz_succ, frz_z, frz_zn, List.getElem?_cons_zero, List.getElem?_cons_succ, setAll_cons, setAll_nil, e_var, e_cst, e_bin, e_neg, e_cmp, e_chn, e_isc, e_and, e_or, e_not, e_ite, e_tup, e_lst, e_newc, e_idx, e_from, e_upto, e_rev, e_call, e_blt, e_mth, e_trng, e_comp, es_nil, es_cons, rs_nil, rs_cons, vs_nil, vs_cons, c_no, c_yes, it_val, it_rng, it_enum, it_zip, c_F, f_F, items_tup, items_lst, rng_i, ok_noX, bind_nm, bind_tp, bind_cons, bind_nil, wipe_nil, wipe_cons, ok_bnd, ok_ret, ok_opt, ok_ask, ok_ite, ok_asB, ok_stk, oko_some, oko_none, oko_map, oko_if, boolO_bl, rd_succ, rd_fz, rd_ow, d_fz, d_ow, ow_succ, ow_zero, List.set_cons_zero, List.set_cons_succ, bin_add, bin_sub, bin_mul, bin_fdiv, bin_mod, bin_pow, add_ii, add_ll, add_tt, sub_ii, mul_ii, fdiv_ii, mod_ii, pow_ii, neg_i, eqD_ii, eqD_bb, cmp_eq, cmp_ne, cmp_lt, cmp_le, cmp_gt, cmp_ge, isc_nn, isc_bb, isc_in, isc_tn, isc_ln, blt_len_scr, blt_len_tup, blt_len_lst, blt_tuple_lst, blt_tuple_tup, blt_list_lst, blt_list_tup, blt_all, blt_any, blt_max2, blt_min2, blt_int_b, blt_int_i, blt_repr, blt_isi, ix_tup, ix_lst, ix_scr, ty_one, ty_non_int, ty_non_bool, ty_non_str, ty_non_tuple, ty_non_list, ty_bl_int, ty_bl_bool, ty_bl_str, ty_bl_tuple, ty_bl_list, ty_int_int, ty_int_bool, ty_int_str, ty_int_tuple, ty_int_list, ty_str_int, ty_str_bool, ty_str_str, ty_str_tuple, ty_str_list, ty_tup_int, ty_tup_bool, ty_tup_str, ty_tup_tuple, ty_tup_list, ty_lst_int, ty_lst_bool, ty_lst_str, ty_lst_tuple, ty_lst_list, decide_eq_true_eq, Bool.not_true, Bool.not_false, if_true, if_false, ite_true, ite_false, Bool.false_eq_true, Bool.true_eq_false, Option.map_some, true_and, and_true, reduceCtorEq, List.length_cons, List.length_nil]
    · simp only [ok_newc, upt_tup, upt_lst, frm_tup, frm_lst, rev_tup, rev_lst, trg_i, s_nil, s_ret, s_rtv, s_set, s_unp, s_par, s_app, s_expr, s_frz, cont_nx, cont_ret, fin_ret, fin_nx, frz_nil, frz_two, frz_succ, frz_z, frz_zn, List.getElem?_cons_zero, List.getElem?_cons_succ, setAll_cons, setAll_nil, e_var, e_cst, e_bin, e_neg, e_cmp, e_chn, e_isc, e_and, e_or, e_not, e_ite, e_tup, e_lst, e_newc, e_idx, e_from, e_upto, e_rev, e_call, e_blt, e_mth, e_trng, e_comp, es_nil, es_cons, rs_nil, rs_cons, vs_nil, vs_cons, c_no, c_yes, it_val, it_rng, it_enum, it_zip, c_F, f_F, items_tup, items_lst, rng_i, ok_noX, bind_nm, bind_tp, bind_cons, bind_nil, wipe_nil, wipe_cons, ok_bnd, ok_ret, ok_opt, ok_ask, ok_ite, ok_asB, ok_stk, oko_some, oko_none, oko_map, oko_if, boolO_bl, rd_succ, rd_fz, rd_ow, d_fz, d_ow, ow_succ, ow_zero, List.set_cons_zero, List.set_cons_succ, bin_add, bin_sub, bin_mul, bin_fdiv, bin_mod, bin_pow, add_ii, add_ll, add_tt, sub_ii, mul_ii, fdiv_ii, mod_ii, pow_ii, neg_i, eqD_ii, eqD_bb, cmp_eq, cmp_ne, cmp_lt, cmp_le, cmp_gt, cmp_ge, isc_nn, isc_bb, isc_in, isc_tn, isc_ln, blt_len_scr, blt_len_tup, blt_len_lst, blt_tuple_lst, blt_tuple_tup, blt_list_lst, blt_list_tup, blt_all, blt_any, blt_max2, blt_min2, blt_int_b, blt_int_i, blt_repr, blt_isi, ix_tup, ix_lst, ix_scr, ty_one, ty_non_int, ty_non_bool, ty_non_str, ty_non_tuple, ty_non_list, ty_bl_int, ty_bl_bool, ty_bl_str, ty_bl_tuple, ty_bl_list, ty_int_int, ty_int_bool, ty_int_str, ty_int_tuple, ty_int_list, ty_str_int, ty_str_bool, ty_str_str, ty_str_tuple, ty_str_list, ty_tup_int, ty_tup_bool, ty_tup_str, ty_tup_tuple, ty_tup_list, ty_lst_int, ty_lst_bool, ty_lst_str, ty_lst_tuple, ty_lst_list, decide_eq_true_eq, Bool.not_true, Bool.not_false, if_true, if_false, ite_true, ite_false, Bool.false_eq_true, Bool.true_eq_false, Option.map_some, true_and, and_true, reduceCtorEq, List.length_cons, List.length_nil, boolsD_map', all_id]
      simp [fin, isM, hl]
  · simp only [hl]
    simp [fin, isM, hl]
theorem tup4 {xs : List D} (h : (xs.length : Int) = 4) : ∃ a b c e, xs = [a, b, c, e] := by
  match xs, h with
  | [a, b, c, e], _ => exact ⟨a, b, c, e, rfl⟩
  | [], h => simp at h
  | [_], h => simp at h
  | [_, _], h => simp at h
  | [_, _, _], h => simp at h
  | _ :: _ :: _ :: _ :: _ :: xs, h => simp at h; omega
theorem isY_no {many : Int} {xs : List D} (h : (xs.length : Int) ≠ 4) : isY many (.tup xs) = false := by
  match xs, h with
  | [a, b, c, e], h => exact absurd rfl h
  | [], _ => rfl
  | [_], _ => rfl
  | [_, _], _ => rfl
  | [_, _, _], _ => rfl
  | _ :: _ :: _ :: _ :: _ :: xs, _ => rfl
theorem sp_is_way (h : P f = some (d_is_way (c_is_within := w) (c_is_map := wm))) (hw : P w = some d_is_within) (hwm : P wm = some (d_is_map w)) (hd : D.ok m d = true) (hm : m ≤ sizeLine) : run P (n + 3) f [d, .int many] S = .ok (.fz (.bl (isY many d))) S := by
  refine eq_of_ok (ok_run h rfl ?_)
  show Ok (execSs _ (.cons (.ite _ _ _) _) [some (.fz d), some (.fz (.int many))] S) _
  rw [s_ite]
  cases d <;> first | (cases hd; done) | skip
  all_goals simp only [ok_newc, upt_tup, upt_lst, frm_tup, frm_lst, rev_tup, rev_lst, trg_i, s_nil, s_ret, s_rtv, s_set, s_unp, s_par, s_app, s_expr, s_frz, cont_nx, cont_ret, fin_ret, fin_nx, frz_nil, frz_two, frz_succ, frz_z, frz_zn, List.getElem?_cons_zero, List.getElem?_cons_succ, setAll_cons, setAll_nil, e_var, e_cst, e_bin, e_neg, e_cmp, e_chn, e_isc, e_and, e_or, e_not, e_ite, e_tup, e_lst, e_newc, e_idx, e_from, e_upto, e_rev, e_call, e_blt, e_mth, e_trng, e_comp, es_nil, es_cons, rs_nil, rs_cons, vs_nil, vs_cons, c_no, c_yes, it_val, it_rng, it_enum, it_zip, c_F, f_F, items_tup, items_lst, rng_i, ok_noX, bind_nm, bind_tp, bind_cons, bind_nil, wipe_nil, wipe_cons, ok_bnd, ok_ret, ok_opt, ok_ask, ok_ite, ok_asB, ok_stk, oko_some, oko_none, oko_map, oko_if, boolO_bl, rd_succ, rd_fz, rd_ow, d_fz, d_ow, ow_succ, ow_zero, List.set_cons_zero, List.set_cons_succ, bin_add, bin_sub, bin_mul, bin_fdiv, bin_mod, bin_pow, add_ii, add_ll, add_tt, sub_ii, mul_ii, fdiv_ii, mod_ii, pow_ii, neg_i, eqD_ii, eqD_bb, cmp_eq, cmp_ne, cmp_lt, cmp_le, cmp_gt, cmp_ge, isc_nn, isc_bb, isc_in, isc_tn, isc_ln, blt_len_scr, blt_len_tup, blt_len_lst, blt_tuple_lst, blt_tuple_tup, blt_list_lst, blt_list_tup, blt_all, blt_any, blt_max2, blt_min2, blt_int_b, blt_int_i, blt_repr, blt_isi, ix_tup, ix_lst, ix_scr, ty_one, ty_non_int, ty_non_bool, ty_non_str, ty_non_tuple, ty_non_list, ty_bl_int, ty_bl_bool, ty_bl_str, ty_bl_tuple, ty_bl_list, ty_int_int, ty_int_bool, ty_int_str, ty_int_tuple, ty_int_list, ty_str_int, ty_str_bool, ty_str_str, ty_str_tuple, ty_str_list, ty_tup_int, ty_tup_bool, ty_tup_str, ty_tup_tuple, ty_tup_list, ty_lst_int, ty_lst_bool, ty_lst_str, ty_lst_tuple, ty_lst_list, decide_eq_true_eq, Bool.not_true, Bool.not_false, if_true, if_false, ite_true, ite_false, Bool.false_eq_true, Bool.true_eq_false, Option.map_some, true_and, and_true, reduceCtorEq, List.length_cons, List.length_nil]
  all_goals first | exact ⟨rfl, rfl⟩ | rfl | skip
  rename_i xs
  obtain ⟨h1, h2⟩ := ok_tup.mp hd
  by_cases hl : (xs.length : Int) = 4
  · obtain ⟨a, b, c, e, rfl⟩ := tup4 hl
    have oa := h2 a (by simp)
    have ob := h2 b (by simp)
    have oc := h2 c (by simp)
    have oe := h2 e (by simp)
    simp only [ok_newc, upt_tup, upt_lst, frm_tup, frm_lst, rev_tup, rev_lst, trg_i, s_nil, s_ret, s_rtv, s_set, s_unp, s_par, s_app, s_expr, s_frz, cont_nx, cont_ret, fin_ret, fin_nx, frz_nil, frz_two, frz_succ, frz_z, frz_zn, List.getElem?_cons_zero, List.getElem?_cons_succ, setAll_cons, setAll_nil, e_var, e_cst, e_bin, e_neg, e_cmp, e_chn, e_isc, e_and, e_or, e_not, e_ite, e_tup, e_lst, e_newc, e_idx, e_from, e_upto, e_rev, e_call, e_blt, e_mth, e_trng, e_comp, es_nil, es_cons, rs_nil, rs_cons, vs_nil, vs_cons, c_no, c_yes, it_val, it_rng, it_enum, it_zip, c_F, f_F, items_tup, items_lst, rng_i, ok_noX, bind_nm, bind_tp, bind_cons, bind_nil, wipe_nil, wipe_cons, ok_bnd, ok_ret, ok_opt, ok_ask, ok_ite, ok_asB, ok_stk, oko_some, oko_none, oko_map, oko_if, boolO_bl, rd_succ, rd_fz, rd_ow, d_fz, d_ow, ow_succ, ow_zero, List.set_cons_zero, List.set_cons_succ, bin_add, bin_sub, bin_mul, bin_fdiv, bin_mod, bin_pow, add_ii, add_ll, add_tt, sub_ii, mul_ii, fdiv_ii, mod_ii, pow_ii, neg_i, eqD_ii, eqD_bb, cmp_eq, cmp_ne, cmp_lt, cmp_le, cmp_gt, cmp_ge, isc_nn, isc_bb, isc_in, isc_tn, isc_ln, blt_len_scr, blt_len_tup, blt_len_lst, blt_tuple_lst, blt_tuple_tup, blt_list_lst, blt_list_tup, blt_all, blt_any, blt_max2, blt_min2, blt_int_b, blt_int_i, blt_repr, blt_isi, ix_tup, ix_lst, ix_scr, ty_one, ty_non_int, ty_non_bool, ty_non_str, ty_non_tuple, ty_non_list, ty_bl_int, ty_bl_bool, ty_bl_str, ty_bl_tuple, ty_bl_list, ty_int_int, ty_int_bool, ty_int_str, ty_int_tuple, ty_int_list, ty_str_int, ty_str_bool, ty_str_str, ty_str_tuple, ty_str_list, ty_tup_int, ty_tup_bool, ty_tup_str, ty_tup_tuple, ty_tup_list, ty_lst_int, ty_lst_bool, ty_lst_str, ty_lst_tuple, ty_lst_list, decide_eq_true_eq, Bool.not_true, Bool.not_false, if_true, if_false, ite_true, ite_false, Bool.false_eq_true, Bool.true_eq_false, Option.map_some, true_and, and_true, reduceCtorEq, List.length_cons, List.length_nil, show (((0 + 1 + 1 + 1 + 1 : Nat) : Int) == 4) = true from rfl]
    rw [s_ite]
    simp only [ok_newc, upt_tup, upt_lst, frm_tup, frm_lst, rev_tup, rev_lst, trg_i, s_nil, s_ret, s_rtv, s_set, s_unp, s_par, s_app, s_expr, s_frz, cont_nx, cont_ret, fin_ret, fin_nx, frz_nil, frz_two, frz_succ, frz_z, frz_zn, List.getElem?_cons_zero, List.getElem?_cons_succ, setAll_cons, setAll_nil, e_var, e_cst, e_bin, e_neg, e_cmp, e_chn, e_isc, e_and, e_or, e_not, e_ite, e_tup, e_lst, e_newc, e_idx, e_from, e_upto, e_rev, e_call, e_blt, e_mth, e_trng, e_comp, es_nil, es_cons, rs_nil, rs_cons, vs_nil, vs_cons, c_no, c_yes, it_val, it_rng, it_enum, it_zip, c_F, f_F, items_tup, items_lst, rng_i, ok_noX, bind_nm, bind_tp, bind_cons, bind_nil, wipe_nil, wipe_cons, ok_bnd, ok_ret, ok_opt, ok_ask, ok_ite, ok_asB, ok_stk, oko_some, oko_none, oko_map, oko_if, boolO_bl, rd_succ, rd_fz, rd_ow, d_fz, d_ow, ow_succ, ow_zero, List.set_cons_zero, List.set_cons_succ, bin_add, bin_sub, bin_mul, bin_fdiv, bin_mod, bin_pow, add_ii, add_ll, add_tt, sub_ii, mul_ii, fdiv_ii, mod_ii, pow_ii, neg_i, eqD_ii, eqD_bb, cmp_eq, cmp_ne, cmp_lt, cmp_le, cmp_gt, cmp_ge, isc_nn, isc_bb, isc_in, isc_tn, isc_ln, blt_len_scr, blt_len_tup, blt_len_lst, blt_tuple_lst, blt_tuple_tup, blt_list_lst, blt_list_tup, blt_all, blt_any, blt_max2, blt_min2, blt_int_b, blt_int_i, blt_repr, blt_isi, ix_tup, ix_lst, ix_scr, ty_one, ty_non_int, ty_non_bool, ty_non_str, ty_non_tuple, ty_non_list, ty_bl_int, ty_bl_bool, ty_bl_str, ty_bl_tuple, ty_bl_list, ty_int_int, ty_int_bool, ty_int_str, ty_int_tuple, ty_int_list, ty_str_int, ty_str_bool, ty_str_str, ty_str_tuple, ty_str_list, ty_tup_int, ty_tup_bool, ty_tup_str, ty_tup_tuple, ty_tup_list, ty_lst_int, ty_lst_bool, ty_lst_str, ty_lst_tuple, ty_lst_list, decide_eq_true_eq, Bool.not_true, Bool.not_false, if_true, if_false, ite_true, ite_false, Bool.false_eq_true, Bool.true_eq_false, Option.map_some, true_and, and_true, reduceCtorEq, List.length_cons, List.length_nil, show atI [a, b, c, e] 0 = some a from rfl, show atI [a, b, c, e] 1 = some b from rfl, show atI [a, b, c, e] 2 = some c from rfl, show atI [a, b, c, e] 3 = some e from rfl]
    refine ok_of (sp_is_within hw oa) ?_
    simp only [ok_newc, upt_tup, upt_lst, frm_tup, frm_lst, rev_tup, rev_lst, trg_i, s_nil, s_ret, s_rtv, s_set, s_unp, s_par, s_app, s_expr, s_frz, cont_nx, cont_ret, fin_ret, fin_nx, frz_nil, frz_two, frz_succ, frz_z, frz_zn, List.getElem?_cons_zero, List.getElem?_cons_succ, setAll_cons, setAll_nil, e_var, e_cst, e_bin, e_neg, e_cmp, e_chn, e_isc, e_and, e_or, e_not, e_ite, e_tup, e_lst, e_newc, e_idx, e_from, e_upto, e_rev, e_call, e_blt, e_mth, e_trng, e_comp, es_nil, es_cons, rs_nil, rs_cons, vs_nil, vs_cons, c_no, c_yes, it_val, it_rng, it_enum, it_zip, c_F, f_F, items_tup, items_lst, rng_i, ok_noX, bind_nm, bind_tp, bind_cons, bind_nil, wipe_nil, wipe_cons, ok_bnd, ok_ret, ok_opt, ok_ask, ok_ite, ok_asB, ok_stk, oko_some, oko_none, oko_map, oko_if, boolO_bl, rd_succ, rd_fz, rd_ow, d_fz, d_ow, ow_succ, ow_zero, List.set_cons_zero, List.set_cons_succ, bin_add, bin_sub, bin_mul, bin_fdiv, bin_mod, bin_pow, add_ii, add_ll, add_tt, sub_ii, mul_ii, fdiv_ii, mod_ii, pow_ii, neg_i, eqD_ii, eqD_bb, cmp_eq, cmp_ne, cmp_lt, cmp_le, cmp_gt, cmp_ge, isc_nn, isc_bb, isc_in, isc_tn, isc_ln, blt_len_scr, blt_len_tup, blt_len_lst, blt_tuple_lst, blt_tuple_tup, blt_list_lst, blt_list_tup, blt_all, blt_any, blt_max2, blt_min2, blt_int_b, blt_int_i, blt_repr, blt_isi, ix_tup, ix_lst, ix_scr, ty_one, ty_non_int, ty_non_bool, ty_non_str, ty_non_tuple, ty_non_list, ty_bl_int, ty_bl_bool, ty_bl_str, ty_bl_tuple, ty_bl_list, ty_int_int, ty_int_bool, ty_int_str, ty_int_tuple, ty_int_list, ty_str_int, ty_str_bool, ty_str_str, ty_str_tuple, ty_str_list, ty_tup_int, ty_tup_bool, ty_tup_str, ty_tup_tuple, ty_tup_list, ty_lst_int, ty_lst_bool, ty_lst_str, ty_lst_tuple, ty_lst_list, decide_eq_true_eq, Bool.not_true, Bool.not_false, if_true, if_false, ite_true, ite_false, Bool.false_eq_true, Bool.true_eq_false, Option.map_some, true_and, and_true, reduceCtorEq, List.length_cons, List.length_nil]
    cases ha : isW 0 (many - 1) a
    · simp [ok_newc, upt_tup, upt_lst, frm_tup, frm_lst, rev_tup, rev_lst, trg_i, s_nil, s_ret, s_rtv, s_set, s_unp, s_par, s_app, s_expr, s_frz, cont_nx, cont_ret, fin_ret, fin_nx, frz_nil, frz_two, frz_succ, frz_z, frz_zn, List.getElem?_cons_zero, List.getElem?_cons_succ, setAll_cons, setAll_nil, e_var, e_cst, e_bin, e_neg, e_cmp, e_chn, e_isc, e_and, e_or, e_not, e_ite, e_tup, e_lst, e_newc, e_idx, e_from, e_upto, e_rev, e_call, e_blt, e_mth, e_trng, e_comp, es_nil, es_cons, rs_nil, rs_cons, vs_nil, vs_cons, c_no, c_yes, it_val, it_rng, it_enum, it_zip, c_F, f_F, items_tup, items_lst, rng_i, ok_noX, bind_nm, bind_tp, bind_cons, bind_nil, wipe_nil, wipe_cons, ok_bnd, ok_ret, ok_opt, ok_ask, ok_ite, ok_asB, ok_stk, oko_some, oko_none, oko_map, oko_if, boolO_bl, rd_succ, rd_fz, rd_ow, d_fz, d_ow, ow_succ, ow_zero, List.set_cons_zero, List.set_cons_succ, bin_add, bin_sub, bin_mul, bin_fdiv, bin_mod, bin_pow, add_ii, add_ll, add_tt, sub_ii, mul_ii, fdiv_ii, mod_ii, pow_ii, neg_i, eqD_ii, eqD_bb, cmp_eq, cmp_ne, cmp_lt, cmp_le, cmp_gt, cmp_ge, isc_nn, isc_bb, isc_in, isc_tn, isc_ln, blt_len_scr, blt_len_tup, blt_len_lst, blt_tuple_lst, blt_tuple_tup, blt_list_lst, blt_list_tup, blt_all, blt_any, blt_max2, blt_min2, blt_int_b, blt_int_i, blt_repr, blt_isi, ix_tup, ix_lst, ix_scr, ty_one, ty_non_int, ty_non_bool, ty_non_str, ty_non_tuple, ty_non_list, ty_bl_int, ty_bl_bool, ty_bl_str, ty_bl_tuple, ty_bl_list, ty_int_int, ty_int_bool, ty_int_str, ty_int_tuple, ty_int_list, ty_str_int, ty_str_bool, ty_str_str, ty_str_tuple, ty_str_list, ty_tup_int, ty_tup_bool, ty_tup_str, ty_tup_tuple, ty_tup_list, ty_lst_int, ty_lst_bool, ty_lst_str, ty_lst_tuple, ty_lst_list, decide_eq_true_eq, Bool.not_true, Bool.not_false, if_true, if_false, ite_true, ite_false, Bool.false_eq_true, Bool.true_eq_false, Option.map_some, true_and, and_true, reduceCtorEq, List.length_cons, List.length_nil, isY, ha]
    simp only [ok_newc, upt_tup, upt_lst, frm_tup, frm_lst, rev_tup, rev_lst, trg_i, s_nil, s_ret, s_rtv, s_set, s_unp, s_par, s_app, s_expr, s_frz, cont_nx, cont_ret, fin_ret, fin_nx, frz_nil, frz_two, frz_succ, frz_z, frz_zn, List.getElem?_cons_zero, List.getElem?_cons_succ, setAll_cons, setAll_nil, e_var, e_cst, e_bin, e_neg, e_cmp, e_chn, e_isc, e_and, e_or, e_not, e_ite, e_tup, e_lst, e_newc, e_idx, e_from, e_upto, e_rev, e_call, e_blt, e_mth, e_trng, e_comp, es_nil, es_cons, rs_nil, rs_cons, vs_nil, vs_cons, c_no, c_yes, it_val, it_rng, it_enum, it_zip, c_F, f_F, items_tup, items_lst, rng_i, ok_noX, bind_nm, bind_tp, bind_cons, bind_nil, wipe_nil, wipe_cons, ok_bnd, ok_ret, ok_opt, ok_ask, ok_ite, ok_asB, ok_stk, oko_some, oko_none, oko_map, oko_if, boolO_bl, rd_succ, rd_fz, rd_ow, d_fz, d_ow, ow_succ, ow_zero, List.set_cons_zero, List.set_cons_succ, bin_add, bin_sub, bin_mul, bin_fdiv, bin_mod, bin_pow, add_ii, add_ll, add_tt, sub_ii, mul_ii, fdiv_ii, mod_ii, pow_ii, neg_i, eqD_ii, eqD_bb, cmp_eq, cmp_ne, cmp_lt, cmp_le, cmp_gt, cmp_ge, isc_nn, isc_bb, isc_in, isc_tn, isc_ln, blt_len_scr, blt_len_tup, blt_len_lst, blt_tuple_lst, blt_tuple_tup, blt_list_lst, blt_list_tup, blt_all, blt_any, blt_max2, blt_min2, blt_int_b, blt_int_i, blt_repr, blt_isi, ix_tup, ix_lst, ix_scr, ty_one, ty_non_int, ty_non_bool, ty_non_str, ty_non_tuple, ty_non_list, ty_bl_int, ty_bl_bool, ty_bl_str, ty_bl_tuple, ty_bl_list, ty_int_int, ty_int_bool, ty_int_str, ty_int_tuple, ty_int_list, ty_str_int, ty_str_bool, ty_str_str, ty_str_tuple, ty_str_list, ty_tup_int, ty_tup_bool, ty_tup_str, ty_tup_tuple, ty_tup_list, ty_lst_int, ty_lst_bool, ty_lst_str, ty_lst_tuple, ty_lst_list, decide_eq_true_eq, Bool.not_true, Bool.not_false, if_true, if_false, ite_true, ite_false, Bool.false_eq_true, Bool.true_eq_false, Option.map_some, true_and, and_true, reduceCtorEq, List.length_cons, List.length_nil]
    refine ok_of (sp_is_within hw ob) ?_
    simp only [ok_newc, upt_tup, upt_lst, frm_tup, frm_lst, rev_tup, rev_lst, trg_i, s_nil, s_ret, s_rtv, s_set, s_unp, s_par, s_app, s_expr, s_frz, cont_nx, cont_ret, fin_ret, fin_nx, frz_nil, frz_two, frz_succ, frz_z, frz_zn, List.getElem?_cons_zero, List.getElem?_cons_succ, setAll_cons, setAll_nil, e_var, e_cst, e_bin, e_neg, e_cmp, e_chn, e_isc, e_and, e_or, e_not, e_ite, e_tup, e_lst, e_newc, e_idx, e_from, e_upto, e_rev, e_call, e_blt, e_mth, e_trng, e_comp, es_nil, es_cons, rs_nil, rs_cons, vs_nil, vs_cons, c_no, c_yes, it_val, it_rng, it_enum, it_zip, c_F, f_F, items_tup, items_lst, rng_i, ok_noX, bind_nm, bind_tp, bind_cons, bind_nil, wipe_nil, wipe_cons, ok_bnd, ok_ret, ok_opt, ok_ask, ok_ite, ok_asB, ok_stk, oko_some, oko_none, oko_map, oko_if, boolO_bl, rd_succ, rd_fz, rd_ow, d_fz, d_ow, ow_succ, ow_zero, List.set_cons_zero, List.set_cons_succ, bin_add, bin_sub, bin_mul, bin_fdiv, bin_mod, bin_pow, add_ii, add_ll, add_tt, sub_ii, mul_ii, fdiv_ii, mod_ii, pow_ii, neg_i, eqD_ii, eqD_bb, cmp_eq, cmp_ne, cmp_lt, cmp_le, cmp_gt, cmp_ge, isc_nn, isc_bb, isc_in, isc_tn, isc_ln, blt_len_scr, blt_len_tup, blt_len_lst, blt_tuple_lst, blt_tuple_tup, blt_list_lst, blt_list_tup, blt_all, blt_any, blt_max2, blt_min2, blt_int_b, blt_int_i, blt_repr, blt_isi, ix_tup, ix_lst, ix_scr, ty_one, ty_non_int, ty_non_bool, ty_non_str, ty_non_tuple, ty_non_list, ty_bl_int, ty_bl_bool, ty_bl_str, ty_bl_tuple, ty_bl_list, ty_int_int, ty_int_bool, ty_int_str, ty_int_tuple, ty_int_list, ty_str_int, ty_str_bool, ty_str_str, ty_str_tuple, ty_str_list, ty_tup_int, ty_tup_bool, ty_tup_str, ty_tup_tuple, ty_tup_list, ty_lst_int, ty_lst_bool, ty_lst_str, ty_lst_tuple, ty_lst_list, decide_eq_true_eq, Bool.not_true, Bool.not_false, if_true, if_false, ite_true, ite_false, Bool.false_eq_true, Bool.true_eq_false, Option.map_some, true_and, and_true, reduceCtorEq, List.length_cons, List.length_nil]
    cases hb : isW 0 (many - 1) b
    · simp [ok_newc, upt_tup, upt_lst, frm_tup, frm_lst, rev_tup, rev_lst, trg_i, s_nil, s_ret, s_rtv, s_set, s_unp, s_par, s_app, s_expr, s_frz, cont_nx, cont_ret, fin_ret, fin_nx, frz_nil, frz_two, frz_succ, frz_z, frz_zn, List.getElem?_cons_zero, List.getElem?_cons_succ, setAll_cons, setAll_nil, e_var, e_cst, e_bin, e_neg, e_cmp, e_chn, e_isc, e_and, e_or, e_not, e_ite, e_tup, e_lst, e_newc, e_idx, e_from, e_upto, e_rev, e_call, e_blt, e_mth, e_trng, e_comp, es_nil, es_cons, rs_nil, rs_cons, vs_nil, vs_cons, c_no, c_yes, it_val, it_rng, it_enum, it_zip, c_F, f_F, items_tup, items_lst, rng_i, ok_noX, bind_nm, bind_tp, bind_cons, bind_nil, wipe_nil, wipe_cons, ok_bnd, ok_ret, ok_opt, ok_ask, ok_ite, ok_asB, ok_stk, oko_some, oko_none, oko_map, oko_if, boolO_bl, rd_succ, rd_fz, rd_ow, d_fz, d_ow, ow_succ, ow_zero, List.set_cons_zero, List.set_cons_succ, bin_add, bin_sub, bin_mul, bin_fdiv, bin_mod, bin_pow, add_ii, add_ll, add_tt, sub_ii, mul_ii, fdiv_ii, mod_ii, pow_ii, neg_i, eqD_ii, eqD_bb, cmp_eq, cmp_ne, cmp_lt, cmp_le, cmp_gt, cmp_ge, isc_nn, isc_bb, isc_in, isc_tn, isc_ln, blt_len_scr, blt_len_tup, blt_len_lst, blt_tuple_lst, blt_tuple_tup, blt_list_lst, blt_list_tup, blt_all, blt_any, blt_max2, blt_min2, blt_int_b, blt_int_i, blt_repr, blt_isi, ix_tup, ix_lst, ix_scr, ty_one, ty_non_int, ty_non_bool, ty_non_str, ty_non_tuple, ty_non_list, ty_bl_int, ty_bl_bool, ty_bl_str, ty_bl_tuple, ty_bl_list, ty_int_int, ty_int_bool, ty_int_str, ty_int_tuple, ty_int_list, ty_str_int, ty_str_bool, ty_str_str, ty_str_tuple, ty_str_list, ty_tup_int, ty_tup_bool, ty_tup_str, ty_tup_tuple, ty_tup_list, ty_lst_int, ty_lst_bool, ty_lst_str, ty_lst_tuple, ty_lst_list, decide_eq_true_eq, Bool.not_true, Bool.not_false, if_true, if_false, ite_true, ite_false, Bool.false_eq_true, Bool.true_eq_false, Option.map_some, true_and, and_true, reduceCtorEq, List.length_cons, List.length_nil, isY, hb]
    simp only [ok_newc, upt_tup, upt_lst, frm_tup, frm_lst, rev_tup, rev_lst, trg_i, s_nil, s_ret, s_rtv, s_set, s_unp, s_par, s_app, s_expr, s_frz, cont_nx, cont_ret, fin_ret, fin_nx, frz_nil, frz_two, frz_succ, frz_z, frz_zn, List.getElem?_cons_zero, List.getElem?_cons_succ, setAll_cons, setAll_nil, e_var, e_cst, e_bin, e_neg, e_cmp, e_chn, e_isc, e_and, e_or, e_not, e_ite, e_tup, e_lst, e_newc, e_idx, e_from, e_upto, e_rev, e_call, e_blt, e_mth, e_trng, e_comp, es_nil, es_cons, rs_nil, rs_cons, vs_nil, vs_cons, c_no, c_yes, it_val, it_rng, it_enum, it_zip, c_F, f_F, items_tup, items_lst, rng_i, ok_noX, bind_nm, bind_tp, bind_cons, bind_nil, wipe_nil, wipe_cons, ok_bnd, ok_ret, ok_opt, ok_ask, ok_ite, ok_asB, ok_stk, oko_some, oko_none, oko_map, oko_if, boolO_bl, rd_succ, rd_fz, rd_ow, d_fz, d_ow, ow_succ, ow_zero, List.set_cons_zero, List.set_cons_succ, bin_add, bin_sub, bin_mul, bin_fdiv, bin_mod, bin_pow, add_ii, add_ll, add_tt, sub_ii, mul_ii, fdiv_ii, mod_ii, pow_ii, neg_i, eqD_ii, eqD_bb, cmp_eq, cmp_ne, cmp_lt, cmp_le, cmp_gt, cmp_ge, isc_nn, isc_bb, isc_in, isc_tn, isc_ln, blt_len_scr, blt_len_tup, blt_len_lst, blt_tuple_lst, blt_tuple_tup, blt_list_lst, blt_list_tup, blt_all, blt_any, blt_max2, blt_min2, blt_int_b, blt_int_i, blt_repr, blt_isi, ix_tup, ix_lst, ix_scr, ty_one, ty_non_int, ty_non_bool, ty_non_str, ty_non_tuple, ty_non_list, ty_bl_int, ty_bl_bool, ty_bl_str, ty_bl_tuple, ty_bl_list, ty_int_int, ty_int_bool, ty_int_str, ty_int_tuple, ty_int_list, ty_str_int, ty_str_bool, ty_str_str, ty_str_tuple, ty_str_list, ty_tup_int, ty_tup_bool, ty_tup_str, ty_tup_tuple, ty_tup_list, ty_lst_int, ty_lst_bool, ty_lst_str, ty_lst_tuple, ty_lst_list, decide_eq_true_eq, Bool.not_true, Bool.not_false, if_true, if_false, ite_true, ite_false, Bool.false_eq_true, Bool.true_eq_false, Option.map_some, true_and, and_true, reduceCtorEq, List.length_cons, List.length_nil]
    refine ok_of (sp_is_map hwm hw oc hm) ?_
    simp only [ok_newc, upt_tup, upt_lst, frm_tup, frm_lst, rev_tup, rev_lst, trg_i, s_nil, s_ret, s_rtv, s_set, s_unp, s_par, s_app, s_expr, s_frz, cont_nx, cont_ret, fin_ret, fin_nx, frz_nil, frz_two, frz_succ, frz_z, frz_zn, List.getElem?_cons_zero, List.getElem?_cons_succ, setAll_cons, setAll_nil, e_var, e_cst, e_bin, e_neg, e_cmp, e_chn, e_isc, e_and, e_or, e_not, e_ite, e_tup, e_lst, e_newc, e_idx, e_from, e_upto, e_rev, e_call, e_blt, e_mth, e_trng, e_comp, es_nil, es_cons, rs_nil, rs_cons, vs_nil, vs_cons, c_no, c_yes, it_val, it_rng, it_enum, it_zip, c_F, f_F, items_tup, items_lst, rng_i, ok_noX, bind_nm, bind_tp, bind_cons, bind_nil, wipe_nil, wipe_cons, ok_bnd, ok_ret, ok_opt, ok_ask, ok_ite, ok_asB, ok_stk, oko_some, oko_none, oko_map, oko_if, boolO_bl, rd_succ, rd_fz, rd_ow, d_fz, d_ow, ow_succ, ow_zero, List.set_cons_zero, List.set_cons_succ, bin_add, bin_sub, bin_mul, bin_fdiv, bin_mod, bin_pow, add_ii, add_ll, add_tt, sub_ii, mul_ii, fdiv_ii, mod_ii, pow_ii, neg_i, eqD_ii, eqD_bb, cmp_eq, cmp_ne, cmp_lt, cmp_le, cmp_gt, cmp_ge, isc_nn, isc_bb, isc_in, isc_tn, isc_ln, blt_len_scr, blt_len_tup, blt_len_lst, blt_tuple_lst, blt_tuple_tup, blt_list_lst, blt_list_tup, blt_all, blt_any, blt_max2, blt_min2, blt_int_b, blt_int_i, blt_repr, blt_isi, ix_tup, ix_lst, ix_scr, ty_one, ty_non_int, ty_non_bool, ty_non_str, ty_non_tuple, ty_non_list, ty_bl_int, ty_bl_bool, ty_bl_str, ty_bl_tuple, ty_bl_list, ty_int_int, ty_int_bool, ty_int_str, ty_int_tuple, ty_int_list, ty_str_int, ty_str_bool, ty_str_str, ty_str_tuple, ty_str_list, ty_tup_int, ty_tup_bool, ty_tup_str, ty_tup_tuple, ty_tup_list, ty_lst_int, ty_lst_bool, ty_lst_str, ty_lst_tuple, ty_lst_list, decide_eq_true_eq, Bool.not_true, Bool.not_false, if_true, if_false, ite_true, ite_false, Bool.false_eq_true, Bool.true_eq_false, Option.map_some, true_and, and_true, reduceCtorEq, List.length_cons, List.length_nil]
    cases hc : isM many c
    · simp [ok_newc, upt_tup, upt_lst, frm_tup, frm_lst, rev_tup, rev_lst, trg_i, s_nil, s_ret, s_rtv, s_set, s_unp, s_par, s_app, s_expr, s_frz, cont_nx, cont_ret, fin_ret, fin_nx, frz_nil, frz_two, frz_succ, frz_z, frz_zn, List.getElem?_cons_zero, List.getElem?_cons_succ, setAll_cons, setAll_nil, e_var, e_cst, e_bin, e_neg, e_cmp, e_chn, e_isc, e_and, e_or, e_not, e_ite, e_tup, e_lst, e_newc, e_idx, e_from, e_upto, e_rev, e_call, e_blt, e_mth, e_trng, e_comp, es_nil, es_cons, rs_nil, rs_cons, vs_nil, vs_cons, c_no, c_yes, it_val, it_rng, it_enum, it_zip, c_F, f_F, items_tup, items_lst, rng_i, ok_noX, bind_nm, bind_tp, bind_cons, bind_nil, wipe_nil, wipe_cons, ok_bnd, ok_ret, ok_opt, ok_ask, ok_ite, ok_asB, ok_stk, oko_some, oko_none, oko_map, oko_if, boolO_bl, rd_succ, rd_fz, rd_ow, d_fz, d_ow, ow_succ, ow_zero, List.set_cons_zero, List.set_cons_succ, bin_add, bin_sub, bin_mul, bin_fdiv, bin_mod, bin_pow, add_ii, add_ll, add_tt, sub_ii, mul_ii, fdiv_ii, mod_ii, pow_ii, neg_i, eqD_ii, eqD_bb, cmp_eq, cmp_ne, cmp_lt, cmp_le, cmp_gt, cmp_ge, isc_nn, isc_bb, isc_in, isc_tn, isc_ln, blt_len_scr, blt_len_tup, blt_len_lst, blt_tuple_lst, blt_tuple_tup, blt_list_lst, blt_list_tup, blt_all, blt_any, blt_max2, blt_min2, blt_int_b, blt_int_i, blt_repr, blt_isi, ix_tup, ix_lst, ix_scr, ty_one, ty_non_int, ty_non_bool, ty_non_str, ty_non_tuple, ty_non_list, ty_bl_int, ty_bl_bool, ty_bl_str, ty_bl_tuple, ty_bl_list, ty_int_int, ty_int_bool, ty_int_str, ty_int_tuple, ty_int_list, ty_str_int, ty_str_bool, ty_str_str, ty_str_tuple, ty_str_list, ty_tup_int, ty_tup_bool, ty_tup_str, ty_tup_tuple, ty_tup_list, ty_lst_int, ty_lst_bool, ty_lst_str, ty_lst_tuple, ty_lst_list, decide_eq_true_eq, Bool.not_true, Bool.not_false, if_true, if_false, ite_true, ite_false, Bool.false_eq_true, Bool.true_eq_false, Option.map_some, true_and, and_true, reduceCtorEq, List.length_cons, List.length_nil, isY, hc]
    simp only [ok_newc, upt_tup, upt_lst, frm_tup, frm_lst, rev_tup, rev_lst, trg_i, s_nil, s_ret, s_rtv, s_set, s_unp, s_par, s_app, s_expr, s_frz, cont_nx, cont_ret, fin_ret, fin_nx, frz_nil, frz_two, frz_succ, frz_z, frz_zn, List.getElem?_cons_zero, List.getElem?_cons_succ, setAll_cons, setAll_nil, e_var, e_cst, e_bin, e_neg, e_cmp, e_chn, e_isc, e_and, e_or, e_not, e_ite, e_tup, e_lst, e_newc, e_idx, e_from, e_upto, e_rev, e_call, e_blt, e_mth, e_trng, e_comp, es_nil, es_cons, rs_nil, rs_cons, vs_nil, vs_cons, c_no, c_yes, it_val, it_rng, it_enum, it_zip, c_F, f_F, items_tup, items_lst, rng_i, ok_noX, bind_nm, bind_tp, bind_cons, bind_nil, wipe_nil, wipe_cons, ok_bnd, ok_ret, ok_opt, ok_ask, ok_ite, ok_asB, ok_stk, oko_some, oko_none, oko_map, oko_if, boolO_bl, rd_succ, rd_fz, rd_ow, d_fz, d_ow, ow_succ, ow_zero, List.set_cons_zero, List.set_cons_succ, bin_add, bin_sub, bin_mul, bin_fdiv, bin_mod, bin_pow, add_ii, add_ll, add_tt, sub_ii, mul_ii, fdiv_ii, mod_ii, pow_ii, neg_i, eqD_ii, eqD_bb, cmp_eq, cmp_ne, cmp_lt, cmp_le, cmp_gt, cmp_ge, isc_nn, isc_bb, isc_in, isc_tn, isc_ln, blt_len_scr, blt_len_tup, blt_len_lst, blt_tuple_lst, blt_tuple_tup, blt_list_lst, blt_list_tup, blt_all, blt_any, blt_max2, blt_min2, blt_int_b, blt_int_i, blt_repr, blt_isi, ix_tup, ix_lst, ix_scr, ty_one, ty_non_int, ty_non_bool, ty_non_str, ty_non_tuple, ty_non_list, ty_bl_int, ty_bl_bool, ty_bl_str, ty_bl_tuple, ty_bl_list, ty_int_int, ty_int_bool, ty_int_str, ty_int_tuple, ty_int_list, ty_str_int, ty_str_bool, ty_str_str, ty_str_tuple, ty_str_list, ty_tup_int, ty_tup_bool, ty_tup_str, ty_tup_tuple, ty_tup_list, ty_lst_int, ty_lst_bool, ty_lst_str, ty_lst_tuple, ty_lst_list, decide_eq_true_eq, Bool.not_true, Bool.not_false, if_true, if_false, ite_true, ite_false, Bool.false_eq_true, Bool.true_eq_false, Option.map_some, true_and, and_true, reduceCtorEq, List.length_cons, List.length_nil]
    refine ok_of (sp_is_map hwm hw oe hm) ?_
    simp [ok_newc, upt_tup, upt_lst, frm_tup, frm_lst, rev_tup, rev_lst, trg_i, s_nil, s_ret, s_rtv, s_set, s_unp, s_par, s_app, s_expr, s_frz, cont_nx, cont_ret, fin_ret, fin_nx, frz_nil, frz_two, frz_succ, frz_z, frz_zn, List.getElem?_cons_zero, List.getElem?_cons_succ, setAll_cons, setAll_nil, e_var, e_cst, e_bin, e_neg, e_cmp, e_chn, e_isc, e_and, e_or, e_not, e_ite, e_tup, e_lst, e_newc, e_idx, e_from, e_upto, e_rev, e_call, e_blt, e_mth, e_trng, e_comp, es_nil, es_cons, rs_nil, rs_cons, vs_nil, vs_cons, c_no, c_yes, it_val, it_rng, it_enum, it_zip, c_F, f_F, items_tup, items_lst, rng_i, ok_noX, bind_nm, bind_tp, bind_cons, bind_nil, wipe_nil, wipe_cons, ok_bnd, ok_ret, ok_opt, ok_ask, ok_ite, ok_asB, ok_stk, oko_some, oko_none, oko_map, oko_if, boolO_bl, rd_succ, rd_fz, rd_ow, d_fz, d_ow, ow_succ, ow_zero, List.set_cons_zero, List.set_cons_succ, bin_add, bin_sub, bin_mul, bin_fdiv, bin_mod, bin_pow, add_ii, add_ll, add_tt, sub_ii, mul_ii, fdiv_ii, mod_ii, pow_ii, neg_i, eqD_ii, eqD_bb, cmp_eq, cmp_ne, cmp_lt, cmp_le, cmp_gt, cmp_ge, isc_nn, isc_bb, isc_in, isc_tn, isc_ln, blt_len_scr, blt_len_tup, blt_len_lst, blt_tuple_lst, blt_tuple_tup, blt_list_lst, blt_list_tup, blt_all, blt_any, blt_max2, blt_min2, blt_int_b, blt_int_i, blt_repr, blt_isi, ix_tup, ix_lst, ix_scr, ty_one, ty_non_int, ty_non_bool, ty_non_str, ty_non_tuple, ty_non_list, ty_bl_int, ty_bl_bool, ty_bl_str, ty_bl_tuple, ty_bl_list, ty_int_int, ty_int_bool, ty_int_str, ty_int_tuple, ty_int_list, ty_str_int, ty_str_bool, ty_str_str, ty_str_tuple, ty_str_list, ty_tup_int, ty_tup_bool, ty_tup_str, ty_tup_tuple, ty_tup_list, ty_lst_int, ty_lst_bool, ty_lst_str, ty_lst_tuple, ty_lst_list, decide_eq_true_eq, Bool.not_true, Bool.not_false, if_true, if_false, ite_true, ite_false, Bool.false_eq_true, Bool.true_eq_false, Option.map_some, true_and, and_true, reduceCtorEq, List.length_cons, List.length_nil, isY, ha, hb, hc]
  · have : ((xs.length : Int) == 4) = false := by simpa using hl
    simp [ok_newc, upt_tup, upt_lst, frm_tup, frm_lst, rev_tup, rev_lst, trg_i, s_nil, s_ret, s_rtv, s_set, s_unp, s_par, s_app, s_expr, s_frz, cont_nx, cont_ret, fin_ret, fin_nx, frz_nil, frz_two, frz_succ, frz_z, frz_zn, List.getElem?_cons_zero, List.getElem?_cons_succ, setAll_cons, setAll_nil, e_var, e_cst, e_bin, e_neg, e_cmp, e_chn, e_isc, e_and, e_or, e_not, e_ite, e_tup, e_lst, e_newc, e_idx, e_from, e_upto, e_rev, e_call, e_blt, e_mth, e_trng, e_comp, es_nil, es_cons, rs_nil, rs_cons, vs_nil, vs_cons, c_no, c_yes, it_val, it_rng, it_enum, it_zip, c_F, f_F, items_tup, items_lst, rng_i, ok_noX, bind_nm, bind_tp, bind_cons, bind_nil, wipe_nil, wipe_cons, ok_bnd, ok_ret, ok_opt, ok_ask, ok_ite, ok_asB, ok_stk, oko_some, oko_none, oko_map, oko_if, boolO_bl, rd_succ, rd_fz, rd_ow, d_fz, d_ow, ow_succ, ow_zero, List.set_cons_zero, List.set_cons_succ, bin_add, bin_sub, bin_mul, bin_fdiv, bin_mod, bin_pow, add_ii, add_ll, add_tt, sub_ii, mul_ii, fdiv_ii, mod_ii, pow_ii, neg_i, eqD_ii, eqD_bb, cmp_eq, cmp_ne, cmp_lt, cmp_le, cmp_gt, cmp_ge, isc_nn, isc_bb, isc_in, isc_tn, isc_ln, blt_len_scr, blt_len_tup, blt_len_lst, blt_tuple_lst, blt_tuple_tup, blt_list_lst, blt_list_tup, blt_all, blt_any, blt_max2, blt_min2, blt_int_b, blt_int_i, blt_repr, blt_isi, ix_tup, ix_lst, ix_scr, ty_one, ty_non_int, ty_non_bool, ty_non_str, ty_non_tuple, ty_non_list, ty_bl_int, ty_bl_bool, ty_bl_str, ty_bl_tuple, ty_bl_list, ty_int_int, ty_int_bool, ty_int_str, ty_int_tuple, ty_int_list, ty_str_int, ty_str_bool, ty_str_str, ty_str_tuple, ty_str_list, ty_tup_int, ty_tup_bool, ty_tup_str, ty_tup_tuple, ty_tup_list, ty_lst_int, ty_lst_bool, ty_lst_str, ty_lst_tuple, ty_lst_list, decide_eq_true_eq, Bool.not_true, Bool.not_false, if_true, if_false, ite_true, ite_false, Bool.false_eq_true, Bool.true_eq_false, Option.map_some, true_and, and_true, reduceCtorEq, List.length_cons, List.length_nil, this, isY_no hl]
theorem sp_is_mood (h : P f = some (d_is_mood (c_is_way := g))) (hg : P g = some (d_is_way (c_is_within := w) (c_is_map := wm))) (hw : P w = some d_is_within) (hwm : P wm = some (d_is_map w)) (hd : D.ok m d = true) (hm : m ≤ sizeLine) : run P (n + 4) f [d, .int many] S = .ok (.fz (.bl (isO many d))) S := by
  refine eq_of_ok (ok_run h rfl ?_)
  show Ok (execSs _ (.cons _ .nil) [some (.fz d), some (.fz (.int many)), none] S) _
  rw [s_ret]
  cases d <;> first | (cases hd; done) | skip
  all_goals simp only [ok_newc, upt_tup, upt_lst, frm_tup, frm_lst, rev_tup, rev_lst, trg_i, s_nil, s_ret, s_rtv, s_set, s_unp, s_par, s_app, s_expr, s_frz, cont_nx, cont_ret, fin_ret, fin_nx, frz_nil, frz_two, frz_succ, frz_z, frz_zn, List.getElem?_cons_zero, List.getElem?_cons_succ, setAll_cons, setAll_nil, e_var, e_cst, e_bin, e_neg, e_cmp, e_chn, e_isc, e_and, e_or, e_not, e_ite, e_tup, e_lst, e_newc, e_idx, e_from, e_upto, e_rev, e_call, e_blt, e_mth, e_trng, e_comp, es_nil, es_cons, rs_nil, rs_cons, vs_nil, vs_cons, c_no, c_yes, it_val, it_rng, it_enum, it_zip, c_F, f_F, items_tup, items_lst, rng_i, ok_noX, bind_nm, bind_tp, bind_cons, bind_nil, wipe_nil, wipe_cons, ok_bnd, ok_ret, ok_opt, ok_ask, ok_ite, ok_asB, ok_stk, oko_some, oko_none, oko_map, oko_if, boolO_bl, rd_succ, rd_fz, rd_ow, d_fz, d_ow, ow_succ, ow_zero, List.set_cons_zero, List.set_cons_succ, bin_add, bin_sub, bin_mul, bin_fdiv, bin_mod, bin_pow, add_ii, add_ll, add_tt, sub_ii, mul_ii, fdiv_ii, mod_ii, pow_ii, neg_i, eqD_ii, eqD_bb, cmp_eq, cmp_ne, cmp_lt, cmp_le, cmp_gt, cmp_ge, isc_nn, isc_bb, isc_in, isc_tn, isc_ln, blt_len_scr, blt_len_tup, blt_len_lst, blt_tuple_lst, blt_tuple_tup, blt_list_lst, blt_list_tup, blt_all, blt_any, blt_max2, blt_min2, blt_int_b, blt_int_i, blt_repr, blt_isi, ix_tup, ix_lst, ix_scr, ty_one, ty_non_int, ty_non_bool, ty_non_str, ty_non_tuple, ty_non_list, ty_bl_int, ty_bl_bool, ty_bl_str, ty_bl_tuple, ty_bl_list, ty_int_int, ty_int_bool, ty_int_str, ty_int_tuple, ty_int_list, ty_str_int, ty_str_bool, ty_str_str, ty_str_tuple, ty_str_list, ty_tup_int, ty_tup_bool, ty_tup_str, ty_tup_tuple, ty_tup_list, ty_lst_int, ty_lst_bool, ty_lst_str, ty_lst_tuple, ty_lst_list, decide_eq_true_eq, Bool.not_true, Bool.not_false, if_true, if_false, ite_true, ite_false, Bool.false_eq_true, Bool.true_eq_false, Option.map_some, true_and, and_true, reduceCtorEq, List.length_cons, List.length_nil]
  all_goals first | exact ⟨rfl, rfl⟩ | rfl | skip
  rename_i xs
  obtain ⟨h1, h2⟩ := ok_tup.mp hd
  by_cases hl : ((xs.length : Int) ≤ 3)
  · simp only [hl, if_true]
    refine ok_of (comp_map (g := fun x => D.bl (isY many x)) (by omega) fun x hx => ?_) ?_
    · refine eq_of_ok ?_
      simp only [ok_newc, upt_tup, upt_lst, frm_tup, frm_lst, rev_tup, rev_lst, trg_i, s_nil, s_ret, s_rtv, s_set, s_unp, s_par, s_app, s_expr, s_frz, cont_nx, cont_ret, fin_ret, fin_nx, frz_nil, frz_two, frz_succ, frz_z, frz_zn, List.getElem?_cons_zero, List.getElem?_cons_succ, setAll_cons, setAll_nil, e_var, e_cst, e_bin, e_neg, e_cmp, e_chn, e_isc, e_and, e_or, e_not, e_ite, e_tup, e_lst, e_newc, e_idx, e_from, e_upto, e_rev, e_call, e_blt, e_mth, e_trng, e_comp, es_nil, es_cons, rs_nil, rs_cons, vs_nil, vs_cons, c_no, c_yes, it_val, it_rng, it_enum, it_zip, c_F, f_F, items_tup, items_lst, rng_i, ok_noX, bind_nm, bind_tp, bind_cons, bind_nil, wipe_nil, wipe_cons, ok_bnd, ok_ret, ok_opt, ok_ask, ok_ite, ok_asB, ok_stk, oko_some, oko_none, oko_map, oko_if, boolO_bl, rd_succ, rd_fz, rd_ow, d_fz, d_ow, ow_succ, ow_zero, List.set_cons_zero, List.set_cons_succ, bin_add, bin_sub, bin_mul, bin_fdiv, bin_mod, bin_pow, add_ii, add_ll, add_tt, sub_ii, mul_ii, fdiv_ii, mod_ii, pow_ii, neg_i, eqD_ii, eqD_bb, cmp_eq, cmp_ne, cmp_lt, cmp_le, cmp_gt, cmp_ge, isc_nn, isc_bb, isc_in, isc_tn, isc_ln, blt_len_scr, blt_len_tup, blt_len_lst, blt_tuple_lst, blt_tuple_tup, blt_list_lst, blt_list_tup, blt_all, blt_any, blt_max2, blt_min2, blt_int_b, blt_int_i, blt_repr, blt_isi, ix_tup, ix_lst, ix_scr, ty_one, ty_non_int, ty_non_bool, ty_non_str, ty_non_tuple, ty_non_list, ty_bl_int, ty_bl_bool, ty_bl_str, ty_bl_tuple, ty_bl_list, ty_int_int, ty_int_bool, ty_int_str, ty_int_tuple, ty_int_list, ty_str_int, ty_str_bool, ty_str_str, ty_str_tuple, ty_str_list, ty_tup_int, ty_tup_bool, ty_tup_str, ty_tup_tuple, ty_tup_list, ty_lst_int, ty_lst_bool, ty_lst_str, ty_lst_tuple, ty_lst_list, decide_eq_true_eq, Bool.not_true, Bool.not_false, if_true, if_false, ite_true, ite_false, Bool.false_eq_true, Bool.true_eq_false, Option.map_some, true_and, and_true, reduceCtorEq, List.length_cons, List.length_nil]
      refine ok_of (sp_is_way hg hw hwm (h2 x hx) hm) ?_
      simp only [ok_newc, upt_tup, upt_lst, frm_tup, frm_lst, rev_tup, rev_lst, trg_i, s_nil, s_ret, s_rtv, s_set, s_unp, s_par, s_app, s_expr, s_frz, cont_nx, cont_ret, fin_ret, fin_nx, frz_nil, frz_two, frz_succ, frz_z, frz_zn, List.getElem?_cons_zero, List.getElem?_cons_succ, setAll_cons, setAll_nil, e_var, e_cst, e_bin, e_neg, e_cmp, e_chn, e_isc, e_and, e_or, e_not, e_ite, e_tup, e_lst, e_newc, e_idx, e_from, e_upto, e_rev, e_call, e_blt, e_mth, e_trng, e_comp, es_nil, es_cons, rs_nil, rs_cons, vs_nil, vs_cons, c_no, c_yes, it_val, it_rng, it_enum, it_zip, c_F, f_F, items_tup, items_lst, rng_i, ok_noX, bind_nm, bind_tp, bind_cons, bind_nil, wipe_nil, wipe_cons, ok_bnd, ok_ret, ok_opt, ok_ask, ok_ite, ok_asB, ok_stk, oko_some, oko_none, oko_map, oko_if, boolO_bl, rd_succ, rd_fz, rd_ow, d_fz, d_ow, ow_succ, ow_zero, List.set_cons_zero, List.set_cons_succ, bin_add, bin_sub, bin_mul, bin_fdiv, bin_mod, bin_pow, add_ii, add_ll, add_tt, sub_ii, mul_ii, fdiv_ii, mod_ii, pow_ii, neg_i, eqD_ii, eqD_bb, cmp_eq, cmp_ne, cmp_lt, cmp_le, cmp_gt, cmp_ge, isc_nn, isc_bb, isc_in, isc_tn, isc_ln, blt_len_scr, blt_len_tup, blt_len_lst, blt_tuple_lst, blt_tuple_tup, blt_list_lst, blt_list_tup, blt_all, blt_any, blt_max2, blt_min2, blt_int_b, blt_int_i, blt_repr, blt_isi, ix_tup, ix_lst, ix_scr, ty_one, ty_non_int, ty_non_bool, ty_non_str, ty_non_tuple, ty_non_list, ty_bl_int, ty_bl_bool, ty_bl_str, ty_bl_tuple, ty_bl_list, ty_int_int, ty_int_bool, ty_int_str, ty_int_tuple, ty_int_list, ty_str_int, ty_str_bool, ty_str_str, ty_str_tuple, ty_str_list, ty_tup_int, ty_tup_bool, ty_tup_str, ty_tup_tuple, ty_tup_list, ty_lst_int, ty_lst_bool, ty_lst_str, ty_lst_tuple, ty_lst_list, decide_eq_true_eq, Bool.not_true, Bool.not_false, if_true, if_false, ite_true, ite_false, Bool.false_eq_true, Bool.true_eq_false, Option.map_some, true_and, and_true, reduceCtorEq, List.length_cons, List.length_nil]
    · simp only [ok_newc, upt_tup, upt_lst, frm_tup, frm_lst, rev_tup, rev_lst, trg_i, s_nil, s_ret, s_rtv, s_set, s_unp, s_par, s_app, s_expr, s_frz, cont_nx, cont_ret, fin_ret, fin_nx, frz_nil, frz_two, frz_succ, frz_z, frz_zn, List.getElem?_cons_zero, List.getElem?_cons_succ, setAll_cons, setAll_nil, e_var, e_cst, e_bin, e_neg, e_cmp, e_chn, e_isc, e_and, e_or, e_not, e_ite, e_tup, e_lst, e_newc, e_idx, e_from, e_upto, e_rev, e_call, e_blt, e_mth, e_trng, e_comp, es_nil, es_cons, rs_nil, rs_cons, vs_nil, vs_cons, c_no, c_yes, it_val, it_rng, it_enum, it_zip, c_F, f_F, items_tup, items_lst, rng_i, ok_noX, bind_nm, bind_tp, bind_cons, bind_nil, wipe_nil, wipe_cons, ok_bnd, ok_ret, ok_opt, ok_ask, ok_ite, ok_asB, ok_stk, oko_some, oko_none, oko_map, oko_if, boolO_bl, rd_succ, rd_fz, rd_ow, d_fz, d_ow, ow_succ, ow_zero, List.set_cons_zero, List.set_cons_succ, bin_add, bin_sub, bin_mul, bin_fdiv, bin_mod, bin_pow, add_ii, add_ll, add_tt, sub_ii, mul_ii, fdiv_ii, mod_ii, pow_ii, neg_i, eqD_ii, eqD_bb, cmp_eq, cmp_ne, cmp_lt, cmp_le, cmp_gt, cmp_ge, isc_nn, isc_bb, isc_in, isc_tn, isc_ln, blt_len_scr, blt_len_tup, blt_len_lst, blt_tuple_lst, blt_tuple_tup, blt_list_lst, blt_list_tup, blt_all, blt_any, blt_max2, blt_min2, blt_int_b, blt_int_i, blt_repr, blt_isi, ix_tup, ix_lst, ix_scr, ty_one, ty_non_int, ty_non_bool, ty_non_str, ty_non_tuple, ty_non_list, ty_bl_int, ty_bl_bool, ty_bl_str, ty_bl_tuple, ty_bl_list, ty_int_int, ty_int_bool, ty_int_str, ty_int_tuple, ty_int_list, ty_str_int, ty_str_bool, ty_str_str, ty_str_tuple, ty_str_list, ty_tup_int, ty_tup_bool, ty_tup_str, ty_tup_tuple, ty_tup_list, ty_lst_int, ty_lst_bool, ty_lst_str, ty_lst_tuple, ty_lst_list, decide_eq_true_eq, Bool.not_true, Bool.not_false, if_true, if_false, ite_true, ite_false, Bool.false_eq_true, Bool.true_eq_false, Option.map_some, true_and, and_true, reduceCtorEq, List.length_cons, List.length_nil, boolsD_map', all_id]
      simp [isO, hl]
  · simp only [hl, if_false]
    simp [isO, hl]
theorem sp_is_kind (h : P f = some (d_is_kind (c_is_mood := g))) {y : Nat} (hg : P g = some (d_is_mood (c_is_way := y))) (hy : P y = some (d_is_way (c_is_within := w) (c_is_map := wm))) (hw : P w = some d_is_within) (hwm : P wm = some (d_is_map w)) (hd : D.ok m d = true) (hm : m ≤ sizeLine) :
    run P (n + 5) f [d] S = .ok (.fz (.bl (isK d))) S := by
  refine eq_of_ok (ok_run h rfl ?_)
  show Ok (execSs _ (.cons (.ite _ _ _) _) [some (.fz d), none] S) _
  rw [s_ite]
  cases d <;> first | (cases hd; done) | skip
  all_goals simp only [ok_newc, upt_tup, upt_lst, frm_tup, frm_lst, rev_tup, rev_lst, trg_i, s_nil, s_ret, s_rtv, s_set, s_unp, s_par, s_app, s_expr, s_frz, cont_nx, cont_ret, fin_ret, fin_nx, frz_nil, frz_two, frz_succ, frz_z, frz_zn, List.getElem?_cons_zero, List.getElem?_cons_succ, setAll_cons, setAll_nil, e_var, e_cst, e_bin, e_neg, e_cmp, e_chn, e_isc, e_and, e_or, e_not, e_ite, e_tup, e_lst, e_newc, e_idx, e_from, e_upto, e_rev, e_call, e_blt, e_mth, e_trng, e_comp, es_nil, es_cons, rs_nil, rs_cons, vs_nil, vs_cons, c_no, c_yes, it_val, it_rng, it_enum, it_zip, c_F, f_F, items_tup, items_lst, rng_i, ok_noX, bind_nm, bind_tp, bind_cons, bind_nil, wipe_nil, wipe_cons, ok_bnd, ok_ret, ok_opt, ok_ask, ok_ite, ok_asB, ok_stk, oko_some, oko_none, oko_map, oko_if, boolO_bl, rd_succ, rd_fz, rd_ow, d_fz, d_ow, ow_succ, ow_zero, List.set_cons_zero, List.set_cons_succ, bin_add, bin_sub, bin_mul, bin_fdiv, bin_mod, bin_pow, add_ii, add_ll, add_tt, sub_ii, mul_ii, fdiv_ii, mod_ii, pow_ii, neg_i, eqD_ii, eqD_bb, cmp_eq, cmp_ne, cmp_lt, cmp_le, cmp_gt, cmp_ge, isc_nn, isc_bb, isc_in, isc_tn, isc_ln, blt_len_scr, blt_len_tup, blt_len_lst, blt_tuple_lst, blt_tuple_tup, blt_list_lst, blt_list_tup, blt_all, blt_any, blt_max2, blt_min2, blt_int_b, blt_int_i, blt_repr, blt_isi, ix_tup, ix_lst, ix_scr, ty_one, ty_non_int, ty_non_bool, ty_non_str, ty_non_tuple, ty_non_list, ty_bl_int, ty_bl_bool, ty_bl_str, ty_bl_tuple, ty_bl_list, ty_int_int, ty_int_bool, ty_int_str, ty_int_tuple, ty_int_list, ty_str_int, ty_str_bool, ty_str_str, ty_str_tuple, ty_str_list, ty_tup_int, ty_tup_bool, ty_tup_str, ty_tup_tuple, ty_tup_list, ty_lst_int, ty_lst_bool, ty_lst_str, ty_lst_tuple, ty_lst_list, decide_eq_true_eq, Bool.not_true, Bool.not_false, if_true, if_false, ite_true, ite_false, Bool.false_eq_true, Bool.true_eq_false, Option.map_some, true_and, and_true, reduceCtorEq, List.length_cons, List.length_nil]
  all_goals first | exact ⟨rfl, rfl⟩ | rfl | skip
  rename_i xs
  obtain ⟨h1, h2⟩ := ok_tup.mp hd
  by_cases hl : ((1 : Int) ≤ xs.length)
  · by_cases hl2 : ((xs.length : Int) ≤ 6)
    · simp only [ok_newc, upt_tup, upt_lst, frm_tup, frm_lst, rev_tup, rev_lst, trg_i, s_nil, s_ret, s_rtv, s_set, s_unp, s_par, s_app, s_expr, s_frz, cont_nx, cont_ret, fin_ret, fin_nx, frz_nil, frz_two, frz_succ, frz_z, frz_zn, List.getElem?_cons_zero, List.getElem?_cons_succ, setAll_cons, setAll_nil, e_var, e_cst, e_bin, e_neg, e_cmp, e_chn, e_isc, e_and, e_or, e_not, e_ite, e_tup, e_lst, e_newc, e_idx, e_from, e_upto, e_rev, e_call, e_blt, e_mth, e_trng, e_comp, es_nil, es_cons, rs_nil, rs_cons, vs_nil, vs_cons, c_no, c_yes, it_val, it_rng, it_enum, it_zip, c_F, f_F, items_tup, items_lst, rng_i, ok_noX, bind_nm, bind_tp, bind_cons, bind_nil, wipe_nil, wipe_cons, ok_bnd, ok_ret, ok_opt, ok_ask, ok_ite, ok_asB, ok_stk, oko_some, oko_none, oko_map, oko_if, boolO_bl, rd_succ, rd_fz, rd_ow, d_fz, d_ow, ow_succ, ow_zero, List.set_cons_zero, List.set_cons_succ, bin_add, bin_sub, bin_mul, bin_fdiv, bin_mod, bin_pow, add_ii, add_ll, add_tt, sub_ii, mul_ii, fdiv_ii, mod_ii, pow_ii, neg_i, eqD_ii, eqD_bb, cmp_eq, cmp_ne, cmp_lt, cmp_le, cmp_gt, cmp_ge, isc_nn, isc_bb, isc_in, isc_tn, isc_ln, blt_len_scr, blt_len_tup, blt_len_lst, blt_tuple_lst, blt_tuple_tup, blt_list_lst, blt_list_tup, blt_all, blt_any, blt_max2, blt_min2, blt_int_b, blt_int_i, blt_repr, blt_isi, ix_tup, ix_lst, ix_scr, ty_one, ty_non_int, ty_non_bool, ty_non_str, ty_non_tuple, ty_non_list, ty_bl_int, ty_bl_bool, ty_bl_str, ty_bl_tuple, ty_bl_list, ty_int_int, ty_int_bool, ty_int_str, ty_int_tuple, ty_int_list, ty_str_int, ty_str_bool, ty_str_str, ty_str_tuple, ty_str_list, ty_tup_int, ty_tup_bool, ty_tup_str, ty_tup_tuple, ty_tup_list, ty_lst_int, ty_lst_bool, ty_lst_str, ty_lst_tuple, ty_lst_list, decide_eq_true_eq, Bool.not_true, Bool.not_false, if_true, if_false, ite_true, ite_false, Bool.false_eq_true, Bool.true_eq_false, Option.map_some, true_and, and_true, reduceCtorEq, List.length_cons, List.length_nil, hl, hl2, decide_true]
      refine ok_of (comp_map (g := fun x => D.bl (isO xs.length x)) (by omega) fun x hx => ?_) ?_
      · refine eq_of_ok ?_
        simp only [ok_newc, upt_tup, upt_lst, frm_tup, frm_lst, rev_tup, rev_lst, trg_i, s_nil, s_ret, s_rtv, s_set, s_unp, s_par, s_app, s_expr, s_frz, cont_nx, cont_ret, fin_ret, fin_nx, frz_nil, frz_two, frz_succ, frz_z, frz_zn, List.getElem?_cons_zero, List.getElem?_cons_succ, setAll_cons, setAll_nil, e_var, e_cst, e_bin, e_neg, e_cmp, e_chn, e_isc, e_and, e_or, e_not, e_ite, e_tup, e_lst, e_newc, e_idx, e_from, e_upto, e_rev, e_call, e_blt, e_mth, e_trng, e_comp, es_nil, es_cons, rs_nil, rs_cons, vs_nil, vs_cons, c_no, c_yes, it_val, it_rng, it_enum, it_zip, c_F, f_F, items_tup, items_lst, rng_i, ok_noX, bind_nm, bind_tp, bind_cons, bind_nil, wipe_nil, wipe_cons, ok_bnd, ok_ret, ok_opt, ok_ask, ok_ite, ok_asB, ok_stk, oko_some, oko_none, oko_map, oko_if, boolO_bl, rd_succ, rd_fz, rd_ow, d_fz, d_ow, ow_succ, ow_zero, List.set_cons_zero, List.set_cons_succ, bin_add, bin_sub, bin_mul, bin_fdiv, bin_mod, bin_pow, add_ii, add_ll, add_tt, sub_ii, mul_ii, fdiv_ii, mod_ii, pow_ii, neg_i, eqD_ii, eqD_bb, cmp_eq, cmp_ne, cmp_lt, cmp_le, cmp_gt, cmp_ge, isc_nn, isc_bb, isc_in, isc_tn, isc_ln, blt_len_scr, blt_len_tup, blt_len_lst, blt_tuple_lst, blt_tuple_tup, blt_list_lst, blt_list_tup, blt_all, blt_any, blt_max2, blt_min2, blt_int_b, blt_int_i, blt_repr, blt_isi, ix_tup, ix_lst, ix_scr, ty_one, ty_non_int, ty_non_bool, ty_non_str, ty_non_tuple, ty_non_list, ty_bl_int, ty_bl_bool, ty_bl_str, ty_bl_tuple, ty_bl_list, ty_int_int, ty_int_bool, ty_int_str, ty_int_tuple, ty_int_list, ty_str_int, ty_str_bool, ty_str_str, ty_str_tuple, ty_str_list, ty_tup_int, ty_tup_bool, ty_tup_str, ty_tup_tuple, ty_tup_list, ty_lst_int, ty_lst_bool, ty_lst_str, ty_lst_tuple, ty_lst_list, decide_eq_true_eq, Bool.not_true, Bool.not_false, if_true, if_false, ite_true, ite_false, Bool.false_eq_true, Bool.true_eq_false, Option.map_some, true_and, and_true, reduceCtorEq, List.length_cons, List.length_nil]
        refine ok_of (sp_is_mood hg hy hw hwm (h2 x hx) hm) ?_
        simp only [ok_newc, upt_tup, upt_lst, frm_tup, frm_lst, rev_tup, rev_lst, trg_i, s_nil, s_ret, s_rtv, s_set, s_unp, s_par, s_app, s_expr, s_frz, cont_nx, cont_ret, fin_ret, fin_nx, frz_nil, frz_two, frz_succ, frz_z, frz_zn, List.getElem?_cons_zero, List.getElem?_cons_succ, setAll_cons, setAll_nil, e_var, e_cst, e_bin, e_neg, e_cmp, e_chn, e_isc, e_and, e_or, e_not, e_ite, e_tup, e_lst, e_newc, e_idx, e_from, e_upto, e_rev, e_call, e_blt, e_mth, e_trng, e_comp, es_nil, es_cons, rs_nil, rs_cons, vs_nil, vs_cons, c_no, c_yes, it_val, it_rng, it_enum, it_zip, c_F, f_F, items_tup, items_lst, rng_i, ok_noX, bind_nm, bind_tp, bind_cons, bind_nil, wipe_nil, wipe_cons, ok_bnd, ok_ret, ok_opt, ok_ask, ok_ite, ok_asB, ok_stk, oko_some, oko_none, oko_map, oko_if, boolO_bl, rd_succ, rd_fz, rd_ow, d_fz, d_ow, ow_succ, ow_zero, List.set_cons_zero, List.set_cons_succ, bin_add, bin_sub, bin_mul, bin_fdiv, bin_mod, bin_pow, add_ii, add_ll, add_tt, sub_ii, mul_ii, fdiv_ii, mod_ii, pow_ii, neg_i, eqD_ii, eqD_bb, cmp_eq, cmp_ne, cmp_lt, cmp_le, cmp_gt, cmp_ge, isc_nn, isc_bb, isc_in, isc_tn, isc_ln, blt_len_scr, blt_len_tup, blt_len_lst, blt_tuple_lst, blt_tuple_tup, blt_list_lst, blt_list_tup, blt_all, blt_any, blt_max2, blt_min2, blt_int_b, blt_int_i, blt_repr, blt_isi, ix_tup, ix_lst, ix_scr, ty_one, ty_non_int, ty_non_bool, ty_non_str, ty_non_tuple, ty_non_list, ty_bl_int, ty_bl_bool, ty_bl_str, ty_bl_tuple, ty_bl_list, ty_int_int, ty_int_bool, ty_int_str, ty_int_tuple, ty_int_list, ty_str_int, ty_str_bool, ty_str_str, ty_str_tuple, ty_str_list, ty_tup_int, ty_tup_bool, ty_tup_str, ty_tup_tuple, ty_tup_list, ty_lst_int, ty_lst_bool, ty_lst_str, ty_lst_tuple, ty_lst_list, decide_eq_true_eq, Bool.not_true, Bool.not_false, if_true, if_false, ite_true, ite_false, Bool.false_eq_true, Bool.true_eq_false, Option.map_some, true_and, and_true, reduceCtorEq, List.length_cons, List.length_nil]
      · simp only [ok_newc, upt_tup, upt_lst, frm_tup, frm_lst, rev_tup, rev_lst, trg_i, s_nil, s_ret, s_rtv, s_set, s_unp, s_par, s_app, s_expr, s_frz, cont_nx, cont_ret, fin_ret, fin_nx, frz_nil, frz_two, frz_succ, frz_z, frz_zn, List.getElem?_cons_zero, List.getElem?_cons_succ, setAll_cons, setAll_nil, e_var, e_cst, e_bin, e_neg, e_cmp, e_chn, e_isc, e_and, e_or, e_not, e_ite, e_tup, e_lst, e_newc, e_idx, e_from, e_upto, e_rev, e_call, e_blt, e_mth, e_trng, e_comp, es_nil, es_cons, rs_nil, rs_cons, vs_nil, vs_cons, c_no, c_yes, it_val, it_rng, it_enum, it_zip, c_F, f_F, items_tup, items_lst, rng_i, ok_noX, bind_nm, bind_tp, bind_cons, bind_nil, wipe_nil, wipe_cons, ok_bnd, ok_ret, ok_opt, ok_ask, ok_ite, ok_asB, ok_stk, oko_some, oko_none, oko_map, oko_if, boolO_bl, rd_succ, rd_fz, rd_ow, d_fz, d_ow, ow_succ, ow_zero, List.set_cons_zero, List.set_cons_succ, bin_add, bin_sub, bin_mul, bin_fdiv, bin_mod, bin_pow, add_ii, add_ll, add_tt, sub_ii, mul_ii, fdiv_ii, mod_ii, pow_ii, neg_i, eqD_ii, eqD_bb, cmp_eq, cmp_ne, cmp_lt, cmp_le, cmp_gt, cmp_ge, isc_nn, isc_bb, isc_in, isc_tn, isc_ln, blt_len_scr, blt_len_tup, blt_len_lst, blt_tuple_lst, blt_tuple_tup, blt_list_lst, blt_list_tup, blt_all, blt_any, blt_max2, blt_min2, blt_int_b, blt_int_i, blt_repr, blt_isi, ix_tup, ix_lst, ix_scr, ty_one, ty_non_int, ty_non_bool, ty_non_str, ty_non_tuple, ty_non_list, ty_bl_int, ty_bl_bool, ty_bl_str, ty_bl_tuple, ty_bl_list, ty_int_int, ty_int_bool, ty_int_str, ty_int_tuple, ty_int_list, ty_str_int, ty_str_bool, ty_str_str, ty_str_tuple, ty_str_list, ty_tup_int, ty_tup_bool, ty_tup_str, ty_tup_tuple, ty_tup_list, ty_lst_int, ty_lst_bool, ty_lst_str, ty_lst_tuple, ty_lst_list, decide_eq_true_eq, Bool.not_true, Bool.not_false, if_true, if_false, ite_true, ite_false, Bool.false_eq_true, Bool.true_eq_false, Option.map_some, true_and, and_true, reduceCtorEq, List.length_cons, List.length_nil, boolsD_map', all_id]
        simp [isK, hl, hl2]
    · simp [ok_newc, upt_tup, upt_lst, frm_tup, frm_lst, rev_tup, rev_lst, trg_i, s_nil, s_ret, s_rtv, s_set, s_unp, s_par, s_app, s_expr, s_frz, cont_nx, cont_ret, fin_ret, fin_nx, frz_nil, frz_two, frz_succ, frz_z, frz_zn, List.getElem?_cons_zero, List.getElem?_cons_succ, setAll_cons, setAll_nil, e_var, e_cst, e_bin, e_neg, e_cmp, e_chn, e_isc, e_and, e_or, e_not, e_ite, e_tup, e_lst, e_newc, e_idx, e_from, e_upto, e_rev, e_call, e_blt, e_mth, e_trng, e_comp, es_nil, es_cons, rs_nil, rs_cons, vs_nil, vs_cons, c_no, c_yes, it_val, it_rng, it_enum, it_zip, c_F, f_F, items_tup, items_lst, rng_i, ok_noX, bind_nm, bind_tp, bind_cons, bind_nil, wipe_nil, wipe_cons, ok_bnd, ok_ret, ok_opt, ok_ask, ok_ite, ok_asB, ok_stk, oko_some, oko_none, oko_map, oko_if, boolO_bl, rd_succ, rd_fz, rd_ow, d_fz, d_ow, ow_succ, ow_zero, List.set_cons_zero, List.set_cons_succ, bin_add, bin_sub, bin_mul, bin_fdiv, bin_mod, bin_pow, add_ii, add_ll, add_tt, sub_ii, mul_ii, fdiv_ii, mod_ii, pow_ii, neg_i, eqD_ii, eqD_bb, cmp_eq, cmp_ne, cmp_lt, cmp_le, cmp_gt, cmp_ge, isc_nn, isc_bb, isc_in, isc_tn, isc_ln, blt_len_scr, blt_len_tup, blt_len_lst, blt_tuple_lst, blt_tuple_tup, blt_list_lst, blt_list_tup, blt_all, blt_any, blt_max2, blt_min2, blt_int_b, blt_int_i, blt_repr, blt_isi, ix_tup, ix_lst, ix_scr, ty_one, ty_non_int, ty_non_bool, ty_non_str, ty_non_tuple, ty_non_list, ty_bl_int, ty_bl_bool, ty_bl_str, ty_bl_tuple, ty_bl_list, ty_int_int, ty_int_bool, ty_int_str, ty_int_tuple, ty_int_list, ty_str_int, ty_str_bool, ty_str_str, ty_str_tuple, ty_str_list, ty_tup_int, ty_tup_bool, ty_tup_str, ty_tup_tuple, ty_tup_list, ty_lst_int, ty_lst_bool, ty_lst_str, ty_lst_tuple, ty_lst_list, decide_eq_true_eq, Bool.not_true, Bool.not_false, if_true, if_false, ite_true, ite_false, Bool.false_eq_true, Bool.true_eq_false, Option.map_some, true_and, and_true, reduceCtorEq, List.length_cons, List.length_nil, hl, hl2, isK]
  · simp [ok_newc, upt_tup, upt_lst, frm_tup, frm_lst, rev_tup, rev_lst, trg_i, s_nil, s_ret, s_rtv, s_set, s_unp, s_par, s_app, s_expr, s_frz, cont_nx, cont_ret, fin_ret, fin_nx, frz_nil, frz_two, frz_succ, frz_z, frz_zn, List.getElem?_cons_zero, List.getElem?_cons_succ, setAll_cons, setAll_nil, e_var, e_cst, e_bin, e_neg, e_cmp, e_chn, e_isc, e_and, e_or, e_not, e_ite, e_tup, e_lst, e_newc, e_idx, e_from, e_upto, e_rev, e_call, e_blt, e_mth, e_trng, e_comp, es_nil, es_cons, rs_nil, rs_cons, vs_nil, vs_cons, c_no, c_yes, it_val, it_rng, it_enum, it_zip, c_F, f_F, items_tup, items_lst, rng_i, ok_noX, bind_nm, bind_tp, bind_cons, bind_nil, wipe_nil, wipe_cons, ok_bnd, ok_ret, ok_opt, ok_ask, ok_ite, ok_asB, ok_stk, oko_some, oko_none, oko_map, oko_if, boolO_bl, rd_succ, rd_fz, rd_ow, d_fz, d_ow, ow_succ, ow_zero, List.set_cons_zero, List.set_cons_succ, bin_add, bin_sub, bin_mul, bin_fdiv, bin_mod, bin_pow, add_ii, add_ll, add_tt, sub_ii, mul_ii, fdiv_ii, mod_ii, pow_ii, neg_i, eqD_ii, eqD_bb, cmp_eq, cmp_ne, cmp_lt, cmp_le, cmp_gt, cmp_ge, isc_nn, isc_bb, isc_in, isc_tn, isc_ln, blt_len_scr, blt_len_tup, blt_len_lst, blt_tuple_lst, blt_tuple_tup, blt_list_lst, blt_list_tup, blt_all, blt_any, blt_max2, blt_min2, blt_int_b, blt_int_i, blt_repr, blt_isi, ix_tup, ix_lst, ix_scr, ty_one, ty_non_int, ty_non_bool, ty_non_str, ty_non_tuple, ty_non_list, ty_bl_int, ty_bl_bool, ty_bl_str, ty_bl_tuple, ty_bl_list, ty_int_int, ty_int_bool, ty_int_str, ty_int_tuple, ty_int_list, ty_str_int, ty_str_bool, ty_str_str, ty_str_tuple, ty_str_list, ty_tup_int, ty_tup_bool, ty_tup_str, ty_tup_tuple, ty_tup_list, ty_lst_int, ty_lst_bool, ty_lst_str, ty_lst_tuple, ty_lst_list, decide_eq_true_eq, Bool.not_true, Bool.not_false, if_true, if_false, ite_true, ite_false, Bool.false_eq_true, Bool.true_eq_false, Option.map_some, true_and, and_true, reduceCtorEq, List.length_cons, List.length_nil, hl, isK]
end
end Mini
/-! PureD: kinds, as the laws look at them. -/
namespace Mini
open PySem L2
section
variable {P : Nat → Option FDef} {f g w n m : Nat} {d : D} {lo hi many : Int} {S : Store}
theorem sp_law_from (h : P f = some d__law_from) (hd : D.ok m d = true) : run P (n + 1) f [d, .int lo, .int hi] S = .ok (.fz (.bl (isW lo hi d))) S := by
  refine eq_of_ok (ok_run h rfl ?_)
  show Ok (execSs _ (.cons _ .nil) [some (.fz d), some (.fz (.int lo)), some (.fz (.int hi))] S) _
  rw [s_ret]
  cases d <;> first | (cases hd; done) | skip
  all_goals simp only [ok_newc, upt_tup, upt_lst, frm_tup, frm_lst, rev_tup, rev_lst, trg_i, s_nil, s_ret, s_rtv, s_set, s_unp, s_par, s_app, s_expr, s_frz, cont_nx, cont_ret, fin_ret, fin_nx, frz_nil, frz_two, frz_succ, frz_z, frz_zn, List.getElem?_cons_zero, List.getElem?_cons_succ, setAll_cons, setAll_nil, e_var, e_cst, e_bin, e_neg, e_cmp, e_chn, e_isc, e_and, e_or, e_not, e_ite, e_tup, e_lst, e_newc, e_idx, e_from, e_upto, e_rev, e_call, e_blt, e_mth, e_trng, e_comp, es_nil, es_cons, rs_nil, rs_cons, vs_nil, vs_cons, c_no, c_yes, it_val, it_rng, it_enum, it_zip, c_F, f_F, items_tup, items_lst, rng_i, ok_noX, bind_nm, bind_tp, bind_cons, bind_nil, wipe_nil, wipe_cons, ok_bnd, ok_ret, ok_opt, ok_ask, ok_ite, ok_asB, ok_stk, oko_some, oko_none, oko_map, oko_if, boolO_bl, rd_succ, rd_fz, rd_ow, d_fz, d_ow, ow_succ, ow_zero, List.set_cons_zero, List.set_cons_succ, bin_add, bin_sub, bin_mul, bin_fdiv, bin_mod, bin_pow, add_ii, add_ll, add_tt, sub_ii, mul_ii, fdiv_ii, mod_ii, pow_ii, neg_i, eqD_ii, eqD_bb, cmp_eq, cmp_ne, cmp_lt, cmp_le, cmp_gt, cmp_ge, isc_nn, isc_bb, isc_in, isc_tn, isc_ln, blt_len_scr, blt_len_tup, blt_len_lst, blt_tuple_lst, blt_tuple_tup, blt_list_lst, blt_list_tup, blt_all, blt_any, blt_max2, blt_min2, blt_int_b, blt_int_i, blt_repr, blt_isi, ix_tup, ix_lst, ix_scr, ty_one, ty_non_int, ty_non_bool, ty_non_str, ty_non_tuple, ty_non_list, ty_bl_int, ty_bl_bool, ty_bl_str, ty_bl_tuple, ty_bl_list, ty_int_int, ty_int_bool, ty_int_str, ty_int_tuple, ty_int_list, ty_str_int, ty_str_bool, ty_str_str, ty_str_tuple, ty_str_list, ty_tup_int, ty_tup_bool, ty_tup_str, ty_tup_tuple, ty_tup_list, ty_lst_int, ty_lst_bool, ty_lst_str, ty_lst_tuple, ty_lst_list, decide_eq_true_eq, Bool.not_true, Bool.not_false, if_true, if_false, ite_true, ite_false, Bool.false_eq_true, Bool.true_eq_false, Option.map_some, true_and, and_true, reduceCtorEq, List.length_cons, List.length_nil]
  all_goals first | exact ⟨rfl, rfl⟩ | rfl | skip
  rename_i i
  by_cases h1 : lo ≤ i <;> by_cases h2 : i ≤ hi <;> simp [h1, h2, isW]
theorem sp_law_is_way (h : P f = some (d__law_is_way (c__law_from := w))) (hw : P w = some d__law_from) (hd : D.ok m d = true) (hm : m ≤ sizeLine) : run P (n + 2) f [d, .int many] S = .ok (.fz (.bl (isY many d))) S := by
  refine eq_of_ok (ok_run h rfl ?_)
  show Ok (execSs _ (.cons (.ite _ _ _) _) [some (.fz d), some (.fz (.int many)), none, none] S) _
  rw [s_ite]
  cases d <;> first | (cases hd; done) | skip
  all_goals simp only [ok_newc, upt_tup, upt_lst, frm_tup, frm_lst, rev_tup, rev_lst, trg_i, s_nil, s_ret, s_rtv, s_set, s_unp, s_par, s_app, s_expr, s_frz, cont_nx, cont_ret, fin_ret, fin_nx, frz_nil, frz_two, frz_succ, frz_z, frz_zn, List.getElem?_cons_zero, List.getElem?_cons_succ, setAll_cons, setAll_nil, e_var, e_cst, e_bin, e_neg, e_cmp, e_chn, e_isc, e_and, e_or, e_not, e_ite, e_tup, e_lst, e_newc, e_idx, e_from, e_upto, e_rev, e_call, e_blt, e_mth, e_trng, e_comp, es_nil, es_cons, rs_nil, rs_cons, vs_nil, vs_cons, c_no, c_yes, it_val, it_rng, it_enum, it_zip, c_F, f_F, items_tup, items_lst, rng_i, ok_noX, bind_nm, bind_tp, bind_cons, bind_nil, wipe_nil, wipe_cons, ok_bnd, ok_ret, ok_opt, ok_ask, ok_ite, ok_asB, ok_stk, oko_some, oko_none, oko_map, oko_if, boolO_bl, rd_succ, rd_fz, rd_ow, d_fz, d_ow, ow_succ, ow_zero, List.set_cons_zero, List.set_cons_succ, bin_add, bin_sub, bin_mul, bin_fdiv, bin_mod, bin_pow, add_ii, add_ll, add_tt, sub_ii, mul_ii, fdiv_ii, mod_ii, pow_ii, neg_i, eqD_ii, eqD_bb, cmp_eq, cmp_ne, cmp_lt, cmp_le, cmp_gt, cmp_ge, isc_nn, isc_bb, isc_in, isc_tn, isc_ln, blt_len_scr, blt_len_tup, blt_len_lst, blt_tuple_lst, blt_tuple_tup, blt_list_lst, blt_list_tup, blt_all, blt_any, blt_max2, blt_min2, blt_int_b, blt_int_i, blt_repr, blt_isi, ix_tup, ix_lst, ix_scr, ty_one, ty_non_int, ty_non_bool, ty_non_str, ty_non_tuple, ty_non_list, ty_bl_int, ty_bl_bool, ty_bl_str, ty_bl_tuple, ty_bl_list, ty_int_int, ty_int_bool, ty_int_str, ty_int_tuple, ty_int_list, ty_str_int, ty_str_bool, ty_str_str, ty_str_tuple, ty_str_list, ty_tup_int, ty_tup_bool, ty_tup_str, ty_tup_tuple, ty_tup_list, ty_lst_int, ty_lst_bool, ty_lst_str, ty_lst_tuple, ty_lst_list, decide_eq_true_eq, Bool.not_true, Bool.not_false, if_true, if_false, ite_true, ite_false, Bool.false_eq_true, Bool.true_eq_false, Option.map_some, true_and, and_true, reduceCtorEq, List.length_cons, List.length_nil]
  all_goals first | exact ⟨rfl, rfl⟩ | rfl | skip
  rename_i xs
  obtain ⟨h1, h2⟩ := ok_tup.mp hd
  by_cases hl : (xs.length : Int) = 4
  · obtain ⟨a, b, c, e, rfl⟩ := tup4 hl
    have oa := h2 a (by simp)
    have ob := h2 b (by simp)
    have oc := h2 c (by simp)
    have oe := h2 e (by simp)
    simp only [ok_newc, upt_tup, upt_lst, frm_tup, frm_lst, rev_tup, rev_lst, trg_i, s_nil, s_ret, s_rtv, s_set, s_unp, s_par, s_app, s_expr, s_frz, cont_nx, cont_ret, fin_ret, fin_nx, frz_nil, frz_two, frz_succ, frz_z, frz_zn, List.getElem?_cons_zero, List.getElem?_cons_succ, setAll_cons, setAll_nil, e_var, e_cst, e_bin, e_neg, e_cmp, e_chn, e_isc, e_and, e_or, e_not, e_ite, e_tup, e_lst, e_newc, e_idx, e_from, e_upto, e_rev, e_call, e_blt, e_mth, e_trng, e_comp, es_nil, es_cons, rs_nil, rs_cons, vs_nil, vs_cons, c_no, c_yes, it_val, it_rng, it_enum, it_zip, c_F, f_F, items_tup, items_lst, rng_i, ok_noX, bind_nm, bind_tp, bind_cons, bind_nil, wipe_nil, wipe_cons, ok_bnd, ok_ret, ok_opt, ok_ask, ok_ite, ok_asB, ok_stk, oko_some, oko_none, oko_map, oko_if, boolO_bl, rd_succ, rd_fz, rd_ow, d_fz, d_ow, ow_succ, ow_zero, List.set_cons_zero, List.set_cons_succ, bin_add, bin_sub, bin_mul, bin_fdiv, bin_mod, bin_pow, add_ii, add_ll, add_tt, sub_ii, mul_ii, fdiv_ii, mod_ii, pow_ii, neg_i, eqD_ii, eqD_bb, cmp_eq, cmp_ne, cmp_lt, cmp_le, cmp_gt, cmp_ge, isc_nn, isc_bb, isc_in, isc_tn, isc_ln, blt_len_scr, blt_len_tup, blt_len_lst, blt_tuple_lst, blt_tuple_tup, blt_list_lst, blt_list_tup, blt_all, blt_any, blt_max2, blt_min2, blt_int_b, blt_int_i, blt_repr, blt_isi, ix_tup, ix_lst, ix_scr, ty_one, ty_non_int, ty_non_bool, ty_non_str, ty_non_tuple, ty_non_list, ty_bl_int, ty_bl_bool, ty_bl_str, ty_bl_tuple, ty_bl_list, ty_int_int, ty_int_bool, ty_int_str, ty_int_tuple, ty_int_list, ty_str_int, ty_str_bool, ty_str_str, ty_str_tuple, ty_str_list, ty_tup_int, ty_tup_bool, ty_tup_str, ty_tup_tuple, ty_tup_list, ty_lst_int, ty_lst_bool, ty_lst_str, ty_lst_tuple, ty_lst_list, decide_eq_true_eq, Bool.not_true, Bool.not_false, if_true, if_false, ite_true, ite_false, Bool.false_eq_true, Bool.true_eq_false, Option.map_some, true_and, and_true, reduceCtorEq, List.length_cons, List.length_nil, show (((0 + 1 + 1 + 1 + 1 : Nat) : Int) == 4) = true from rfl]
    rw [s_for]
    simp only [ok_newc, upt_tup, upt_lst, frm_tup, frm_lst, rev_tup, rev_lst, trg_i, s_nil, s_ret, s_rtv, s_set, s_unp, s_par, s_app, s_expr, s_frz, cont_nx, cont_ret, fin_ret, fin_nx, frz_nil, frz_two, frz_succ, frz_z, frz_zn, List.getElem?_cons_zero, List.getElem?_cons_succ, setAll_cons, setAll_nil, e_var, e_cst, e_bin, e_neg, e_cmp, e_chn, e_isc, e_and, e_or, e_not, e_ite, e_tup, e_lst, e_newc, e_idx, e_from, e_upto, e_rev, e_call, e_blt, e_mth, e_trng, e_comp, es_nil, es_cons, rs_nil, rs_cons, vs_nil, vs_cons, c_no, c_yes, it_val, it_rng, it_enum, it_zip, c_F, f_F, items_tup, items_lst, rng_i, ok_noX, bind_nm, bind_tp, bind_cons, bind_nil, wipe_nil, wipe_cons, ok_bnd, ok_ret, ok_opt, ok_ask, ok_ite, ok_asB, ok_stk, oko_some, oko_none, oko_map, oko_if, boolO_bl, rd_succ, rd_fz, rd_ow, d_fz, d_ow, ow_succ, ow_zero, List.set_cons_zero, List.set_cons_succ, bin_add, bin_sub, bin_mul, bin_fdiv, bin_mod, bin_pow, add_ii, add_ll, add_tt, sub_ii, mul_ii, fdiv_ii, mod_ii, pow_ii, neg_i, eqD_ii, eqD_bb, cmp_eq, cmp_ne, cmp_lt, cmp_le, cmp_gt, cmp_ge, isc_nn, isc_bb, isc_in, isc_tn, isc_ln, blt_len_scr, blt_len_tup, blt_len_lst, blt_tuple_lst, blt_tuple_tup, blt_list_lst, blt_list_tup, blt_all, blt_any, blt_max2, blt_min2, blt_int_b, blt_int_i, blt_repr, blt_isi, ix_tup, ix_lst, ix_scr, ty_one, ty_non_int, ty_non_bool, ty_non_str, ty_non_tuple, ty_non_list, ty_bl_int, ty_bl_bool, ty_bl_str, ty_bl_tuple, ty_bl_list, ty_int_int, ty_int_bool, ty_int_str, ty_int_tuple, ty_int_list, ty_str_int, ty_str_bool, ty_str_str, ty_str_tuple, ty_str_list, ty_tup_int, ty_tup_bool, ty_tup_str, ty_tup_tuple, ty_tup_list, ty_lst_int, ty_lst_bool, ty_lst_str, ty_lst_tuple, ty_lst_list, decide_eq_true_eq, Bool.not_true, Bool.not_false, if_true, if_false, ite_true, ite_false, Bool.false_eq_true, Bool.true_eq_false, Option.map_some, true_and, and_true, reduceCtorEq, List.length_cons, List.length_nil, show cutD [a, b, c, e] none (some 2) = [a, b] from rfl]
    simp only [f_cons, ok_newc, upt_tup, upt_lst, frm_tup, frm_lst, rev_tup, rev_lst, trg_i, s_nil, s_ret, s_rtv, s_set, s_unp, s_par, s_app, s_expr, s_frz, cont_nx, cont_ret, fin_ret, fin_nx, frz_nil, frz_two, frz_succ, frz_z, frz_zn, List.getElem?_cons_zero, List.getElem?_cons_succ, setAll_cons, setAll_nil, e_var, e_cst, e_bin, e_neg, e_cmp, e_chn, e_isc, e_and, e_or, e_not, e_ite, e_tup, e_lst, e_newc, e_idx, e_from, e_upto, e_rev, e_call, e_blt, e_mth, e_trng, e_comp, es_nil, es_cons, rs_nil, rs_cons, vs_nil, vs_cons, c_no, c_yes, it_val, it_rng, it_enum, it_zip, c_F, f_F, items_tup, items_lst, rng_i, ok_noX, bind_nm, bind_tp, bind_cons, bind_nil, wipe_nil, wipe_cons, ok_bnd, ok_ret, ok_opt, ok_ask, ok_ite, ok_asB, ok_stk, oko_some, oko_none, oko_map, oko_if, boolO_bl, rd_succ, rd_fz, rd_ow, d_fz, d_ow, ow_succ, ow_zero, List.set_cons_zero, List.set_cons_succ, bin_add, bin_sub, bin_mul, bin_fdiv, bin_mod, bin_pow, add_ii, add_ll, add_tt, sub_ii, mul_ii, fdiv_ii, mod_ii, pow_ii, neg_i, eqD_ii, eqD_bb, cmp_eq, cmp_ne, cmp_lt, cmp_le, cmp_gt, cmp_ge, isc_nn, isc_bb, isc_in, isc_tn, isc_ln, blt_len_scr, blt_len_tup, blt_len_lst, blt_tuple_lst, blt_tuple_tup, blt_list_lst, blt_list_tup, blt_all, blt_any, blt_max2, blt_min2, blt_int_b, blt_int_i, blt_repr, blt_isi, ix_tup, ix_lst, ix_scr, ty_one, ty_non_int, ty_non_bool, ty_non_str, ty_non_tuple, ty_non_list, ty_bl_int, ty_bl_bool, ty_bl_str, ty_bl_tuple, ty_bl_list, ty_int_int, ty_int_bool, ty_int_str, ty_int_tuple, ty_int_list, ty_str_int, ty_str_bool, ty_str_str, ty_str_tuple, ty_str_list, ty_tup_int, ty_tup_bool, ty_tup_str, ty_tup_tuple, ty_tup_list, ty_lst_int, ty_lst_bool, ty_lst_str, ty_lst_tuple, ty_lst_list, decide_eq_true_eq, Bool.not_true, Bool.not_false, if_true, if_false, ite_true, ite_false, Bool.false_eq_true, Bool.true_eq_false, Option.map_some, true_and, and_true, reduceCtorEq, List.length_cons, List.length_nil]
    rw [s_ite]
    simp only [ok_newc, upt_tup, upt_lst, frm_tup, frm_lst, rev_tup, rev_lst, trg_i, s_nil, s_ret, s_rtv, s_set, s_unp, s_par, s_app, s_expr, s_frz, cont_nx, cont_ret, fin_ret, fin_nx, frz_nil, frz_two, frz_succ, frz_z, frz_zn, List.getElem?_cons_zero, List.getElem?_cons_succ, setAll_cons, setAll_nil, e_var, e_cst, e_bin, e_neg, e_cmp, e_chn, e_isc, e_and, e_or, e_not, e_ite, e_tup, e_lst, e_newc, e_idx, e_from, e_upto, e_rev, e_call, e_blt, e_mth, e_trng, e_comp, es_nil, es_cons, rs_nil, rs_cons, vs_nil, vs_cons, c_no, c_yes, it_val, it_rng, it_enum, it_zip, c_F, f_F, items_tup, items_lst, rng_i, ok_noX, bind_nm, bind_tp, bind_cons, bind_nil, wipe_nil, wipe_cons, ok_bnd, ok_ret, ok_opt, ok_ask, ok_ite, ok_asB, ok_stk, oko_some, oko_none, oko_map, oko_if, boolO_bl, rd_succ, rd_fz, rd_ow, d_fz, d_ow, ow_succ, ow_zero, List.set_cons_zero, List.set_cons_succ, bin_add, bin_sub, bin_mul, bin_fdiv, bin_mod, bin_pow, add_ii, add_ll, add_tt, sub_ii, mul_ii, fdiv_ii, mod_ii, pow_ii, neg_i, eqD_ii, eqD_bb, cmp_eq, cmp_ne, cmp_lt, cmp_le, cmp_gt, cmp_ge, isc_nn, isc_bb, isc_in, isc_tn, isc_ln, blt_len_scr, blt_len_tup, blt_len_lst, blt_tuple_lst, blt_tuple_tup, blt_list_lst, blt_list_tup, blt_all, blt_any, blt_max2, blt_min2, blt_int_b, blt_int_i, blt_repr, blt_isi, ix_tup, ix_lst, ix_scr, ty_one, ty_non_int, ty_non_bool, ty_non_str, ty_non_tuple, ty_non_list, ty_bl_int, ty_bl_bool, ty_bl_str, ty_bl_tuple, ty_bl_list, ty_int_int, ty_int_bool, ty_int_str, ty_int_tuple, ty_int_list, ty_str_int, ty_str_bool, ty_str_str, ty_str_tuple, ty_str_list, ty_tup_int, ty_tup_bool, ty_tup_str, ty_tup_tuple, ty_tup_list, ty_lst_int, ty_lst_bool, ty_lst_str, ty_lst_tuple, ty_lst_list, decide_eq_true_eq, Bool.not_true, Bool.not_false, if_true, if_false, ite_true, ite_false, Bool.false_eq_true, Bool.true_eq_false, Option.map_some, true_and, and_true, reduceCtorEq, List.length_cons, List.length_nil]
    refine ok_of (sp_law_from hw oa) ?_
    simp only [ok_newc, upt_tup, upt_lst, frm_tup, frm_lst, rev_tup, rev_lst, trg_i, s_nil, s_ret, s_rtv, s_set, s_unp, s_par, s_app, s_expr, s_frz, cont_nx, cont_ret, fin_ret, fin_nx, frz_nil, frz_two, frz_succ, frz_z, frz_zn, List.getElem?_cons_zero, List.getElem?_cons_succ, setAll_cons, setAll_nil, e_var, e_cst, e_bin, e_neg, e_cmp, e_chn, e_isc, e_and, e_or, e_not, e_ite, e_tup, e_lst, e_newc, e_idx, e_from, e_upto, e_rev, e_call, e_blt, e_mth, e_trng, e_comp, es_nil, es_cons, rs_nil, rs_cons, vs_nil, vs_cons, c_no, c_yes, it_val, it_rng, it_enum, it_zip, c_F, f_F, items_tup, items_lst, rng_i, ok_noX, bind_nm, bind_tp, bind_cons, bind_nil, wipe_nil, wipe_cons, ok_bnd, ok_ret, ok_opt, ok_ask, ok_ite, ok_asB, ok_stk, oko_some, oko_none, oko_map, oko_if, boolO_bl, rd_succ, rd_fz, rd_ow, d_fz, d_ow, ow_succ, ow_zero, List.set_cons_zero, List.set_cons_succ, bin_add, bin_sub, bin_mul, bin_fdiv, bin_mod, bin_pow, add_ii, add_ll, add_tt, sub_ii, mul_ii, fdiv_ii, mod_ii, pow_ii, neg_i, eqD_ii, eqD_bb, cmp_eq, cmp_ne, cmp_lt, cmp_le, cmp_gt, cmp_ge, isc_nn, isc_bb, isc_in, isc_tn, isc_ln, blt_len_scr, blt_len_tup, blt_len_lst, blt_tuple_lst, blt_tuple_tup, blt_list_lst, blt_list_tup, blt_all, blt_any, blt_max2, blt_min2, blt_int_b, blt_int_i, blt_repr, blt_isi, ix_tup, ix_lst, ix_scr, ty_one, ty_non_int, ty_non_bool, ty_non_str, ty_non_tuple, ty_non_list, ty_bl_int, ty_bl_bool, ty_bl_str, ty_bl_tuple, ty_bl_list, ty_int_int, ty_int_bool, ty_int_str, ty_int_tuple, ty_int_list, ty_str_int, ty_str_bool, ty_str_str, ty_str_tuple, ty_str_list, ty_tup_int, ty_tup_bool, ty_tup_str, ty_tup_tuple, ty_tup_list, ty_lst_int, ty_lst_bool, ty_lst_str, ty_lst_tuple, ty_lst_list, decide_eq_true_eq, Bool.not_true, Bool.not_false, if_true, if_false, ite_true, ite_false, Bool.false_eq_true, Bool.true_eq_false, Option.map_some, true_and, and_true, reduceCtorEq, List.length_cons, List.length_nil]
    cases ha : isW 0 (many - 1) a
    · simp [ok_newc, upt_tup, upt_lst, frm_tup, frm_lst, rev_tup, rev_lst, trg_i, s_nil, s_ret, s_rtv, s_set, s_unp, s_par, s_app, s_expr, s_frz, cont_nx, cont_ret, fin_ret, fin_nx, frz_nil, frz_two, frz_succ, frz_z, frz_zn, List.getElem?_cons_zero, List.getElem?_cons_succ, setAll_cons, setAll_nil, e_var, e_cst, e_bin, e_neg, e_cmp, e_chn, e_isc, e_and, e_or, e_not, e_ite, e_tup, e_lst, e_newc, e_idx, e_from, e_upto, e_rev, e_call, e_blt, e_mth, e_trng, e_comp, es_nil, es_cons, rs_nil, rs_cons, vs_nil, vs_cons, c_no, c_yes, it_val, it_rng, it_enum, it_zip, c_F, f_F, items_tup, items_lst, rng_i, ok_noX, bind_nm, bind_tp, bind_cons, bind_nil, wipe_nil, wipe_cons, ok_bnd, ok_ret, ok_opt, ok_ask, ok_ite, ok_asB, ok_stk, oko_some, oko_none, oko_map, oko_if, boolO_bl, rd_succ, rd_fz, rd_ow, d_fz, d_ow, ow_succ, ow_zero, List.set_cons_zero, List.set_cons_succ, bin_add, bin_sub, bin_mul, bin_fdiv, bin_mod, bin_pow, add_ii, add_ll, add_tt, sub_ii, mul_ii, fdiv_ii, mod_ii, pow_ii, neg_i, eqD_ii, eqD_bb, cmp_eq, cmp_ne, cmp_lt, cmp_le, cmp_gt, cmp_ge, isc_nn, isc_bb, isc_in, isc_tn, isc_ln, blt_len_scr, blt_len_tup, blt_len_lst, blt_tuple_lst, blt_tuple_tup, blt_list_lst, blt_list_tup, blt_all, blt_any, blt_max2, blt_min2, blt_int_b, blt_int_i, blt_repr, blt_isi, ix_tup, ix_lst, ix_scr, ty_one, ty_non_int, ty_non_bool, ty_non_str, ty_non_tuple, ty_non_list, ty_bl_int, ty_bl_bool, ty_bl_str, ty_bl_tuple, ty_bl_list, ty_int_int, ty_int_bool, ty_int_str, ty_int_tuple, ty_int_list, ty_str_int, ty_str_bool, ty_str_str, ty_str_tuple, ty_str_list, ty_tup_int, ty_tup_bool, ty_tup_str, ty_tup_tuple, ty_tup_list, ty_lst_int, ty_lst_bool, ty_lst_str, ty_lst_tuple, ty_lst_list, decide_eq_true_eq, Bool.not_true, Bool.not_false, if_true, if_false, ite_true, ite_false, Bool.false_eq_true, Bool.true_eq_false, Option.map_some, true_and, and_true, reduceCtorEq, List.length_cons, List.length_nil, turn_ret, isY, ha]
    simp only [ok_newc, upt_tup, upt_lst, frm_tup, frm_lst, rev_tup, rev_lst, trg_i, s_nil, s_ret, s_rtv, s_set, s_unp, s_par, s_app, s_expr, s_frz, cont_nx, cont_ret, fin_ret, fin_nx, frz_nil, frz_two, frz_succ, frz_z, frz_zn, List.getElem?_cons_zero, List.getElem?_cons_succ, setAll_cons, setAll_nil, e_var, e_cst, e_bin, e_neg, e_cmp, e_chn, e_isc, e_and, e_or, e_not, e_ite, e_tup, e_lst, e_newc, e_idx, e_from, e_upto, e_rev, e_call, e_blt, e_mth, e_trng, e_comp, es_nil, es_cons, rs_nil, rs_cons, vs_nil, vs_cons, c_no, c_yes, it_val, it_rng, it_enum, it_zip, c_F, f_F, items_tup, items_lst, rng_i, ok_noX, bind_nm, bind_tp, bind_cons, bind_nil, wipe_nil, wipe_cons, ok_bnd, ok_ret, ok_opt, ok_ask, ok_ite, ok_asB, ok_stk, oko_some, oko_none, oko_map, oko_if, boolO_bl, rd_succ, rd_fz, rd_ow, d_fz, d_ow, ow_succ, ow_zero, List.set_cons_zero, List.set_cons_succ, bin_add, bin_sub, bin_mul, bin_fdiv, bin_mod, bin_pow, add_ii, add_ll, add_tt, sub_ii, mul_ii, fdiv_ii, mod_ii, pow_ii, neg_i, eqD_ii, eqD_bb, cmp_eq, cmp_ne, cmp_lt, cmp_le, cmp_gt, cmp_ge, isc_nn, isc_bb, isc_in, isc_tn, isc_ln, blt_len_scr, blt_len_tup, blt_len_lst, blt_tuple_lst, blt_tuple_tup, blt_list_lst, blt_list_tup, blt_all, blt_any, blt_max2, blt_min2, blt_int_b, blt_int_i, blt_repr, blt_isi, ix_tup, ix_lst, ix_scr, ty_one, ty_non_int, ty_non_bool, ty_non_str, ty_non_tuple, ty_non_list, ty_bl_int, ty_bl_bool, ty_bl_str, ty_bl_tuple, ty_bl_list, ty_int_int, ty_int_bool, ty_int_str, ty_int_tuple, ty_int_list, ty_str_int, ty_str_bool, ty_str_str, ty_str_tuple, ty_str_list, ty_tup_int, ty_tup_bool, ty_tup_str, ty_tup_tuple, ty_tup_list, ty_lst_int, ty_lst_bool, ty_lst_str, ty_lst_tuple, ty_lst_list, decide_eq_true_eq, Bool.not_true, Bool.not_false, if_true, if_false, ite_true, ite_false, Bool.false_eq_true, Bool.true_eq_false, Option.map_some, true_and, and_true, reduceCtorEq, List.length_cons, List.length_nil, turn_nx, f_cons]
    rw [s_ite]
    simp only [ok_newc, upt_tup, upt_lst, frm_tup, frm_lst, rev_tup, rev_lst, trg_i, s_nil, s_ret, s_rtv, s_set, s_unp, s_par, s_app, s_expr, s_frz, cont_nx, cont_ret, fin_ret, fin_nx, frz_nil, frz_two, frz_succ, frz_z, frz_zn, List.getElem?_cons_zero, List.getElem?_cons_succ, setAll_cons, setAll_nil, e_var, e_cst, e_bin, e_neg, e_cmp, e_chn, e_isc, e_and, e_or, e_not, e_ite, e_tup, e_lst, e_newc, e_idx, e_from, e_upto, e_rev, e_call, e_blt, e_mth, e_trng, e_comp, es_nil, es_cons, rs_nil, rs_cons, vs_nil, vs_cons, c_no, c_yes, it_val, it_rng, it_enum, it_zip, c_F, f_F, items_tup, items_lst, rng_i, ok_noX, bind_nm, bind_tp, bind_cons, bind_nil, wipe_nil, wipe_cons, ok_bnd, ok_ret, ok_opt, ok_ask, ok_ite, ok_asB, ok_stk, oko_some, oko_none, oko_map, oko_if, boolO_bl, rd_succ, rd_fz, rd_ow, d_fz, d_ow, ow_succ, ow_zero, List.set_cons_zero, List.set_cons_succ, bin_add, bin_sub, bin_mul, bin_fdiv, bin_mod, bin_pow, add_ii, add_ll, add_tt, sub_ii, mul_ii, fdiv_ii, mod_ii, pow_ii, neg_i, eqD_ii, eqD_bb, cmp_eq, cmp_ne, cmp_lt, cmp_le, cmp_gt, cmp_ge, isc_nn, isc_bb, isc_in, isc_tn, isc_ln, blt_len_scr, blt_len_tup, blt_len_lst, blt_tuple_lst, blt_tuple_tup, blt_list_lst, blt_list_tup, blt_all, blt_any, blt_max2, blt_min2, blt_int_b, blt_int_i, blt_repr, blt_isi, ix_tup, ix_lst, ix_scr, ty_one, ty_non_int, ty_non_bool, ty_non_str, ty_non_tuple, ty_non_list, ty_bl_int, ty_bl_bool, ty_bl_str, ty_bl_tuple, ty_bl_list, ty_int_int, ty_int_bool, ty_int_str, ty_int_tuple, ty_int_list, ty_str_int, ty_str_bool, ty_str_str, ty_str_tuple, ty_str_list, ty_tup_int, ty_tup_bool, ty_tup_str, ty_tup_tuple, ty_tup_list, ty_lst_int, ty_lst_bool, ty_lst_str, ty_lst_tuple, ty_lst_list, decide_eq_true_eq, Bool.not_true, Bool.not_false, if_true, if_false, ite_true, ite_false, Bool.false_eq_true, Bool.true_eq_false, Option.map_some, true_and, and_true, reduceCtorEq, List.length_cons, List.length_nil]
    refine ok_of (sp_law_from hw ob) ?_
    simp only [ok_newc, upt_tup, upt_lst, frm_tup, frm_lst, rev_tup, rev_lst, trg_i, s_nil, s_ret, s_rtv, s_set, s_unp, s_par, s_app, s_expr, s_frz, cont_nx, cont_ret, fin_ret, fin_nx, frz_nil, frz_two, frz_succ, frz_z, frz_zn, List.getElem?_cons_zero, List.getElem?_cons_succ, setAll_cons, setAll_nil, e_var, e_cst, e_bin, e_neg, e_cmp, e_chn, e_isc, e_and, e_or, e_not, e_ite, e_tup, e_lst, e_newc, e_idx, e_from, e_upto, e_rev, e_call, e_blt, e_mth, e_trng, e_comp, es_nil, es_cons, rs_nil, rs_cons, vs_nil, vs_cons, c_no, c_yes, it_val, it_rng, it_enum, it_zip, c_F, f_F, items_tup, items_lst, rng_i, ok_noX, bind_nm, bind_tp, bind_cons, bind_nil, wipe_nil, wipe_cons, ok_bnd, ok_ret, ok_opt, ok_ask, ok_ite, ok_asB, ok_stk, oko_some, oko_none, oko_map, oko_if, boolO_bl, rd_succ, rd_fz, rd_ow, d_fz, d_ow, ow_succ, ow_zero, List.set_cons_zero, List.set_cons_succ, bin_add, bin_sub, bin_mul, bin_fdiv, bin_mod, bin_pow, add_ii, add_ll, add_tt, sub_ii, mul_ii, fdiv_ii, mod_ii, pow_ii, neg_i, eqD_ii, eqD_bb, cmp_eq, cmp_ne, cmp_lt, cmp_le, cmp_gt, cmp_ge, isc_nn, isc_bb, isc_in, isc_tn, isc_ln, blt_len_scr, blt_len_tup, blt_len_lst, blt_tuple_lst, blt_tuple_tup, blt_list_lst, blt_list_tup, blt_all, blt_any, blt_max2, blt_min2, blt_int_b, blt_int_i, blt_repr, blt_isi, ix_tup, ix_lst, ix_scr, ty_one, ty_non_int, ty_non_bool, ty_non_str, ty_non_tuple, ty_non_list, ty_bl_int, ty_bl_bool, ty_bl_str, ty_bl_tuple, ty_bl_list, ty_int_int, ty_int_bool, ty_int_str, ty_int_tuple, ty_int_list, ty_str_int, ty_str_bool, ty_str_str, ty_str_tuple, ty_str_list, ty_tup_int, ty_tup_bool, ty_tup_str, ty_tup_tuple, ty_tup_list, ty_lst_int, ty_lst_bool, ty_lst_str, ty_lst_tuple, ty_lst_list, decide_eq_true_eq, Bool.not_true, Bool.not_false, if_true, if_false, ite_true, ite_false, Bool.false_eq_true, Bool.true_eq_false, Option.map_some, true_and, and_true, reduceCtorEq, List.length_cons, List.length_nil]
    cases hb : isW 0 (many - 1) b
    · simp [ok_newc, upt_tup, upt_lst, frm_tup, frm_lst, rev_tup, rev_lst, trg_i, s_nil, s_ret, s_rtv, s_set, s_unp, s_par, s_app, s_expr, s_frz, cont_nx, cont_ret, fin_ret, fin_nx, frz_nil, frz_two, frz_succ, frz_z, frz_zn, List.getElem?_cons_zero, List.getElem?_cons_succ, setAll_cons, setAll_nil, e_var, e_cst, e_bin, e_neg, e_cmp, e_chn, e_isc, e_and, e_or, e_not, e_ite, e_tup, e_lst, e_newc, e_idx, e_from, e_upto, e_rev, e_call, e_blt, e_mth, e_trng, e_comp, es_nil, es_cons, rs_nil, rs_cons, vs_nil, vs_cons, c_no, c_yes, it_val, it_rng, it_enum, it_zip, c_F, f_F, items_tup, items_lst, rng_i, ok_noX, bind_nm, bind_tp, bind_cons, bind_nil, wipe_nil, wipe_cons, ok_bnd, ok_ret, ok_opt, ok_ask, ok_ite, ok_asB, ok_stk, oko_some, oko_none, oko_map, oko_if, boolO_bl, rd_succ, rd_fz, rd_ow, d_fz, d_ow, ow_succ, ow_zero, List.set_cons_zero, List.set_cons_succ, bin_add, bin_sub, bin_mul, bin_fdiv, bin_mod, bin_pow, add_ii, add_ll, add_tt, sub_ii, mul_ii, fdiv_ii, mod_ii, pow_ii, neg_i, eqD_ii, eqD_bb, cmp_eq, cmp_ne, cmp_lt, cmp_le, cmp_gt, cmp_ge, isc_nn, isc_bb, isc_in, isc_tn, isc_ln, blt_len_scr, blt_len_tup, blt_len_lst, blt_tuple_lst, blt_tuple_tup, blt_list_lst, blt_list_tup, blt_all, blt_any, blt_max2, blt_min2, blt_int_b, blt_int_i, blt_repr, blt_isi, ix_tup, ix_lst, ix_scr, ty_one, ty_non_int, ty_non_bool, ty_non_str, ty_non_tuple, ty_non_list, ty_bl_int, ty_bl_bool, ty_bl_str, ty_bl_tuple, ty_bl_list, ty_int_int, ty_int_bool, ty_int_str, ty_int_tuple, ty_int_list, ty_str_int, ty_str_bool, ty_str_str, ty_str_tuple, ty_str_list, ty_tup_int, ty_tup_bool, ty_tup_str, ty_tup_tuple, ty_tup_list, ty_lst_int, ty_lst_bool, ty_lst_str, ty_lst_tuple, ty_lst_list, decide_eq_true_eq, Bool.not_true, Bool.not_false, if_true, if_false, ite_true, ite_false, Bool.false_eq_true, Bool.true_eq_false, Option.map_some, true_and, and_true, reduceCtorEq, List.length_cons, List.length_nil, turn_ret, isY, hb]
    simp only [ok_newc, upt_tup, upt_lst, frm_tup, frm_lst, rev_tup, rev_lst, trg_i, s_nil, s_ret, s_rtv, s_set, s_unp, s_par, s_app, s_expr, s_frz, cont_nx, cont_ret, fin_ret, fin_nx, frz_nil, frz_two, frz_succ, frz_z, frz_zn, List.getElem?_cons_zero, List.getElem?_cons_succ, setAll_cons, setAll_nil, e_var, e_cst, e_bin, e_neg, e_cmp, e_chn, e_isc, e_and, e_or, e_not, e_ite, e_tup, e_lst, e_newc, e_idx, e_from, e_upto, e_rev, e_call, e_blt, e_mth, e_trng, e_comp, es_nil, es_cons, rs_nil, rs_cons, vs_nil, vs_cons, c_no, c_yes, it_val, it_rng, it_enum, it_zip, c_F, f_F, items_tup, items_lst, rng_i, ok_noX, bind_nm, bind_tp, bind_cons, bind_nil, wipe_nil, wipe_cons, ok_bnd, ok_ret, ok_opt, ok_ask, ok_ite, ok_asB, ok_stk, oko_some, oko_none, oko_map, oko_if, boolO_bl, rd_succ, rd_fz, rd_ow, d_fz, d_ow, ow_succ, ow_zero, List.set_cons_zero, List.set_cons_succ, bin_add, bin_sub, bin_mul, bin_fdiv, bin_mod, bin_pow, add_ii, add_ll, add_tt, sub_ii, mul_ii, fdiv_ii, mod_ii, pow_ii, neg_i, eqD_ii, eqD_bb, cmp_eq, cmp_ne, cmp_lt, cmp_le, cmp_gt, cmp_ge, isc_nn, isc_bb, isc_in, isc_tn, isc_ln, blt_len_scr, blt_len_tup, blt_len_lst, blt_tuple_lst, blt_tuple_tup, blt_list_lst, blt_list_tup, blt_all, blt_any, blt_max2, blt_min2, blt_int_b, blt_int_i, blt_repr, blt_isi, ix_tup, ix_lst, ix_scr, ty_one, ty_non_int, ty_non_bool, ty_non_str, ty_non_tuple, ty_non_list, ty_bl_int, ty_bl_bool, ty_bl_str, ty_bl_tuple, ty_bl_list, ty_int_int, ty_int_bool, ty_int_str, ty_int_tuple, ty_int_list, ty_str_int, ty_str_bool, ty_str_str, ty_str_tuple, ty_str_list, ty_tup_int, ty_tup_bool, ty_tup_str, ty_tup_tuple, ty_tup_list, ty_lst_int, ty_lst_bool, ty_lst_str, ty_lst_tuple, ty_lst_list, decide_eq_true_eq, Bool.not_true, Bool.not_false, if_true, if_false, ite_true, ite_false, Bool.false_eq_true, Bool.true_eq_false, Option.map_some, true_and, and_true, reduceCtorEq, List.length_cons, List.length_nil, turn_nx, f_nil]
    rw [s_for]
    simp only [ok_newc, upt_tup, upt_lst, frm_tup, frm_lst, rev_tup, rev_lst, trg_i, s_nil, s_ret, s_rtv, s_set, s_unp, s_par, s_app, s_expr, s_frz, cont_nx, cont_ret, fin_ret, fin_nx, frz_nil, frz_two, frz_succ, frz_z, frz_zn, List.getElem?_cons_zero, List.getElem?_cons_succ, setAll_cons, setAll_nil, e_var, e_cst, e_bin, e_neg, e_cmp, e_chn, e_isc, e_and, e_or, e_not, e_ite, e_tup, e_lst, e_newc, e_idx, e_from, e_upto, e_rev, e_call, e_blt, e_mth, e_trng, e_comp, es_nil, es_cons, rs_nil, rs_cons, vs_nil, vs_cons, c_no, c_yes, it_val, it_rng, it_enum, it_zip, c_F, f_F, items_tup, items_lst, rng_i, ok_noX, bind_nm, bind_tp, bind_cons, bind_nil, wipe_nil, wipe_cons, ok_bnd, ok_ret, ok_opt, ok_ask, ok_ite, ok_asB, ok_stk, oko_some, oko_none, oko_map, oko_if, boolO_bl, rd_succ, rd_fz, rd_ow, d_fz, d_ow, ow_succ, ow_zero, List.set_cons_zero, List.set_cons_succ, bin_add, bin_sub, bin_mul, bin_fdiv, bin_mod, bin_pow, add_ii, add_ll, add_tt, sub_ii, mul_ii, fdiv_ii, mod_ii, pow_ii, neg_i, eqD_ii, eqD_bb, cmp_eq, cmp_ne, cmp_lt, cmp_le, cmp_gt, cmp_ge, isc_nn, isc_bb, isc_in, isc_tn, isc_ln, blt_len_scr, blt_len_tup, blt_len_lst, blt_tuple_lst, blt_tuple_tup, blt_list_lst, blt_list_tup, blt_all, blt_any, blt_max2, blt_min2, blt_int_b, blt_int_i, blt_repr, blt_isi, ix_tup, ix_lst, ix_scr, ty_one, ty_non_int, ty_non_bool, ty_non_str, ty_non_tuple, ty_non_list, ty_bl_int, ty_bl_bool, ty_bl_str, ty_bl_tuple, ty_bl_list, ty_int_int, ty_int_bool, ty_int_str, ty_int_tuple, ty_int_list, ty_str_int, ty_str_bool, ty_str_str, ty_str_tuple, ty_str_list, ty_tup_int, ty_tup_bool, ty_tup_str, ty_tup_tuple, ty_tup_list, ty_lst_int, ty_lst_bool, ty_lst_str, ty_lst_tuple, ty_lst_list, decide_eq_true_eq, Bool.not_true, Bool.not_false, if_true, if_false, ite_true, ite_false, Bool.false_eq_true, Bool.true_eq_false, Option.map_some, true_and, and_true, reduceCtorEq, List.length_cons, List.length_nil, show cutD [a, b, c, e] (some 2) none = [c, e] from rfl]
    refine for_ok [c, e] (fun i env S' => S' = S ∧ (∃ u v, env = [some (.fz (.tup [a, b, c, e])), some (.fz (.int many)), u, v]) ∧ ∀ (j : Nat) x, j < i → [c, e][j]? = some x → isM many x = true) ⟨rfl, ⟨_, _, rfl⟩, fun j x hj => absurd hj (Nat.not_lt_zero _)⟩ (fun i x env S' hx => ?_) (fun env S' => ?_)
    · rintro ⟨rfl, ⟨u, v, rfl⟩, hI⟩
      have ox : D.ok m x = true := by
        have := List.mem_of_getElem? hx
        rcases List.mem_cons.mp this with rfl | this
        · exact oc
        · rcases List.mem_cons.mp this with rfl | this
          · exact oe
          · cases this
      have bad : isM many x = false → isY many (.tup [a, b, c, e]) = false := fun hb' => by
        have := List.mem_of_getElem? hx
        rcases List.mem_cons.mp this with rfl | this
        · simp [isY, hb']
        · rcases List.mem_cons.mp this with rfl | this
          · simp [isY, hb']
          · cases this
      simp only [ok_newc, upt_tup, upt_lst, frm_tup, frm_lst, rev_tup, rev_lst, trg_i, s_nil, s_ret, s_rtv, s_set, s_unp, s_par, s_app, s_expr, s_frz, cont_nx, cont_ret, fin_ret, fin_nx, frz_nil, frz_two, frz_succ, frz_z, frz_zn, List.getElem?_cons_zero, List.getElem?_cons_succ, setAll_cons, setAll_nil, e_var, e_cst, e_bin, e_neg, e_cmp, e_chn, e_isc, e_and, e_or, e_not, e_ite, e_tup, e_lst, e_newc, e_idx, e_from, e_upto, e_rev, e_call, e_blt, e_mth, e_trng, e_comp, es_nil, es_cons, rs_nil, rs_cons, vs_nil, vs_cons, c_no, c_yes, it_val, it_rng, it_enum, it_zip, c_F, f_F, items_tup, items_lst, rng_i, ok_noX, bind_nm, bind_tp, bind_cons, bind_nil, wipe_nil, wipe_cons, ok_bnd, ok_ret, ok_opt, ok_ask, ok_ite, ok_asB, ok_stk, oko_some, oko_none, oko_map, oko_if, boolO_bl, rd_succ, rd_fz, rd_ow, d_fz, d_ow, ow_succ, ow_zero, List.set_cons_zero, List.set_cons_succ, bin_add, bin_sub, bin_mul, bin_fdiv, bin_mod, bin_pow, add_ii, add_ll, add_tt, sub_ii, mul_ii, fdiv_ii, mod_ii, pow_ii, neg_i, eqD_ii, eqD_bb, cmp_eq, cmp_ne, cmp_lt, cmp_le, cmp_gt, cmp_ge, isc_nn, isc_bb, isc_in, isc_tn, isc_ln, blt_len_scr, blt_len_tup, blt_len_lst, blt_tuple_lst, blt_tuple_tup, blt_list_lst, blt_list_tup, blt_all, blt_any, blt_max2, blt_min2, blt_int_b, blt_int_i, blt_repr, blt_isi, ix_tup, ix_lst, ix_scr, ty_one, ty_non_int, ty_non_bool, ty_non_str, ty_non_tuple, ty_non_list, ty_bl_int, ty_bl_bool, ty_bl_str, ty_bl_tuple, ty_bl_list, ty_int_int, ty_int_bool, ty_int_str, ty_int_tuple, ty_int_list, ty_str_int, ty_str_bool, ty_str_str, ty_str_tuple, ty_str_list, ty_tup_int, ty_tup_bool, ty_tup_str, ty_tup_tuple, ty_tup_list, ty_lst_int, ty_lst_bool, ty_lst_str, ty_lst_tuple, ty_lst_list, decide_eq_true_eq, Bool.not_true, Bool.not_false, if_true, if_false, ite_true, ite_false, Bool.false_eq_true, Bool.true_eq_false, Option.map_some, true_and, and_true, reduceCtorEq, List.length_cons, List.length_nil]
      rw [s_ite]
      cases x <;> first | (cases ox; done) | skip
      all_goals simp only [ok_newc, upt_tup, upt_lst, frm_tup, frm_lst, rev_tup, rev_lst, trg_i, s_nil, s_ret, s_rtv, s_set, s_unp, s_par, s_app, s_expr, s_frz, cont_nx, cont_ret, fin_ret, fin_nx, frz_nil, frz_two, frz_succ, frz_z, frz_zn, List.getElem?_cons_zero, List.getElem?_cons_succ, setAll_cons, setAll_nil, e_var, e_cst, e_bin, e_neg, e_cmp, e_chn, e_isc, e_and, e_or, e_not, e_ite, e_tup, e_lst, e_newc, e_idx, e_from, e_upto, e_rev, e_call, e_blt, e_mth, e_trng, e_comp, es_nil, es_cons, rs_nil, rs_cons, vs_nil, vs_cons, c_no, c_yes, it_val, it_rng, it_enum, it_zip, c_F, f_F, items_tup, items_lst, rng_i, ok_noX, bind_nm, bind_tp, bind_cons, bind_nil, wipe_nil, wipe_cons, ok_bnd, ok_ret, ok_opt, ok_ask, ok_ite, ok_asB, ok_stk, oko_some, oko_none, oko_map, oko_if, boolO_bl, rd_succ, rd_fz, rd_ow, d_fz, d_ow, ow_succ, ow_zero, List.set_cons_zero, List.set_cons_succ, bin_add, bin_sub, bin_mul, bin_fdiv, bin_mod, bin_pow, add_ii, add_ll, add_tt, sub_ii, mul_ii, fdiv_ii, mod_ii, pow_ii, neg_i, eqD_ii, eqD_bb, cmp_eq, cmp_ne, cmp_lt, cmp_le, cmp_gt, cmp_ge, isc_nn, isc_bb, isc_in, isc_tn, isc_ln, blt_len_scr, blt_len_tup, blt_len_lst, blt_tuple_lst, blt_tuple_tup, blt_list_lst, blt_list_tup, blt_all, blt_any, blt_max2, blt_min2, blt_int_b, blt_int_i, blt_repr, blt_isi, ix_tup, ix_lst, ix_scr, ty_one, ty_non_int, ty_non_bool, ty_non_str, ty_non_tuple, ty_non_list, ty_bl_int, ty_bl_bool, ty_bl_str, ty_bl_tuple, ty_bl_list, ty_int_int, ty_int_bool, ty_int_str, ty_int_tuple, ty_int_list, ty_str_int, ty_str_bool, ty_str_str, ty_str_tuple, ty_str_list, ty_tup_int, ty_tup_bool, ty_tup_str, ty_tup_tuple, ty_tup_list, ty_lst_int, ty_lst_bool, ty_lst_str, ty_lst_tuple, ty_lst_list, decide_eq_true_eq, Bool.not_true, Bool.not_false, if_true, if_false, ite_true, ite_false, Bool.false_eq_true, Bool.true_eq_false, Option.map_some, true_and, and_true, reduceCtorEq, List.length_cons, List.length_nil]
      all_goals first | exact ⟨by rw [bad rfl], rfl⟩ | (rw [bad rfl]; done) | skip
      rename_i zs
      obtain ⟨z1, z2⟩ := ok_tup.mp ox
      by_cases hz : ((zs.length : Int) == many) = true
      · simp only [ok_newc, upt_tup, upt_lst, frm_tup, frm_lst, rev_tup, rev_lst, trg_i, s_nil, s_ret, s_rtv, s_set, s_unp, s_par, s_app, s_expr, s_frz, cont_nx, cont_ret, fin_ret, fin_nx, frz_nil, frz_two, frz_succ, frz_z, frz_zn, List.getElem?_cons_zero, List.getElem?_cons_succ, setAll_cons, setAll_nil, e_var, e_cst, e_bin, e_neg, e_cmp, e_chn, e_isc, e_and, e_or, e_not, e_ite, e_tup, e_lst, e_newc, e_idx, e_from, e_upto, e_rev, e_call, e_blt, e_mth, e_trng, e_comp, es_nil, es_cons, rs_nil, rs_cons, vs_nil, vs_cons, c_no, c_yes, it_val, it_rng, it_enum, it_zip, c_F, f_F, items_tup, items_lst, rng_i, ok_noX, bind_nm, bind_tp, bind_cons, bind_nil, wipe_nil, wipe_cons, ok_bnd, ok_ret, ok_opt, ok_ask, ok_ite, ok_asB, ok_stk, oko_some, oko_none, oko_map, oko_if, boolO_bl, rd_succ, rd_fz, rd_ow, d_fz, d_ow, ow_succ, ow_zero, List.set_cons_zero, List.set_cons_succ, bin_add, bin_sub, bin_mul, bin_fdiv, bin_mod, bin_pow, add_ii, add_ll, add_tt, sub_ii, mul_ii, fdiv_ii, mod_ii, pow_ii, neg_i, eqD_ii, eqD_bb, cmp_eq, cmp_ne, cmp_lt, cmp_le, cmp_gt, cmp_ge, isc_nn, isc_bb, isc_in, isc_tn, isc_ln, blt_len_scr, blt_len_tup, blt_len_lst, blt_tuple_lst, blt_tuple_tup, blt_list_lst, blt_list_tup, blt_all, blt_any, blt_max2, blt_min2, blt_int_b, blt_int_i, blt_repr, blt_isi, ix_tup, ix_lst, ix_scr, ty_one, ty_non_int, ty_non_bool, ty_non_str, ty_non_tuple, ty_non_list, ty_bl_int, ty_bl_bool, ty_bl_str, ty_bl_tuple, ty_bl_list, ty_int_int, ty_int_bool, ty_int_str, ty_int_tuple, ty_int_list, ty_str_int, ty_str_bool, ty_str_str, ty_str_tuple, ty_str_list, ty_tup_int, ty_tup_bool, ty_tup_str, ty_tup_tuple, ty_tup_list, ty_lst_int, ty_lst_bool, ty_lst_str, ty_lst_tuple, ty_lst_list, decide_eq_true_eq, Bool.not_true, Bool.not_false, if_true, if_false, ite_true, ite_false, Bool.false_eq_true, Bool.true_eq_false, Option.map_some, true_and, and_true, reduceCtorEq, List.length_cons, List.length_nil, hz]
        rw [s_ite]
        simp only [ok_newc, upt_tup, upt_lst, frm_tup, frm_lst, rev_tup, rev_lst, trg_i, s_nil, s_ret, s_rtv, s_set, s_unp, s_par, s_app, s_expr, s_frz, cont_nx, cont_ret, fin_ret, fin_nx, frz_nil, frz_two, frz_succ, frz_z, frz_zn, List.getElem?_cons_zero, List.getElem?_cons_succ, setAll_cons, setAll_nil, e_var, e_cst, e_bin, e_neg, e_cmp, e_chn, e_isc, e_and, e_or, e_not, e_ite, e_tup, e_lst, e_newc, e_idx, e_from, e_upto, e_rev, e_call, e_blt, e_mth, e_trng, e_comp, es_nil, es_cons, rs_nil, rs_cons, vs_nil, vs_cons, c_no, c_yes, it_val, it_rng, it_enum, it_zip, c_F, f_F, items_tup, items_lst, rng_i, ok_noX, bind_nm, bind_tp, bind_cons, bind_nil, wipe_nil, wipe_cons, ok_bnd, ok_ret, ok_opt, ok_ask, ok_ite, ok_asB, ok_stk, oko_some, oko_none, oko_map, oko_if, boolO_bl, rd_succ, rd_fz, rd_ow, d_fz, d_ow, ow_succ, ow_zero, List.set_cons_zero, List.set_cons_succ, bin_add, bin_sub, bin_mul, bin_fdiv, bin_mod, bin_pow, add_ii, add_ll, add_tt, sub_ii, mul_ii, fdiv_ii, mod_ii, pow_ii, neg_i, eqD_ii, eqD_bb, cmp_eq, cmp_ne, cmp_lt, cmp_le, cmp_gt, cmp_ge, isc_nn, isc_bb, isc_in, isc_tn, isc_ln, blt_len_scr, blt_len_tup, blt_len_lst, blt_tuple_lst, blt_tuple_tup, blt_list_lst, blt_list_tup, blt_all, blt_any, blt_max2, blt_min2, blt_int_b, blt_int_i, blt_repr, blt_isi, ix_tup, ix_lst, ix_scr, ty_one, ty_non_int, ty_non_bool, ty_non_str, ty_non_tuple, ty_non_list, ty_bl_int, ty_bl_bool, ty_bl_str, ty_bl_tuple, ty_bl_list, ty_int_int, ty_int_bool, ty_int_str, ty_int_tuple, ty_int_list, ty_str_int, ty_str_bool, ty_str_str, ty_str_tuple, ty_str_list, ty_tup_int, ty_tup_bool, ty_tup_str, ty_tup_tuple, ty_tup_list, ty_lst_int, ty_lst_bool, ty_lst_str, ty_lst_tuple, ty_lst_list, decide_eq_true_eq, Bool.not_true, Bool.not_false, if_true, if_false, ite_true, ite_false, Bool.false_eq_true, Bool.true_eq_false, Option.map_some, true_and, and_true, reduceCtorEq, List.length_cons, List.length_nil]
        refine ok_of (comp_map (g := fun x => D.bl (isW 0 (many - 1) x)) (by omega) fun x hx => ?_) ?_
        · refine eq_of_ok ?_
          simp only [ok_newc, upt_tup, upt_lst, frm_tup, frm_lst, rev_tup, rev_lst, trg_i, s_nil, s_ret, s_rtv, s_set, s_unp, s_par, s_app, s_expr, s_frz, cont_nx, cont_ret, fin_ret, fin_nx, frz_nil, frz_two, frz_succ, frz_z, frz_zn, List.getElem?_cons_zero, List.getElem?_cons_succ, setAll_cons, setAll_nil, e_var, e_cst, e_bin, e_neg, e_cmp, e_chn, e_isc, e_and, e_or, e_not, e_ite, e_tup, e_lst, e_newc, e_idx, e_from, e_upto, e_rev, e_call, e_blt, e_mth, e_trng, e_comp, es_nil, es_cons, rs_nil, rs_cons, vs_nil, vs_cons, c_no, c_yes, it_val, it_rng, it_enum, it_zip, c_F, f_F, items_tup, items_lst, rng_i, ok_noX, bind_nm, bind_tp, bind_cons, bind_nil, wipe_nil, wipe_cons, ok_bnd, ok_ret, ok_opt, ok_ask, ok_ite, ok_asB, ok_stk, oko_some, oko_none, oko_map, oko_if, boolO_bl, rd_succ, rd_fz, rd_ow, d_fz, d_ow, ow_succ, ow_zero, List.set_cons_zero, List.set_cons_succ, bin_add, bin_sub, bin_mul, bin_fdiv, bin_mod, bin_pow, add_ii, add_ll, add_tt, sub_ii, mul_ii, fdiv_ii, mod_ii, pow_ii, neg_i, eqD_ii, eqD_bb, cmp_eq, cmp_ne, cmp_lt, cmp_le, cmp_gt, cmp_ge, isc_nn, isc_bb, isc_in, isc_tn, isc_ln, blt_len_scr, blt_len_tup, blt_len_lst, blt_tuple_lst, blt_tuple_tup, blt_list_lst, blt_list_tup, blt_all, blt_any, blt_max2, blt_min2, blt_int_b, blt_int_i, blt_repr, blt_isi, ix_tup, ix_lst, ix_scr, ty_one, ty_non_int, ty_non_bool, ty_non_str, ty_non_tuple, ty_non_list, ty_bl_int, ty_bl_bool, ty_bl_str, ty_bl_tuple, ty_bl_list, ty_int_int, ty_int_bool, ty_int_str, ty_int_tuple, ty_int_list, ty_str_int, ty_str_bool, ty_str_str, ty_str_tuple, ty_str_list, ty_tup_int, ty_tup_bool, ty_tup_str, ty_tup_tuple, ty_tup_list, ty_lst_int, ty_lst_bool, ty_lst_str, ty_lst_tuple, ty_lst_list, decide_eq_true_eq, Bool.not_true, Bool.not_false, if_true, if_false, ite_true, ite_false, Bool.false_eq_true, Bool.true_eq_false, Option.map_some, true_and, and_true, reduceCtorEq, List.length_cons, List.length_nil]
          refine ok_of (sp_law_from hw (z2 x hx)) ?_
          simp only [ok_newc, upt_tup, upt_lst, frm_tup, frm_lst, rev_tup, rev_lst, trg_i, s_nil, s_ret, s_rtv, s_set, s_unp, s_par, s_app, s_expr, s_frz, cont_nx, cont_ret, fin_ret, fin_nx, frz_nil, frz_two, frz_succ, frz_z, frz_zn, List.getElem?_cons_zero, List.getElem?_cons_succ, setAll_cons, setAll_nil, e_var, e_cst, e_bin, e_neg, e_cmp, e_chn, e_isc, e_and, e_or, e_not, e_ite, e_tup, e_lst, e_newc, e_idx, e_from, e_upto, e_rev, e_call, e_blt, e_mth, e_trng, e_comp, es_nil, es_cons, rs_nil, rs_cons, vs_nil, vs_cons, c_no, c_yes, it_val, it_rng, it_enum, it_zip, c_F, f_F, items_tup, items_lst, rng_i, ok_noX, bind_nm, bind_tp, bind_cons, bind_nil, wipe_nil, wipe_cons, ok_bnd, ok_ret, ok_opt, ok_ask, ok_ite, ok_asB, ok_stk, oko_some, oko_none, oko_map, oko_if, boolO_bl, rd_succ, rd_fz, rd_ow, d_fz, d_ow, ow_succ, ow_zero, List.set_cons_zero, List.set_cons_succ, bin_add, bin_sub, bin_mul, bin_fdiv, bin_mod, bin_pow, add_ii, add_ll, add_tt, sub_ii, mul_ii, fdiv_ii, mod_ii, pow_ii, neg_i, eqD_ii, eqD_bb, cmp_eq, cmp_ne, cmp_lt, cmp_le, cmp_gt, cmp_ge, isc_nn, isc_bb, isc_in, isc_tn, isc_ln, blt_len_scr, blt_len_tup, blt_len_lst, blt_tuple_lst, blt_tuple_tup, blt_list_lst, blt_list_tup, blt_all, blt_any, blt_max2, blt_min2, blt_int_b, blt_int_i, blt_repr, blt_isi, ix_tup, ix_lst, ix_scr, ty_one, ty_non_int, ty_non_bool, ty_non_str, ty_non_tuple, ty_non_list, ty_bl_int, ty_bl_bool, ty_bl_str, ty_bl_tuple, ty_bl_list, ty_int_int, ty_int_bool, ty_int_str, ty_int_tuple, ty_int_list, ty_str_int, ty_str_bool, ty_str_str, ty_str_tuple, ty_str_list, ty_tup_int, ty_tup_bool, ty_tup_str, ty_tup_tuple, ty_tup_list, ty_lst_int, ty_lst_bool, ty_lst_str, ty_lst_tuple, ty_lst_list, decide_eq_true_eq, Bool.not_true, Bool.not_false, if_true, if_false, ite_true, ite_false, Bool.false_eq_true, Bool.true_eq_false, Option.map_some, true_and, and_true, reduceCtorEq, List.length_cons, List.length_nil]
        · simp only [ok_newc, upt_tup, upt_lst, frm_tup, frm_lst, rev_tup, rev_lst, trg_i, s_nil, s_ret, s_rtv, s_set, s_unp, s_par, s_app, s_expr, s_frz, cont_nx, cont_ret, fin_ret, fin_nx, frz_nil, frz_two, frz_succ, frz_z, frz_zn, List.getElem?_cons_zero, List.getElem?_cons_succ, setAll_cons, setAll_nil, e_var, e_cst, e_bin, e_neg, e_cmp, e_chn, e_isc, e_and, e_or, e_not, e_ite, e_tup, e_lst, e_newc, e_idx, e_from, e_upto, e_rev, e_call, e_blt, e_mth, e_trng, e_comp, es_nil, es_cons, rs_nil, rs_cons, vs_nil, vs_cons, c_no, c_yes, it_val, it_rng, it_enum, it_zip, c_F, f_F, items_tup, items_lst, rng_i, ok_noX, bind_nm, bind_tp, bind_cons, bind_nil, wipe_nil, wipe_cons, ok_bnd, ok_ret, ok_opt, ok_ask, ok_ite, ok_asB, ok_stk, oko_some, oko_none, oko_map, oko_if, boolO_bl, rd_succ, rd_fz, rd_ow, d_fz, d_ow, ow_succ, ow_zero, List.set_cons_zero, List.set_cons_succ, bin_add, bin_sub, bin_mul, bin_fdiv, bin_mod, bin_pow, add_ii, add_ll, add_tt, sub_ii, mul_ii, fdiv_ii, mod_ii, pow_ii, neg_i, eqD_ii, eqD_bb, cmp_eq, cmp_ne, cmp_lt, cmp_le, cmp_gt, cmp_ge, isc_nn, isc_bb, isc_in, isc_tn, isc_ln, blt_len_scr, blt_len_tup, blt_len_lst, blt_tuple_lst, blt_tuple_tup, blt_list_lst, blt_list_tup, blt_all, blt_any, blt_max2, blt_min2, blt_int_b, blt_int_i, blt_repr, blt_isi, ix_tup, ix_lst, ix_scr, ty_one, ty_non_int, ty_non_bool, ty_non_str, ty_non_tuple, ty_non_list, ty_bl_int, ty_bl_bool, ty_bl_str, ty_bl_tuple, ty_bl_list, ty_int_int, ty_int_bool, ty_int_str, ty_int_tuple, ty_int_list, ty_str_int, ty_str_bool, ty_str_str, ty_str_tuple, ty_str_list, ty_tup_int, ty_tup_bool, ty_tup_str, ty_tup_tuple, ty_tup_list, ty_lst_int, ty_lst_bool, ty_lst_str, ty_lst_tuple, ty_lst_list, decide_eq_true_eq, Bool.not_true, Bool.not_false, if_true, if_false, ite_true, ite_false, Bool.false_eq_true, Bool.true_eq_false, Option.map_some, true_and, and_true, reduceCtorEq, List.length_cons, List.length_nil, boolsD_map', all_id]
          cases ha' : zs.all (isW 0 (many - 1)) with
          | false =>
            have := bad (by simp [isM, ha'])
            simp [ok_newc, upt_tup, upt_lst, frm_tup, frm_lst, rev_tup, rev_lst, trg_i, s_nil, s_ret, s_rtv, s_set, s_unp, s_par, s_app, s_expr, s_frz, cont_nx, cont_ret, fin_ret, fin_nx, frz_nil, frz_two, frz_succ, frz_z, frz_zn, List.getElem?_cons_zero, List.getElem?_cons_succ, setAll_cons, setAll_nil, e_var, e_cst, e_bin, e_neg, e_cmp, e_chn, e_isc, e_and, e_or, e_not, e_ite, e_tup, e_lst, e_newc, e_idx, e_from, e_upto, e_rev, e_call, e_blt, e_mth, e_trng, e_comp, es_nil, es_cons, rs_nil, rs_cons, vs_nil, vs_cons, c_no, c_yes, it_val, it_rng, it_enum, it_zip, c_F, f_F, items_tup, items_lst, rng_i, ok_noX, bind_nm, bind_tp, bind_cons, bind_nil, wipe_nil, wipe_cons, ok_bnd, ok_ret, ok_opt, ok_ask, ok_ite, ok_asB, ok_stk, oko_some, oko_none, oko_map, oko_if, boolO_bl, rd_succ, rd_fz, rd_ow, d_fz, d_ow, ow_succ, ow_zero, List.set_cons_zero, List.set_cons_succ, bin_add, bin_sub, bin_mul, bin_fdiv, bin_mod, bin_pow, add_ii, add_ll, add_tt, sub_ii, mul_ii, fdiv_ii, mod_ii, pow_ii, neg_i, eqD_ii, eqD_bb, cmp_eq, cmp_ne, cmp_lt, cmp_le, cmp_gt, cmp_ge, isc_nn, isc_bb, isc_in, isc_tn, isc_ln, blt_len_scr, blt_len_tup, blt_len_lst, blt_tuple_lst, blt_tuple_tup, blt_list_lst, blt_list_tup, blt_all, blt_any, blt_max2, blt_min2, blt_int_b, blt_int_i, blt_repr, blt_isi, ix_tup, ix_lst, ix_scr, ty_one, ty_non_int, ty_non_bool, ty_non_str, ty_non_tuple, ty_non_list, ty_bl_int, ty_bl_bool, ty_bl_str, ty_bl_tuple, ty_bl_list, ty_int_int, ty_int_bool, ty_int_str, ty_int_tuple, ty_int_list, ty_str_int, ty_str_bool, ty_str_str, ty_str_tuple, ty_str_list, ty_tup_int, ty_tup_bool, ty_tup_str, ty_tup_tuple, ty_tup_list, ty_lst_int, ty_lst_bool, ty_lst_str, ty_lst_tuple, ty_lst_list, decide_eq_true_eq, Bool.not_true, Bool.not_false, if_true, if_false, ite_true, ite_false, Bool.false_eq_true, Bool.true_eq_false, Option.map_some, true_and, and_true, reduceCtorEq, List.length_cons, List.length_nil, this]
          | true =>
            simp only [ok_newc, upt_tup, upt_lst, frm_tup, frm_lst, rev_tup, rev_lst, trg_i, s_nil, s_ret, s_rtv, s_set, s_unp, s_par, s_app, s_expr, s_frz, cont_nx, cont_ret, fin_ret, fin_nx, frz_nil, frz_two, frz_succ, frz_z, frz_zn, List.getElem?_cons_zero, List.getElem?_cons_succ, setAll_cons, setAll_nil, e_var, e_cst, e_bin, e_neg, e_cmp, e_chn, e_isc, e_and, e_or, e_not, e_ite, e_tup, e_lst, e_newc, e_idx, e_from, e_upto, e_rev, e_call, e_blt, e_mth, e_trng, e_comp, es_nil, es_cons, rs_nil, rs_cons, vs_nil, vs_cons, c_no, c_yes, it_val, it_rng, it_enum, it_zip, c_F, f_F, items_tup, items_lst, rng_i, ok_noX, bind_nm, bind_tp, bind_cons, bind_nil, wipe_nil, wipe_cons, ok_bnd, ok_ret, ok_opt, ok_ask, ok_ite, ok_asB, ok_stk, oko_some, oko_none, oko_map, oko_if, boolO_bl, rd_succ, rd_fz, rd_ow, d_fz, d_ow, ow_succ, ow_zero, List.set_cons_zero, List.set_cons_succ, bin_add, bin_sub, bin_mul, bin_fdiv, bin_mod, bin_pow, add_ii, add_ll, add_tt, sub_ii, mul_ii, fdiv_ii, mod_ii, pow_ii, neg_i, eqD_ii, eqD_bb, cmp_eq, cmp_ne, cmp_lt, cmp_le, cmp_gt, cmp_ge, isc_nn, isc_bb, isc_in, isc_tn, isc_ln, blt_len_scr, blt_len_tup, blt_len_lst, blt_tuple_lst, blt_tuple_tup, blt_list_lst, blt_list_tup, blt_all, blt_any, blt_max2, blt_min2, blt_int_b, blt_int_i, blt_repr, blt_isi, ix_tup, ix_lst, ix_scr, ty_one, ty_non_int, ty_non_bool, ty_non_str, ty_non_tuple, ty_non_list, ty_bl_int, ty_bl_bool, ty_bl_str, ty_bl_tuple, ty_bl_list, ty_int_int, ty_int_bool, ty_int_str, ty_int_tuple, ty_int_list, ty_str_int, ty_str_bool, ty_str_str, ty_str_tuple, ty_str_list, ty_tup_int, ty_tup_bool, ty_tup_str, ty_tup_tuple, ty_tup_list, ty_lst_int, ty_lst_bool, ty_lst_str, ty_lst_tuple, ty_lst_list, decide_eq_true_eq, Bool.not_true, Bool.not_false, if_true, if_false, ite_true, ite_false, Bool.false_eq_true, Bool.true_eq_false, Option.map_some, true_and, and_true, reduceCtorEq, List.length_cons, List.length_nil]
            refine ⟨⟨_, _, rfl⟩, fun j y hj hy => ?_⟩
            by_cases hji : j < i
            · exact hI j y hji hy
            · have : j = i := by omega
              subst this
              rw [hx] at hy
              cases hy
              simp [isM, ha', eq_of_beq hz]
      · have hz : ((zs.length : Int) == many) = false := by simpa using hz
        have := bad (by simp [isM, hz])
        simp [ok_newc, upt_tup, upt_lst, frm_tup, frm_lst, rev_tup, rev_lst, trg_i, s_nil, s_ret, s_rtv, s_set, s_unp, s_par, s_app, s_expr, s_frz, cont_nx, cont_ret, fin_ret, fin_nx, frz_nil, frz_two, frz_succ, frz_z, frz_zn, List.getElem?_cons_zero, List.getElem?_cons_succ, setAll_cons, setAll_nil, e_var, e_cst, e_bin, e_neg, e_cmp, e_chn, e_isc, e_and, e_or, e_not, e_ite, e_tup, e_lst, e_newc, e_idx, e_from, e_upto, e_rev, e_call, e_blt, e_mth, e_trng, e_comp, es_nil, es_cons, rs_nil, rs_cons, vs_nil, vs_cons, c_no, c_yes, it_val, it_rng, it_enum, it_zip, c_F, f_F, items_tup, items_lst, rng_i, ok_noX, bind_nm, bind_tp, bind_cons, bind_nil, wipe_nil, wipe_cons, ok_bnd, ok_ret, ok_opt, ok_ask, ok_ite, ok_asB, ok_stk, oko_some, oko_none, oko_map, oko_if, boolO_bl, rd_succ, rd_fz, rd_ow, d_fz, d_ow, ow_succ, ow_zero, List.set_cons_zero, List.set_cons_succ, bin_add, bin_sub, bin_mul, bin_fdiv, bin_mod, bin_pow, add_ii, add_ll, add_tt, sub_ii, mul_ii, fdiv_ii, mod_ii, pow_ii, neg_i, eqD_ii, eqD_bb, cmp_eq, cmp_ne, cmp_lt, cmp_le, cmp_gt, cmp_ge, isc_nn, isc_bb, isc_in, isc_tn, isc_ln, blt_len_scr, blt_len_tup, blt_len_lst, blt_tuple_lst, blt_tuple_tup, blt_list_lst, blt_list_tup, blt_all, blt_any, blt_max2, blt_min2, blt_int_b, blt_int_i, blt_repr, blt_isi, ix_tup, ix_lst, ix_scr, ty_one, ty_non_int, ty_non_bool, ty_non_str, ty_non_tuple, ty_non_list, ty_bl_int, ty_bl_bool, ty_bl_str, ty_bl_tuple, ty_bl_list, ty_int_int, ty_int_bool, ty_int_str, ty_int_tuple, ty_int_list, ty_str_int, ty_str_bool, ty_str_str, ty_str_tuple, ty_str_list, ty_tup_int, ty_tup_bool, ty_tup_str, ty_tup_tuple, ty_tup_list, ty_lst_int, ty_lst_bool, ty_lst_str, ty_lst_tuple, ty_lst_list, decide_eq_true_eq, Bool.not_true, Bool.not_false, if_true, if_false, ite_true, ite_false, Bool.false_eq_true, Bool.true_eq_false, Option.map_some, true_and, and_true, reduceCtorEq, List.length_cons, List.length_nil, hz, this]
    · rintro ⟨rfl, ⟨u, v, rfl⟩, hI⟩
      have hc := hI 0 c (by simp) rfl
      have he := hI 1 e (by simp) rfl
      simp [ok_newc, upt_tup, upt_lst, frm_tup, frm_lst, rev_tup, rev_lst, trg_i, s_nil, s_ret, s_rtv, s_set, s_unp, s_par, s_app, s_expr, s_frz, cont_nx, cont_ret, fin_ret, fin_nx, frz_nil, frz_two, frz_succ, frz_z, frz_zn, List.getElem?_cons_zero, List.getElem?_cons_succ, setAll_cons, setAll_nil, e_var, e_cst, e_bin, e_neg, e_cmp, e_chn, e_isc, e_and, e_or, e_not, e_ite, e_tup, e_lst, e_newc, e_idx, e_from, e_upto, e_rev, e_call, e_blt, e_mth, e_trng, e_comp, es_nil, es_cons, rs_nil, rs_cons, vs_nil, vs_cons, c_no, c_yes, it_val, it_rng, it_enum, it_zip, c_F, f_F, items_tup, items_lst, rng_i, ok_noX, bind_nm, bind_tp, bind_cons, bind_nil, wipe_nil, wipe_cons, ok_bnd, ok_ret, ok_opt, ok_ask, ok_ite, ok_asB, ok_stk, oko_some, oko_none, oko_map, oko_if, boolO_bl, rd_succ, rd_fz, rd_ow, d_fz, d_ow, ow_succ, ow_zero, List.set_cons_zero, List.set_cons_succ, bin_add, bin_sub, bin_mul, bin_fdiv, bin_mod, bin_pow, add_ii, add_ll, add_tt, sub_ii, mul_ii, fdiv_ii, mod_ii, pow_ii, neg_i, eqD_ii, eqD_bb, cmp_eq, cmp_ne, cmp_lt, cmp_le, cmp_gt, cmp_ge, isc_nn, isc_bb, isc_in, isc_tn, isc_ln, blt_len_scr, blt_len_tup, blt_len_lst, blt_tuple_lst, blt_tuple_tup, blt_list_lst, blt_list_tup, blt_all, blt_any, blt_max2, blt_min2, blt_int_b, blt_int_i, blt_repr, blt_isi, ix_tup, ix_lst, ix_scr, ty_one, ty_non_int, ty_non_bool, ty_non_str, ty_non_tuple, ty_non_list, ty_bl_int, ty_bl_bool, ty_bl_str, ty_bl_tuple, ty_bl_list, ty_int_int, ty_int_bool, ty_int_str, ty_int_tuple, ty_int_list, ty_str_int, ty_str_bool, ty_str_str, ty_str_tuple, ty_str_list, ty_tup_int, ty_tup_bool, ty_tup_str, ty_tup_tuple, ty_tup_list, ty_lst_int, ty_lst_bool, ty_lst_str, ty_lst_tuple, ty_lst_list, decide_eq_true_eq, Bool.not_true, Bool.not_false, if_true, if_false, ite_true, ite_false, Bool.false_eq_true, Bool.true_eq_false, Option.map_some, true_and, and_true, reduceCtorEq, List.length_cons, List.length_nil, isY, ha, hb, hc, he]
  · have : ((xs.length : Int) == 4) = false := by simpa using hl
    simp [ok_newc, upt_tup, upt_lst, frm_tup, frm_lst, rev_tup, rev_lst, trg_i, s_nil, s_ret, s_rtv, s_set, s_unp, s_par, s_app, s_expr, s_frz, cont_nx, cont_ret, fin_ret, fin_nx, frz_nil, frz_two, frz_succ, frz_z, frz_zn, List.getElem?_cons_zero, List.getElem?_cons_succ, setAll_cons, setAll_nil, e_var, e_cst, e_bin, e_neg, e_cmp, e_chn, e_isc, e_and, e_or, e_not, e_ite, e_tup, e_lst, e_newc, e_idx, e_from, e_upto, e_rev, e_call, e_blt, e_mth, e_trng, e_comp, es_nil, es_cons, rs_nil, rs_cons, vs_nil, vs_cons, c_no, c_yes, it_val, it_rng, it_enum, it_zip, c_F, f_F, items_tup, items_lst, rng_i, ok_noX, bind_nm, bind_tp, bind_cons, bind_nil, wipe_nil, wipe_cons, ok_bnd, ok_ret, ok_opt, ok_ask, ok_ite, ok_asB, ok_stk, oko_some, oko_none, oko_map, oko_if, boolO_bl, rd_succ, rd_fz, rd_ow, d_fz, d_ow, ow_succ, ow_zero, List.set_cons_zero, List.set_cons_succ, bin_add, bin_sub, bin_mul, bin_fdiv, bin_mod, bin_pow, add_ii, add_ll, add_tt, sub_ii, mul_ii, fdiv_ii, mod_ii, pow_ii, neg_i, eqD_ii, eqD_bb, cmp_eq, cmp_ne, cmp_lt, cmp_le, cmp_gt, cmp_ge, isc_nn, isc_bb, isc_in, isc_tn, isc_ln, blt_len_scr, blt_len_tup, blt_len_lst, blt_tuple_lst, blt_tuple_tup, blt_list_lst, blt_list_tup, blt_all, blt_any, blt_max2, blt_min2, blt_int_b, blt_int_i, blt_repr, blt_isi, ix_tup, ix_lst, ix_scr, ty_one, ty_non_int, ty_non_bool, ty_non_str, ty_non_tuple, ty_non_list, ty_bl_int, ty_bl_bool, ty_bl_str, ty_bl_tuple, ty_bl_list, ty_int_int, ty_int_bool, ty_int_str, ty_int_tuple, ty_int_list, ty_str_int, ty_str_bool, ty_str_str, ty_str_tuple, ty_str_list, ty_tup_int, ty_tup_bool, ty_tup_str, ty_tup_tuple, ty_tup_list, ty_lst_int, ty_lst_bool, ty_lst_str, ty_lst_tuple, ty_lst_list, decide_eq_true_eq, Bool.not_true, Bool.not_false, if_true, if_false, ite_true, ite_false, Bool.false_eq_true, Bool.true_eq_false, Option.map_some, true_and, and_true, reduceCtorEq, List.length_cons, List.length_nil, this, isY_no hl]
theorem sp_law_is_kind (h : P f = some (d__law_is_kind (c__law_is_way := g))) (hg : P g = some (d__law_is_way (c__law_from := w))) (hw : P w = some d__law_from) (hd : D.ok m d = true) (hm : m ≤ sizeLine) : run P (n + 3) f [d] S = .ok (.fz (.bl (isK d))) S := by
  refine eq_of_ok (ok_run h rfl ?_)
  show Ok (execSs _ (.cons (.ite _ _ _) _) [some (.fz d), none, none] S) _
  rw [s_ite]
  cases d <;> first | (cases hd; done) | skip
  all_goals simp only [ok_newc, upt_tup, upt_lst, frm_tup, frm_lst, rev_tup, rev_lst, trg_i, s_nil, s_ret, s_rtv, s_set, s_unp, s_par, s_app, s_expr, s_frz, cont_nx, cont_ret, fin_ret, fin_nx, frz_nil, frz_two, frz_succ, frz_z, frz_zn, List.getElem?_cons_zero, List.getElem?_cons_succ, setAll_cons, setAll_nil, e_var, e_cst, e_bin, e_neg, e_cmp, e_chn, e_isc, e_and, e_or, e_not, e_ite, e_tup, e_lst, e_newc, e_idx, e_from, e_upto, e_rev, e_call, e_blt, e_mth, e_trng, e_comp, es_nil, es_cons, rs_nil, rs_cons, vs_nil, vs_cons, c_no, c_yes, it_val, it_rng, it_enum, it_zip, c_F, f_F, items_tup, items_lst, rng_i, ok_noX, bind_nm, bind_tp, bind_cons, bind_nil, wipe_nil, wipe_cons, ok_bnd, ok_ret, ok_opt, ok_ask, ok_ite, ok_asB, ok_stk, oko_some, oko_none, oko_map, oko_if, boolO_bl, rd_succ, rd_fz, rd_ow, d_fz, d_ow, ow_succ, ow_zero, List.set_cons_zero, List.set_cons_succ, bin_add, bin_sub, bin_mul, bin_fdiv, bin_mod, bin_pow, add_ii, add_ll, add_tt, sub_ii, mul_ii, fdiv_ii, mod_ii, pow_ii, neg_i, eqD_ii, eqD_bb, cmp_eq, cmp_ne, cmp_lt, cmp_le, cmp_gt, cmp_ge, isc_nn, isc_bb, isc_in, isc_tn, isc_ln, blt_len_scr, blt_len_tup, blt_len_lst, blt_tuple_lst, blt_tuple_tup, blt_list_lst, blt_list_tup, blt_all, blt_any, blt_max2, blt_min2, blt_int_b, blt_int_i, blt_repr, blt_isi, ix_tup, ix_lst, ix_scr, ty_one, ty_non_int, ty_non_bool, ty_non_str, ty_non_tuple, ty_non_list, ty_bl_int, ty_bl_bool, ty_bl_str, ty_bl_tuple, ty_bl_list, ty_int_int, ty_int_bool, ty_int_str, ty_int_tuple, ty_int_list, ty_str_int, ty_str_bool, ty_str_str, ty_str_tuple, ty_str_list, ty_tup_int, ty_tup_bool, ty_tup_str, ty_tup_tuple, ty_tup_list, ty_lst_int, ty_lst_bool, ty_lst_str, ty_lst_tuple, ty_lst_list, decide_eq_true_eq, Bool.not_true, Bool.not_false, if_true, if_false, ite_true, ite_false, Bool.false_eq_true, Bool.true_eq_false, Option.map_some, true_and, and_true, reduceCtorEq, List.length_cons, List.length_nil]
  all_goals first | exact ⟨rfl, rfl⟩ | rfl | skip
  rename_i xs
  obtain ⟨h1, h2⟩ := ok_tup.mp hd
  by_cases hl : ((1 : Int) ≤ xs.length)
  · by_cases hl2 : ((xs.length : Int) ≤ 6)
    · simp only [ok_newc, upt_tup, upt_lst, frm_tup, frm_lst, rev_tup, rev_lst, trg_i, s_nil, s_ret, s_rtv, s_set, s_unp, s_par, s_app, s_expr, s_frz, cont_nx, cont_ret, fin_ret, fin_nx, frz_nil, frz_two, frz_succ, frz_z, frz_zn, List.getElem?_cons_zero, List.getElem?_cons_succ, setAll_cons, setAll_nil, e_var, e_cst, e_bin, e_neg, e_cmp, e_chn, e_isc, e_and, e_or, e_not, e_ite, e_tup, e_lst, e_newc, e_idx, e_from, e_upto, e_rev, e_call, e_blt, e_mth, e_trng, e_comp, es_nil, es_cons, rs_nil, rs_cons, vs_nil, vs_cons, c_no, c_yes, it_val, it_rng, it_enum, it_zip, c_F, f_F, items_tup, items_lst, rng_i, ok_noX, bind_nm, bind_tp, bind_cons, bind_nil, wipe_nil, wipe_cons, ok_bnd, ok_ret, ok_opt, ok_ask, ok_ite, ok_asB, ok_stk, oko_some, oko_none, oko_map, oko_if, boolO_bl, rd_succ, rd_fz, rd_ow, d_fz, d_ow, ow_succ, ow_zero, List.set_cons_zero, List.set_cons_succ, bin_add, bin_sub, bin_mul, bin_fdiv, bin_mod, bin_pow, add_ii, add_ll, add_tt, sub_ii, mul_ii, fdiv_ii, mod_ii, pow_ii, neg_i, eqD_ii, eqD_bb, cmp_eq, cmp_ne, cmp_lt, cmp_le, cmp_gt, cmp_ge, isc_nn, isc_bb, isc_in, isc_tn, isc_ln, blt_len_scr, blt_len_tup, blt_len_lst, blt_tuple_lst, blt_tuple_tup, blt_list_lst, blt_list_tup, blt_all, blt_any, blt_max2, blt_min2, blt_int_b, blt_int_i, blt_repr, blt_isi, ix_tup, ix_lst, ix_scr, ty_one, ty_non_int, ty_non_bool, ty_non_str, ty_non_tuple, ty_non_list, ty_bl_int, ty_bl_bool, ty_bl_str, ty_bl_tuple, ty_bl_list, ty_int_int, ty_int_bool, ty_int_str, ty_int_tuple, ty_int_list, ty_str_int, ty_str_bool, ty_str_str, ty_str_tuple, ty_str_list, ty_tup_int, ty_tup_bool, ty_tup_str, ty_tup_tuple, ty_tup_list, ty_lst_int, ty_lst_bool, ty_lst_str, ty_lst_tuple, ty_lst_list, decide_eq_true_eq, Bool.not_true, Bool.not_false, if_true, if_false, ite_true, ite_false, Bool.false_eq_true, Bool.true_eq_false, Option.map_some, true_and, and_true, reduceCtorEq, List.length_cons, List.length_nil, hl, hl2, decide_true]
      rw [s_for]
      simp only [ok_newc, upt_tup, upt_lst, frm_tup, frm_lst, rev_tup, rev_lst, trg_i, s_nil, s_ret, s_rtv, s_set, s_unp, s_par, s_app, s_expr, s_frz, cont_nx, cont_ret, fin_ret, fin_nx, frz_nil, frz_two, frz_succ, frz_z, frz_zn, List.getElem?_cons_zero, List.getElem?_cons_succ, setAll_cons, setAll_nil, e_var, e_cst, e_bin, e_neg, e_cmp, e_chn, e_isc, e_and, e_or, e_not, e_ite, e_tup, e_lst, e_newc, e_idx, e_from, e_upto, e_rev, e_call, e_blt, e_mth, e_trng, e_comp, es_nil, es_cons, rs_nil, rs_cons, vs_nil, vs_cons, c_no, c_yes, it_val, it_rng, it_enum, it_zip, c_F, f_F, items_tup, items_lst, rng_i, ok_noX, bind_nm, bind_tp, bind_cons, bind_nil, wipe_nil, wipe_cons, ok_bnd, ok_ret, ok_opt, ok_ask, ok_ite, ok_asB, ok_stk, oko_some, oko_none, oko_map, oko_if, boolO_bl, rd_succ, rd_fz, rd_ow, d_fz, d_ow, ow_succ, ow_zero, List.set_cons_zero, List.set_cons_succ, bin_add, bin_sub, bin_mul, bin_fdiv, bin_mod, bin_pow, add_ii, add_ll, add_tt, sub_ii, mul_ii, fdiv_ii, mod_ii, pow_ii, neg_i, eqD_ii, eqD_bb, cmp_eq, cmp_ne, cmp_lt, cmp_le, cmp_gt, cmp_ge, isc_nn, isc_bb, isc_in, isc_tn, isc_ln, blt_len_scr, blt_len_tup, blt_len_lst, blt_tuple_lst, blt_tuple_tup, blt_list_lst, blt_list_tup, blt_all, blt_any, blt_max2, blt_min2, blt_int_b, blt_int_i, blt_repr, blt_isi, ix_tup, ix_lst, ix_scr, ty_one, ty_non_int, ty_non_bool, ty_non_str, ty_non_tuple, ty_non_list, ty_bl_int, ty_bl_bool, ty_bl_str, ty_bl_tuple, ty_bl_list, ty_int_int, ty_int_bool, ty_int_str, ty_int_tuple, ty_int_list, ty_str_int, ty_str_bool, ty_str_str, ty_str_tuple, ty_str_list, ty_tup_int, ty_tup_bool, ty_tup_str, ty_tup_tuple, ty_tup_list, ty_lst_int, ty_lst_bool, ty_lst_str, ty_lst_tuple, ty_lst_list, decide_eq_true_eq, Bool.not_true, Bool.not_false, if_true, if_false, ite_true, ite_false, Bool.false_eq_true, Bool.true_eq_false, Option.map_some, true_and, and_true, reduceCtorEq, List.length_cons, List.length_nil]
      refine for_ok xs (fun i env S' => S' = S ∧ (∃ u v, env = [some (.fz (.tup xs)), u, v]) ∧ ∀ (j : Nat) x, j < i → xs[j]? = some x → isO xs.length x = true) ⟨rfl, ⟨_, _, rfl⟩, fun j x hj => absurd hj (Nat.not_lt_zero _)⟩ (fun i x env S' hx => ?_) (fun env S' => ?_)
      · rintro ⟨rfl, ⟨u, v, rfl⟩, hI⟩
        have hmem := List.mem_of_getElem? hx
        have ox := h2 x hmem
        have bad : isO xs.length x = false → isK (.tup xs) = false := fun hb' => by
          have : xs.all (isO xs.length) = false := by
            rw [List.all_eq_false]
            exact ⟨x, hmem, by rw [hb']; decide⟩
          simp [isK, this]
        simp only [ok_newc, upt_tup, upt_lst, frm_tup, frm_lst, rev_tup, rev_lst, trg_i, s_nil, s_ret, s_rtv, s_set, s_unp, s_par, s_app, s_expr, s_frz, cont_nx, cont_ret, fin_ret, fin_nx, frz_nil, frz_two, frz_succ, frz_z, frz_zn, List.getElem?_cons_zero, List.getElem?_cons_succ, setAll_cons, setAll_nil, e_var, e_cst, e_bin, e_neg, e_cmp, e_chn, e_isc, e_and, e_or, e_not, e_ite, e_tup, e_lst, e_newc, e_idx, e_from, e_upto, e_rev, e_call, e_blt, e_mth, e_trng, e_comp, es_nil, es_cons, rs_nil, rs_cons, vs_nil, vs_cons, c_no, c_yes, it_val, it_rng, it_enum, it_zip, c_F, f_F, items_tup, items_lst, rng_i, ok_noX, bind_nm, bind_tp, bind_cons, bind_nil, wipe_nil, wipe_cons, ok_bnd, ok_ret, ok_opt, ok_ask, ok_ite, ok_asB, ok_stk, oko_some, oko_none, oko_map, oko_if, boolO_bl, rd_succ, rd_fz, rd_ow, d_fz, d_ow, ow_succ, ow_zero, List.set_cons_zero, List.set_cons_succ, bin_add, bin_sub, bin_mul, bin_fdiv, bin_mod, bin_pow, add_ii, add_ll, add_tt, sub_ii, mul_ii, fdiv_ii, mod_ii, pow_ii, neg_i, eqD_ii, eqD_bb, cmp_eq, cmp_ne, cmp_lt, cmp_le, cmp_gt, cmp_ge, isc_nn, isc_bb, isc_in, isc_tn, isc_ln, blt_len_scr, blt_len_tup, blt_len_lst, blt_tuple_lst, blt_tuple_tup, blt_list_lst, blt_list_tup, blt_all, blt_any, blt_max2, blt_min2, blt_int_b, blt_int_i, blt_repr, blt_isi, ix_tup, ix_lst, ix_scr, ty_one, ty_non_int, ty_non_bool, ty_non_str, ty_non_tuple, ty_non_list, ty_bl_int, ty_bl_bool, ty_bl_str, ty_bl_tuple, ty_bl_list, ty_int_int, ty_int_bool, ty_int_str, ty_int_tuple, ty_int_list, ty_str_int, ty_str_bool, ty_str_str, ty_str_tuple, ty_str_list, ty_tup_int, ty_tup_bool, ty_tup_str, ty_tup_tuple, ty_tup_list, ty_lst_int, ty_lst_bool, ty_lst_str, ty_lst_tuple, ty_lst_list, decide_eq_true_eq, Bool.not_true, Bool.not_false, if_true, if_false, ite_true, ite_false, Bool.false_eq_true, Bool.true_eq_false, Option.map_some, true_and, and_true, reduceCtorEq, List.length_cons, List.length_nil]
        rw [s_ite]
        cases x <;> first | (cases ox; done) | skip
        all_goals simp only [ok_newc, upt_tup, upt_lst, frm_tup, frm_lst, rev_tup, rev_lst, trg_i, s_nil, s_ret, s_rtv, s_set, s_unp, s_par, s_app, s_expr, s_frz, cont_nx, cont_ret, fin_ret, fin_nx, frz_nil, frz_two, frz_succ, frz_z, frz_zn, List.getElem?_cons_zero, List.getElem?_cons_succ, setAll_cons, setAll_nil, e_var, e_cst, e_bin, e_neg, e_cmp, e_chn, e_isc, e_and, e_or, e_not, e_ite, e_tup, e_lst, e_newc, e_idx, e_from, e_upto, e_rev, e_call, e_blt, e_mth, e_trng, e_comp, es_nil, es_cons, rs_nil, rs_cons, vs_nil, vs_cons, c_no, c_yes, it_val, it_rng, it_enum, it_zip, c_F, f_F, items_tup, items_lst, rng_i, ok_noX, bind_nm, bind_tp, bind_cons, bind_nil, wipe_nil, wipe_cons, ok_bnd, ok_ret, ok_opt, ok_ask, ok_ite, ok_asB, ok_stk, oko_some, oko_none, oko_map, oko_if, boolO_bl, rd_succ, rd_fz, rd_ow, d_fz, d_ow, ow_succ, ow_zero, List.set_cons_zero, List.set_cons_succ, bin_add, bin_sub, bin_mul, bin_fdiv, bin_mod, bin_pow, add_ii, add_ll, add_tt, sub_ii, mul_ii, fdiv_ii, mod_ii, pow_ii, neg_i, eqD_ii, eqD_bb, cmp_eq, cmp_ne, cmp_lt, cmp_le, cmp_gt, cmp_ge, isc_nn, isc_bb, isc_in, isc_tn, isc_ln, blt_len_scr, blt_len_tup, blt_len_lst, blt_tuple_lst, blt_tuple_tup, blt_list_lst, blt_list_tup, blt_all, blt_any, blt_max2, blt_min2, blt_int_b, blt_int_i, blt_repr, blt_isi, ix_tup, ix_lst, ix_scr, ty_one, ty_non_int, ty_non_bool, ty_non_str, ty_non_tuple, ty_non_list, ty_bl_int, ty_bl_bool, ty_bl_str, ty_bl_tuple, ty_bl_list, ty_int_int, ty_int_bool, ty_int_str, ty_int_tuple, ty_int_list, ty_str_int, ty_str_bool, ty_str_str, ty_str_tuple, ty_str_list, ty_tup_int, ty_tup_bool, ty_tup_str, ty_tup_tuple, ty_tup_list, ty_lst_int, ty_lst_bool, ty_lst_str, ty_lst_tuple, ty_lst_list, decide_eq_true_eq, Bool.not_true, Bool.not_false, if_true, if_false, ite_true, ite_false, Bool.false_eq_true, Bool.true_eq_false, Option.map_some, true_and, and_true, reduceCtorEq, List.length_cons, List.length_nil]
        all_goals first | exact ⟨by rw [bad rfl], rfl⟩ | (rw [bad rfl]; done) | skip
        rename_i zs
        obtain ⟨z1, z2⟩ := ok_tup.mp ox
        by_cases hz : (3 : Int) < zs.length
        · have := bad (by simp [isO]; omega)
          simp [ok_newc, upt_tup, upt_lst, frm_tup, frm_lst, rev_tup, rev_lst, trg_i, s_nil, s_ret, s_rtv, s_set, s_unp, s_par, s_app, s_expr, s_frz, cont_nx, cont_ret, fin_ret, fin_nx, frz_nil, frz_two, frz_succ, frz_z, frz_zn, List.getElem?_cons_zero, List.getElem?_cons_succ, setAll_cons, setAll_nil, e_var, e_cst, e_bin, e_neg, e_cmp, e_chn, e_isc, e_and, e_or, e_not, e_ite, e_tup, e_lst, e_newc, e_idx, e_from, e_upto, e_rev, e_call, e_blt, e_mth, e_trng, e_comp, es_nil, es_cons, rs_nil, rs_cons, vs_nil, vs_cons, c_no, c_yes, it_val, it_rng, it_enum, it_zip, c_F, f_F, items_tup, items_lst, rng_i, ok_noX, bind_nm, bind_tp, bind_cons, bind_nil, wipe_nil, wipe_cons, ok_bnd, ok_ret, ok_opt, ok_ask, ok_ite, ok_asB, ok_stk, oko_some, oko_none, oko_map, oko_if, boolO_bl, rd_succ, rd_fz, rd_ow, d_fz, d_ow, ow_succ, ow_zero, List.set_cons_zero, List.set_cons_succ, bin_add, bin_sub, bin_mul, bin_fdiv, bin_mod, bin_pow, add_ii, add_ll, add_tt, sub_ii, mul_ii, fdiv_ii, mod_ii, pow_ii, neg_i, eqD_ii, eqD_bb, cmp_eq, cmp_ne, cmp_lt, cmp_le, cmp_gt, cmp_ge, isc_nn, isc_bb, isc_in, isc_tn, isc_ln, blt_len_scr, blt_len_tup, blt_len_lst, blt_tuple_lst, blt_tuple_tup, blt_list_lst, blt_list_tup, blt_all, blt_any, blt_max2, blt_min2, blt_int_b, blt_int_i, blt_repr, blt_isi, ix_tup, ix_lst, ix_scr, ty_one, ty_non_int, ty_non_bool, ty_non_str, ty_non_tuple, ty_non_list, ty_bl_int, ty_bl_bool, ty_bl_str, ty_bl_tuple, ty_bl_list, ty_int_int, ty_int_bool, ty_int_str, ty_int_tuple, ty_int_list, ty_str_int, ty_str_bool, ty_str_str, ty_str_tuple, ty_str_list, ty_tup_int, ty_tup_bool, ty_tup_str, ty_tup_tuple, ty_tup_list, ty_lst_int, ty_lst_bool, ty_lst_str, ty_lst_tuple, ty_lst_list, decide_eq_true_eq, Bool.not_true, Bool.not_false, if_true, if_false, ite_true, ite_false, Bool.false_eq_true, Bool.true_eq_false, Option.map_some, true_and, and_true, reduceCtorEq, List.length_cons, List.length_nil, hz, this]
        · simp only [ok_newc, upt_tup, upt_lst, frm_tup, frm_lst, rev_tup, rev_lst, trg_i, s_nil, s_ret, s_rtv, s_set, s_unp, s_par, s_app, s_expr, s_frz, cont_nx, cont_ret, fin_ret, fin_nx, frz_nil, frz_two, frz_succ, frz_z, frz_zn, List.getElem?_cons_zero, List.getElem?_cons_succ, setAll_cons, setAll_nil, e_var, e_cst, e_bin, e_neg, e_cmp, e_chn, e_isc, e_and, e_or, e_not, e_ite, e_tup, e_lst, e_newc, e_idx, e_from, e_upto, e_rev, e_call, e_blt, e_mth, e_trng, e_comp, es_nil, es_cons, rs_nil, rs_cons, vs_nil, vs_cons, c_no, c_yes, it_val, it_rng, it_enum, it_zip, c_F, f_F, items_tup, items_lst, rng_i, ok_noX, bind_nm, bind_tp, bind_cons, bind_nil, wipe_nil, wipe_cons, ok_bnd, ok_ret, ok_opt, ok_ask, ok_ite, ok_asB, ok_stk, oko_some, oko_none, oko_map, oko_if, boolO_bl, rd_succ, rd_fz, rd_ow, d_fz, d_ow, ow_succ, ow_zero, List.set_cons_zero, List.set_cons_succ, bin_add, bin_sub, bin_mul, bin_fdiv, bin_mod, bin_pow, add_ii, add_ll, add_tt, sub_ii, mul_ii, fdiv_ii, mod_ii, pow_ii, neg_i, eqD_ii, eqD_bb, cmp_eq, cmp_ne, cmp_lt, cmp_le, cmp_gt, cmp_ge, isc_nn, isc_bb, isc_in, isc_tn, isc_ln, blt_len_scr, blt_len_tup, blt_len_lst, blt_tuple_lst, blt_tuple_tup, blt_list_lst, blt_list_tup, blt_all, blt_any, blt_max2, blt_min2, blt_int_b, blt_int_i, blt_repr, blt_isi, ix_tup, ix_lst, ix_scr, ty_one, ty_non_int, ty_non_bool, ty_non_str, ty_non_tuple, ty_non_list, ty_bl_int, ty_bl_bool, ty_bl_str, ty_bl_tuple, ty_bl_list, ty_int_int, ty_int_bool, ty_int_str, ty_int_tuple, ty_int_list, ty_str_int, ty_str_bool, ty_str_str, ty_str_tuple, ty_str_list, ty_tup_int, ty_tup_bool, ty_tup_str, ty_tup_tuple, ty_tup_list, ty_lst_int, ty_lst_bool, ty_lst_str, ty_lst_tuple, ty_lst_list, decide_eq_true_eq, Bool.not_true, Bool.not_false, if_true, if_false, ite_true, ite_false, Bool.false_eq_true, Bool.true_eq_false, Option.map_some, true_and, and_true, reduceCtorEq, List.length_cons, List.length_nil, hz, decide_false]
          rw [s_ite]
          simp only [ok_newc, upt_tup, upt_lst, frm_tup, frm_lst, rev_tup, rev_lst, trg_i, s_nil, s_ret, s_rtv, s_set, s_unp, s_par, s_app, s_expr, s_frz, cont_nx, cont_ret, fin_ret, fin_nx, frz_nil, frz_two, frz_succ, frz_z, frz_zn, List.getElem?_cons_zero, List.getElem?_cons_succ, setAll_cons, setAll_nil, e_var, e_cst, e_bin, e_neg, e_cmp, e_chn, e_isc, e_and, e_or, e_not, e_ite, e_tup, e_lst, e_newc, e_idx, e_from, e_upto, e_rev, e_call, e_blt, e_mth, e_trng, e_comp, es_nil, es_cons, rs_nil, rs_cons, vs_nil, vs_cons, c_no, c_yes, it_val, it_rng, it_enum, it_zip, c_F, f_F, items_tup, items_lst, rng_i, ok_noX, bind_nm, bind_tp, bind_cons, bind_nil, wipe_nil, wipe_cons, ok_bnd, ok_ret, ok_opt, ok_ask, ok_ite, ok_asB, ok_stk, oko_some, oko_none, oko_map, oko_if, boolO_bl, rd_succ, rd_fz, rd_ow, d_fz, d_ow, ow_succ, ow_zero, List.set_cons_zero, List.set_cons_succ, bin_add, bin_sub, bin_mul, bin_fdiv, bin_mod, bin_pow, add_ii, add_ll, add_tt, sub_ii, mul_ii, fdiv_ii, mod_ii, pow_ii, neg_i, eqD_ii, eqD_bb, cmp_eq, cmp_ne, cmp_lt, cmp_le, cmp_gt, cmp_ge, isc_nn, isc_bb, isc_in, isc_tn, isc_ln, blt_len_scr, blt_len_tup, blt_len_lst, blt_tuple_lst, blt_tuple_tup, blt_list_lst, blt_list_tup, blt_all, blt_any, blt_max2, blt_min2, blt_int_b, blt_int_i, blt_repr, blt_isi, ix_tup, ix_lst, ix_scr, ty_one, ty_non_int, ty_non_bool, ty_non_str, ty_non_tuple, ty_non_list, ty_bl_int, ty_bl_bool, ty_bl_str, ty_bl_tuple, ty_bl_list, ty_int_int, ty_int_bool, ty_int_str, ty_int_tuple, ty_int_list, ty_str_int, ty_str_bool, ty_str_str, ty_str_tuple, ty_str_list, ty_tup_int, ty_tup_bool, ty_tup_str, ty_tup_tuple, ty_tup_list, ty_lst_int, ty_lst_bool, ty_lst_str, ty_lst_tuple, ty_lst_list, decide_eq_true_eq, Bool.not_true, Bool.not_false, if_true, if_false, ite_true, ite_false, Bool.false_eq_true, Bool.true_eq_false, Option.map_some, true_and, and_true, reduceCtorEq, List.length_cons, List.length_nil]
          refine ok_of (comp_map (g := fun x => D.bl (isY xs.length x)) (by omega) fun x hx => ?_) ?_
          · refine eq_of_ok ?_
            simp only [ok_newc, upt_tup, upt_lst, frm_tup, frm_lst, rev_tup, rev_lst, trg_i, s_nil, s_ret, s_rtv, s_set, s_unp, s_par, s_app, s_expr, s_frz, cont_nx, cont_ret, fin_ret, fin_nx, frz_nil, frz_two, frz_succ, frz_z, frz_zn, List.getElem?_cons_zero, List.getElem?_cons_succ, setAll_cons, setAll_nil, e_var, e_cst, e_bin, e_neg, e_cmp, e_chn, e_isc, e_and, e_or, e_not, e_ite, e_tup, e_lst, e_newc, e_idx, e_from, e_upto, e_rev, e_call, e_blt, e_mth, e_trng, e_comp, es_nil, es_cons, rs_nil, rs_cons, vs_nil, vs_cons, c_no, c_yes, it_val, it_rng, it_enum, it_zip, c_F, f_F, items_tup, items_lst, rng_i, ok_noX, bind_nm, bind_tp, bind_cons, bind_nil, wipe_nil, wipe_cons, ok_bnd, ok_ret, ok_opt, ok_ask, ok_ite, ok_asB, ok_stk, oko_some, oko_none, oko_map, oko_if, boolO_bl, rd_succ, rd_fz, rd_ow, d_fz, d_ow, ow_succ, ow_zero, List.set_cons_zero, List.set_cons_succ, bin_add, bin_sub, bin_mul, bin_fdiv, bin_mod, bin_pow, add_ii, add_ll, add_tt, sub_ii, mul_ii, fdiv_ii, mod_ii, pow_ii, neg_i, eqD_ii, eqD_bb, cmp_eq, cmp_ne, cmp_lt, cmp_le, cmp_gt, cmp_ge, isc_nn, isc_bb, isc_in, isc_tn, isc_ln, blt_len_scr, blt_len_tup, blt_len_lst, blt_tuple_lst, blt_tuple_tup, blt_list_lst, blt_list_tup, blt_all, blt_any, blt_max2, blt_min2, blt_int_b, blt_int_i, blt_repr, blt_isi, ix_tup, ix_lst, ix_scr, ty_one, ty_non_int, ty_non_bool, ty_non_str, ty_non_tuple, ty_non_list, ty_bl_int, ty_bl_bool, ty_bl_str, ty_bl_tuple, ty_bl_list, ty_int_int, ty_int_bool, ty_int_str, ty_int_tuple, ty_int_list, ty_str_int, ty_str_bool, ty_str_str, ty_str_tuple, ty_str_list, ty_tup_int, ty_tup_bool, ty_tup_str, ty_tup_tuple, ty_tup_list, ty_lst_int, ty_lst_bool, ty_lst_str, ty_lst_tuple, ty_lst_list, decide_eq_true_eq, Bool.not_true, Bool.not_false, if_true, if_false, ite_true, ite_false, Bool.false_eq_true, Bool.true_eq_false, Option.map_some, true_and, and_true, reduceCtorEq, List.length_cons, List.length_nil]
            refine ok_of (sp_law_is_way hg hw (z2 x hx) hm) ?_
            simp only [ok_newc, upt_tup, upt_lst, frm_tup, frm_lst, rev_tup, rev_lst, trg_i, s_nil, s_ret, s_rtv, s_set, s_unp, s_par, s_app, s_expr, s_frz, cont_nx, cont_ret, fin_ret, fin_nx, frz_nil, frz_two, frz_succ, frz_z, frz_zn, List.getElem?_cons_zero, List.getElem?_cons_succ, setAll_cons, setAll_nil, e_var, e_cst, e_bin, e_neg, e_cmp, e_chn, e_isc, e_and, e_or, e_not, e_ite, e_tup, e_lst, e_newc, e_idx, e_from, e_upto, e_rev, e_call, e_blt, e_mth, e_trng, e_comp, es_nil, es_cons, rs_nil, rs_cons, vs_nil, vs_cons, c_no, c_yes, it_val, it_rng, it_enum, it_zip, c_F, f_F, items_tup, items_lst, rng_i, ok_noX, bind_nm, bind_tp, bind_cons, bind_nil, wipe_nil, wipe_cons, ok_bnd, ok_ret, ok_opt, ok_ask, ok_ite, ok_asB, ok_stk, oko_some, oko_none, oko_map, oko_if, boolO_bl, rd_succ, rd_fz, rd_ow, d_fz, d_ow, ow_succ, ow_zero, List.set_cons_zero, List.set_cons_succ, bin_add, bin_sub, bin_mul, bin_fdiv, bin_mod, bin_pow, add_ii, add_ll, add_tt, sub_ii, mul_ii, fdiv_ii, mod_ii, pow_ii, neg_i, eqD_ii, eqD_bb, cmp_eq, cmp_ne, cmp_lt, cmp_le, cmp_gt, cmp_ge, isc_nn, isc_bb, isc_in, isc_tn, isc_ln, blt_len_scr, blt_len_tup, blt_len_lst, blt_tuple_lst, blt_tuple_tup, blt_list_lst, blt_list_tup, blt_all, blt_any, blt_max2, blt_min2, blt_int_b, blt_int_i, blt_repr, blt_isi, ix_tup, ix_lst, ix_scr, ty_one, ty_non_int, ty_non_bool, ty_non_str, ty_non_tuple, ty_non_list, ty_bl_int, ty_bl_bool, ty_bl_str, ty_bl_tuple, ty_bl_list, ty_int_int, ty_int_bool, ty_int_str, ty_int_tuple, ty_int_list, ty_str_int, ty_str_bool, ty_str_str, ty_str_tuple, ty_str_list, ty_tup_int, ty_tup_bool, ty_tup_str, ty_tup_tuple, ty_tup_list, ty_lst_int, ty_lst_bool, ty_lst_str, ty_lst_tuple, ty_lst_list, decide_eq_true_eq, Bool.not_true, Bool.not_false, if_true, if_false, ite_true, ite_false, Bool.false_eq_true, Bool.true_eq_false, Option.map_some, true_and, and_true, reduceCtorEq, List.length_cons, List.length_nil]
          · simp only [ok_newc, upt_tup, upt_lst, frm_tup, frm_lst, rev_tup, rev_lst, trg_i, s_nil, s_ret, s_rtv, s_set, s_unp, s_par, s_app, s_expr, s_frz, cont_nx, cont_ret, fin_ret, fin_nx, frz_nil, frz_two, frz_succ, frz_z, frz_zn, List.getElem?_cons_zero, List.getElem?_cons_succ, setAll_cons, setAll_nil, e_var, e_cst, e_bin, e_neg, e_cmp, e_chn, e_isc, e_and, e_or, e_not, e_ite, e_tup, e_lst, e_newc, e_idx, e_from, e_upto, e_rev, e_call, e_blt, e_mth, e_trng, e_comp, es_nil, es_cons, rs_nil, rs_cons, vs_nil, vs_cons, c_no, c_yes, it_val, it_rng, it_enum, it_zip, c_F, f_F, items_tup, items_lst, rng_i, ok_noX, bind_nm, bind_tp, bind_cons, bind_nil, wipe_nil, wipe_cons, ok_bnd, ok_ret, ok_opt, ok_ask, ok_ite, ok_asB, ok_stk, oko_some, oko_none, oko_map, oko_if, boolO_bl, rd_succ, rd_fz, rd_ow, d_fz, d_ow, ow_succ, ow_zero, List.set_cons_zero, List.set_cons_succ, bin_add, bin_sub, bin_mul, bin_fdiv, bin_mod, bin_pow, add_ii, add_ll, add_tt, sub_ii, mul_ii, fdiv_ii, mod_ii, pow_ii, neg_i, eqD_ii, eqD_bb, cmp_eq, cmp_ne, cmp_lt, cmp_le, cmp_gt, cmp_ge, isc_nn, isc_bb, isc_in, isc_tn, isc_ln, blt_len_scr, blt_len_tup, blt_len_lst, blt_tuple_lst, blt_tuple_tup, blt_list_lst, blt_list_tup, blt_all, blt_any, blt_max2, blt_min2, blt_int_b, blt_int_i, blt_repr, blt_isi, ix_tup, ix_lst, ix_scr, ty_one, ty_non_int, ty_non_bool, ty_non_str, ty_non_tuple, ty_non_list, ty_bl_int, ty_bl_bool, ty_bl_str, ty_bl_tuple, ty_bl_list, ty_int_int, ty_int_bool, ty_int_str, ty_int_tuple, ty_int_list, ty_str_int, ty_str_bool, ty_str_str, ty_str_tuple, ty_str_list, ty_tup_int, ty_tup_bool, ty_tup_str, ty_tup_tuple, ty_tup_list, ty_lst_int, ty_lst_bool, ty_lst_str, ty_lst_tuple, ty_lst_list, decide_eq_true_eq, Bool.not_true, Bool.not_false, if_true, if_false, ite_true, ite_false, Bool.false_eq_true, Bool.true_eq_false, Option.map_some, true_and, and_true, reduceCtorEq, List.length_cons, List.length_nil, boolsD_map', all_id]
            cases ha' : zs.all (isY xs.length) with
            | false =>
              have := bad (by simp only [isO, ha', Bool.and_false])
              simp [ok_newc, upt_tup, upt_lst, frm_tup, frm_lst, rev_tup, rev_lst, trg_i, s_nil, s_ret, s_rtv, s_set, s_unp, s_par, s_app, s_expr, s_frz, cont_nx, cont_ret, fin_ret, fin_nx, frz_nil, frz_two, frz_succ, frz_z, frz_zn, List.getElem?_cons_zero, List.getElem?_cons_succ, setAll_cons, setAll_nil, e_var, e_cst, e_bin, e_neg, e_cmp, e_chn, e_isc, e_and, e_or, e_not, e_ite, e_tup, e_lst, e_newc, e_idx, e_from, e_upto, e_rev, e_call, e_blt, e_mth, e_trng, e_comp, es_nil, es_cons, rs_nil, rs_cons, vs_nil, vs_cons, c_no, c_yes, it_val, it_rng, it_enum, it_zip, c_F, f_F, items_tup, items_lst, rng_i, ok_noX, bind_nm, bind_tp, bind_cons, bind_nil, wipe_nil, wipe_cons, ok_bnd, ok_ret, ok_opt, ok_ask, ok_ite, ok_asB, ok_stk, oko_some, oko_none, oko_map, oko_if, boolO_bl, rd_succ, rd_fz, rd_ow, d_fz, d_ow, ow_succ, ow_zero, List.set_cons_zero, List.set_cons_succ, bin_add, bin_sub, bin_mul, bin_fdiv, bin_mod, bin_pow, add_ii, add_ll, add_tt, sub_ii, mul_ii, fdiv_ii, mod_ii, pow_ii, neg_i, eqD_ii, eqD_bb, cmp_eq, cmp_ne, cmp_lt, cmp_le, cmp_gt, cmp_ge, isc_nn, isc_bb, isc_in, isc_tn, isc_ln, blt_len_scr, blt_len_tup, blt_len_lst, blt_tuple_lst, blt_tuple_tup, blt_list_lst, blt_list_tup, blt_all, blt_any, blt_max2, blt_min2, blt_int_b, blt_int_i, blt_repr, blt_isi, ix_tup, ix_lst, ix_scr, ty_one, ty_non_int, ty_non_bool, ty_non_str, ty_non_tuple, ty_non_list, ty_bl_int, ty_bl_bool, ty_bl_str, ty_bl_tuple, ty_bl_list, ty_int_int, ty_int_bool, ty_int_str, ty_int_tuple, ty_int_list, ty_str_int, ty_str_bool, ty_str_str, ty_str_tuple, ty_str_list, ty_tup_int, ty_tup_bool, ty_tup_str, ty_tup_tuple, ty_tup_list, ty_lst_int, ty_lst_bool, ty_lst_str, ty_lst_tuple, ty_lst_list, decide_eq_true_eq, Bool.not_true, Bool.not_false, if_true, if_false, ite_true, ite_false, Bool.false_eq_true, Bool.true_eq_false, Option.map_some, true_and, and_true, reduceCtorEq, List.length_cons, List.length_nil, this]
            | true =>
              simp only [ok_newc, upt_tup, upt_lst, frm_tup, frm_lst, rev_tup, rev_lst, trg_i, s_nil, s_ret, s_rtv, s_set, s_unp, s_par, s_app, s_expr, s_frz, cont_nx, cont_ret, fin_ret, fin_nx, frz_nil, frz_two, frz_succ, frz_z, frz_zn, List.getElem?_cons_zero, List.getElem?_cons_succ, setAll_cons, setAll_nil, e_var, e_cst, e_bin, e_neg, e_cmp, e_chn, e_isc, e_and, e_or, e_not, e_ite, e_tup, e_lst, e_newc, e_idx, e_from, e_upto, e_rev, e_call, e_blt, e_mth, e_trng, e_comp, es_nil, es_cons, rs_nil, rs_cons, vs_nil, vs_cons, c_no, c_yes, it_val, it_rng, it_enum, it_zip, c_F, f_F, items_tup, items_lst, rng_i, ok_noX, bind_nm, bind_tp, bind_cons, bind_nil, wipe_nil, wipe_cons, ok_bnd, ok_ret, ok_opt, ok_ask, ok_ite, ok_asB, ok_stk, oko_some, oko_none, oko_map, oko_if, boolO_bl, rd_succ, rd_fz, rd_ow, d_fz, d_ow, ow_succ, ow_zero, List.set_cons_zero, List.set_cons_succ, bin_add, bin_sub, bin_mul, bin_fdiv, bin_mod, bin_pow, add_ii, add_ll, add_tt, sub_ii, mul_ii, fdiv_ii, mod_ii, pow_ii, neg_i, eqD_ii, eqD_bb, cmp_eq, cmp_ne, cmp_lt, cmp_le, cmp_gt, cmp_ge, isc_nn, isc_bb, isc_in, isc_tn, isc_ln, blt_len_scr, blt_len_tup, blt_len_lst, blt_tuple_lst, blt_tuple_tup, blt_list_lst, blt_list_tup, blt_all, blt_any, blt_max2, blt_min2, blt_int_b, blt_int_i, blt_repr, blt_isi, ix_tup, ix_lst, ix_scr, ty_one, ty_non_int, ty_non_bool, ty_non_str, ty_non_tuple, ty_non_list, ty_bl_int, ty_bl_bool, ty_bl_str, ty_bl_tuple, ty_bl_list, ty_int_int, ty_int_bool, ty_int_str, ty_int_tuple, ty_int_list, ty_str_int, ty_str_bool, ty_str_str, ty_str_tuple, ty_str_list, ty_tup_int, ty_tup_bool, ty_tup_str, ty_tup_tuple, ty_tup_list, ty_lst_int, ty_lst_bool, ty_lst_str, ty_lst_tuple, ty_lst_list, decide_eq_true_eq, Bool.not_true, Bool.not_false, if_true, if_false, ite_true, ite_false, Bool.false_eq_true, Bool.true_eq_false, Option.map_some, true_and, and_true, reduceCtorEq, List.length_cons, List.length_nil]
              refine ⟨⟨_, _, rfl⟩, fun j y hj hy => ?_⟩
              by_cases hji : j < i
              · exact hI j y hji hy
              · have : j = i := by omega
                subst this
                rw [hx] at hy
                cases hy
                simp only [isO, ha', Bool.and_true, decide_eq_true_eq]
                omega
      · rintro ⟨rfl, ⟨u, v, rfl⟩, hI⟩
        have : xs.all (isO xs.length) = true := by
          rw [List.all_eq_true]
          intro x hx
          obtain ⟨j, hj⟩ := List.getElem?_of_mem hx
          exact hI j x (List.getElem?_eq_some_iff.mp hj).1 hj
        simp [ok_newc, upt_tup, upt_lst, frm_tup, frm_lst, rev_tup, rev_lst, trg_i, s_nil, s_ret, s_rtv, s_set, s_unp, s_par, s_app, s_expr, s_frz, cont_nx, cont_ret, fin_ret, fin_nx, frz_nil, frz_two, frz_succ, frz_z, frz_zn, List.getElem?_cons_zero, List.getElem?_cons_succ, setAll_cons, setAll_nil, e_var, e_cst, e_bin, e_neg, e_cmp, e_chn, e_isc, e_and, e_or, e_not, e_ite, e_tup, e_lst, e_newc, e_idx, e_from, e_upto, e_rev, e_call, e_blt, e_mth, e_trng, e_comp, es_nil, es_cons, rs_nil, rs_cons, vs_nil, vs_cons, c_no, c_yes, it_val, it_rng, it_enum, it_zip, c_F, f_F, items_tup, items_lst, rng_i, ok_noX, bind_nm, bind_tp, bind_cons, bind_nil, wipe_nil, wipe_cons, ok_bnd, ok_ret, ok_opt, ok_ask, ok_ite, ok_asB, ok_stk, oko_some, oko_none, oko_map, oko_if, boolO_bl, rd_succ, rd_fz, rd_ow, d_fz, d_ow, ow_succ, ow_zero, List.set_cons_zero, List.set_cons_succ, bin_add, bin_sub, bin_mul, bin_fdiv, bin_mod, bin_pow, add_ii, add_ll, add_tt, sub_ii, mul_ii, fdiv_ii, mod_ii, pow_ii, neg_i, eqD_ii, eqD_bb, cmp_eq, cmp_ne, cmp_lt, cmp_le, cmp_gt, cmp_ge, isc_nn, isc_bb, isc_in, isc_tn, isc_ln, blt_len_scr, blt_len_tup, blt_len_lst, blt_tuple_lst, blt_tuple_tup, blt_list_lst, blt_list_tup, blt_all, blt_any, blt_max2, blt_min2, blt_int_b, blt_int_i, blt_repr, blt_isi, ix_tup, ix_lst, ix_scr, ty_one, ty_non_int, ty_non_bool, ty_non_str, ty_non_tuple, ty_non_list, ty_bl_int, ty_bl_bool, ty_bl_str, ty_bl_tuple, ty_bl_list, ty_int_int, ty_int_bool, ty_int_str, ty_int_tuple, ty_int_list, ty_str_int, ty_str_bool, ty_str_str, ty_str_tuple, ty_str_list, ty_tup_int, ty_tup_bool, ty_tup_str, ty_tup_tuple, ty_tup_list, ty_lst_int, ty_lst_bool, ty_lst_str, ty_lst_tuple, ty_lst_list, decide_eq_true_eq, Bool.not_true, Bool.not_false, if_true, if_false, ite_true, ite_false, Bool.false_eq_true, Bool.true_eq_false, Option.map_some, true_and, and_true, reduceCtorEq, List.length_cons, List.length_nil, isK, this, hl, hl2]
    · simp [ok_newc, upt_tup, upt_lst, frm_tup, frm_lst, rev_tup, rev_lst, trg_i, s_nil, s_ret, s_rtv, s_set, s_unp, s_par, s_app, s_expr, s_frz, cont_nx, cont_ret, fin_ret, fin_nx, frz_nil, frz_two, frz_succ, frz_z, frz_zn, List.getElem?_cons_zero, List.getElem?_cons_succ, setAll_cons, setAll_nil, e_var, e_cst, e_bin, e_neg, e_cmp, e_chn, e_isc, e_and, e_or, e_not, e_ite, e_tup, e_lst, e_newc, e_idx, e_from, e_upto, e_rev, e_call, e_blt, e_mth, e_trng, e_comp, es_nil, es_cons, rs_nil, rs_cons, vs_nil, vs_cons, c_no, c_yes, it_val, it_rng, it_enum, it_zip, c_F, f_F, items_tup, items_lst, rng_i, ok_noX, bind_nm, bind_tp, bind_cons, bind_nil, wipe_nil, wipe_cons, ok_bnd, ok_ret, ok_opt, ok_ask, ok_ite, ok_asB, ok_stk, oko_some, oko_none, oko_map, oko_if, boolO_bl, rd_succ, rd_fz, rd_ow, d_fz, d_ow, ow_succ, ow_zero, List.set_cons_zero, List.set_cons_succ, bin_add, bin_sub, bin_mul, bin_fdiv, bin_mod, bin_pow, add_ii, add_ll, add_tt, sub_ii, mul_ii, fdiv_ii, mod_ii, pow_ii, neg_i, eqD_ii, eqD_bb, cmp_eq, cmp_ne, cmp_lt, cmp_le, cmp_gt, cmp_ge, isc_nn, isc_bb, isc_in, isc_tn, isc_ln, blt_len_scr, blt_len_tup, blt_len_lst, blt_tuple_lst, blt_tuple_tup, blt_list_lst, blt_list_tup, blt_all, blt_any, blt_max2, blt_min2, blt_int_b, blt_int_i, blt_repr, blt_isi, ix_tup, ix_lst, ix_scr, ty_one, ty_non_int, ty_non_bool, ty_non_str, ty_non_tuple, ty_non_list, ty_bl_int, ty_bl_bool, ty_bl_str, ty_bl_tuple, ty_bl_list, ty_int_int, ty_int_bool, ty_int_str, ty_int_tuple, ty_int_list, ty_str_int, ty_str_bool, ty_str_str, ty_str_tuple, ty_str_list, ty_tup_int, ty_tup_bool, ty_tup_str, ty_tup_tuple, ty_tup_list, ty_lst_int, ty_lst_bool, ty_lst_str, ty_lst_tuple, ty_lst_list, decide_eq_true_eq, Bool.not_true, Bool.not_false, if_true, if_false, ite_true, ite_false, Bool.false_eq_true, Bool.true_eq_false, Option.map_some, true_and, and_true, reduceCtorEq, List.length_cons, List.length_nil, hl, hl2, isK]
  · simp [ok_newc, upt_tup, upt_lst, frm_tup, frm_lst, rev_tup, rev_lst, trg_i, s_nil, s_ret, s_rtv, s_set, s_unp, s_par, s_app, s_expr, s_frz, cont_nx, cont_ret, fin_ret, fin_nx, frz_nil, frz_two, frz_succ, frz_z, frz_zn, List.getElem?_cons_zero, List.getElem?_cons_succ, setAll_cons, setAll_nil, e_var, e_cst, e_bin, e_neg, e_cmp, e_chn, e_isc, e_and, e_or, e_not, e_ite, e_tup, e_lst, e_newc, e_idx, e_from, e_upto, e_rev, e_call, e_blt, e_mth, e_trng, e_comp, es_nil, es_cons, rs_nil, rs_cons, vs_nil, vs_cons, c_no, c_yes, it_val, it_rng, it_enum, it_zip, c_F, f_F, items_tup, items_lst, rng_i, ok_noX, bind_nm, bind_tp, bind_cons, bind_nil, wipe_nil, wipe_cons, ok_bnd, ok_ret, ok_opt, ok_ask, ok_ite, ok_asB, ok_stk, oko_some, oko_none, oko_map, oko_if, boolO_bl, rd_succ, rd_fz, rd_ow, d_fz, d_ow, ow_succ, ow_zero, List.set_cons_zero, List.set_cons_succ, bin_add, bin_sub, bin_mul, bin_fdiv, bin_mod, bin_pow, add_ii, add_ll, add_tt, sub_ii, mul_ii, fdiv_ii, mod_ii, pow_ii, neg_i, eqD_ii, eqD_bb, cmp_eq, cmp_ne, cmp_lt, cmp_le, cmp_gt, cmp_ge, isc_nn, isc_bb, isc_in, isc_tn, isc_ln, blt_len_scr, blt_len_tup, blt_len_lst, blt_tuple_lst, blt_tuple_tup, blt_list_lst, blt_list_tup, blt_all, blt_any, blt_max2, blt_min2, blt_int_b, blt_int_i, blt_repr, blt_isi, ix_tup, ix_lst, ix_scr, ty_one, ty_non_int, ty_non_bool, ty_non_str, ty_non_tuple, ty_non_list, ty_bl_int, ty_bl_bool, ty_bl_str, ty_bl_tuple, ty_bl_list, ty_int_int, ty_int_bool, ty_int_str, ty_int_tuple, ty_int_list, ty_str_int, ty_str_bool, ty_str_str, ty_str_tuple, ty_str_list, ty_tup_int, ty_tup_bool, ty_tup_str, ty_tup_tuple, ty_tup_list, ty_lst_int, ty_lst_bool, ty_lst_str, ty_lst_tuple, ty_lst_list, decide_eq_true_eq, Bool.not_true, Bool.not_false, if_true, if_false, ite_true, ite_false, Bool.false_eq_true, Bool.true_eq_false, Option.map_some, true_and, and_true, reduceCtorEq, List.length_cons, List.length_nil, hl, isK]
end
end Mini
/-! PureE: draws, bags. -/
namespace Mini
open PySem L2
/-- a bag stands at cell b -/
def BagOk (S : Store) (b : Nat) : Prop := ∃ (ns : List Int) (c : Int), S[b]? = some (.lst [.lst (ns.map D.int), .int c]) ∧ ns.length = 400
/-- bags stay bags -/
def Bags (S S' : Store) : Prop := S'.length = S.length ∧ ∀ b, BagOk S b → BagOk S' b
theorem Bags.refl (S : Store) : Bags S S := ⟨rfl, fun _ h => h⟩
theorem Bags.trans {S S1 S2 : Store} (a : Bags S S1) (b : Bags S1 S2) : Bags S S2 := ⟨b.1.trans a.1, fun i h => b.2 i (a.2 i h)⟩
theorem at2_0 {x y : D} : atI [x, y] 0 = some x := rfl
theorem at2_1 {x y : D} : atI [x, y] 1 = some y := rfl
theorem st_cell {S : Store} {b j : Nat} {k : Int} {xs : List D} {d : D} {env : Env} (h : S[b]? = some (.lst xs)) (hk : ixN xs.length k = some j) : stxop (some (.fz (.cell b)) :: env) 0 (.int k) d S = .ok (some (.fz (.cell b)) :: env) (S.set b (.lst (xs.set j d))) := by
  show (match S[b]? with | some (.lst xs) => (match ixN xs.length k with | some j => Out.ok _ (S.set b (.lst (xs.set j d))) | none => .stuck) | _ => .stuck) = _
  rw [h]
  show (match ixN xs.length k with | some j => Out.ok _ (S.set b (.lst (xs.set j d))) | none => .stuck) = _
  rw [hk]
section
variable {P : Nat → Option FDef} {f g w n m b : Nat} {S : Store}
theorem sp_take {k : Int} (h : P f = some d__law_take) (hb : BagOk S b) (hk : 0 < k) : Ok (run P (n + 1) f [.cell b, .int k] S) fun r S' => (∃ v, r = .fz (.int v) ∧ 0 ≤ v ∧ v < k) ∧ Bags S S' := by
  obtain ⟨ns, c, hS, hl⟩ := hb
  refine ok_run h rfl ?_
  show Ok (execSs _ (.cons (.stx _ _ _) _) [some (.fz (.cell b)), some (.fz (.int k))] S) _
  rw [s_stx]
  simp only [ok_newc, upt_tup, upt_lst, frm_tup, frm_lst, rev_tup, rev_lst, trg_i, s_nil, s_ret, s_rtv, s_set, s_unp, s_par, s_app, s_expr, s_frz, cont_nx, cont_ret, fin_ret, fin_nx, frz_nil, frz_two, frz_succ, frz_z, frz_zn, List.getElem?_cons_zero, List.getElem?_cons_succ, setAll_cons, setAll_nil, e_var, e_cst, e_bin, e_neg, e_cmp, e_chn, e_isc, e_and, e_or, e_not, e_ite, e_tup, e_lst, e_newc, e_idx, e_from, e_upto, e_rev, e_call, e_blt, e_mth, e_trng, e_comp, es_nil, es_cons, rs_nil, rs_cons, vs_nil, vs_cons, c_no, c_yes, it_val, it_rng, it_enum, it_zip, c_F, f_F, items_tup, items_lst, rng_i, ok_noX, bind_nm, bind_tp, bind_cons, bind_nil, wipe_nil, wipe_cons, ok_bnd, ok_ret, ok_opt, ok_ask, ok_ite, ok_asB, ok_stk, oko_some, oko_none, oko_map, oko_if, boolO_bl, rd_succ, rd_fz, rd_ow, d_fz, d_ow, ow_succ, ow_zero, List.set_cons_zero, List.set_cons_succ, bin_add, bin_sub, bin_mul, bin_fdiv, bin_mod, bin_pow, add_ii, add_ll, add_tt, sub_ii, mul_ii, fdiv_ii, mod_ii, pow_ii, neg_i, eqD_ii, eqD_bb, cmp_eq, cmp_ne, cmp_lt, cmp_le, cmp_gt, cmp_ge, isc_nn, isc_bb, isc_in, isc_tn, isc_ln, blt_len_scr, blt_len_tup, blt_len_lst, blt_tuple_lst, blt_tuple_tup, blt_list_lst, blt_list_tup, blt_all, blt_any, blt_max2, blt_min2, blt_int_b, blt_int_i, blt_repr, blt_isi, ix_tup, ix_lst, ix_scr, ty_one, ty_non_int, ty_non_bool, ty_non_str, ty_non_tuple, ty_non_list, ty_bl_int, ty_bl_bool, ty_bl_str, ty_bl_tuple, ty_bl_list, ty_int_int, ty_int_bool, ty_int_str, ty_int_tuple, ty_int_list, ty_str_int, ty_str_bool, ty_str_str, ty_str_tuple, ty_str_list, ty_tup_int, ty_tup_bool, ty_tup_str, ty_tup_tuple, ty_tup_list, ty_lst_int, ty_lst_bool, ty_lst_str, ty_lst_tuple, ty_lst_list, decide_eq_true_eq, Bool.not_true, Bool.not_false, if_true, if_false, ite_true, ite_false, Bool.false_eq_true, Bool.true_eq_false, Option.map_some, true_and, and_true, reduceCtorEq, List.length_cons, List.length_nil, ix_cell hS, at2_1]
  refine ok_of (st_cell (j := 1) hS rfl) ?_
  have hlt : b < S.length := (List.getElem?_eq_some_iff.mp hS).1
  have hS' : (S.set b (.lst [D.lst (ns.map D.int), D.int (c + 1)]))[b]? = some (.lst [.lst (ns.map D.int), .int (c + 1)]) := by
    rw [List.getElem?_set_self hlt]
  simp only [ok_newc, upt_tup, upt_lst, frm_tup, frm_lst, rev_tup, rev_lst, trg_i, s_nil, s_ret, s_rtv, s_set, s_unp, s_par, s_app, s_expr, s_frz, cont_nx, cont_ret, fin_ret, fin_nx, frz_nil, frz_two, frz_succ, frz_z, frz_zn, List.getElem?_cons_zero, List.getElem?_cons_succ, setAll_cons, setAll_nil, e_var, e_cst, e_bin, e_neg, e_cmp, e_chn, e_isc, e_and, e_or, e_not, e_ite, e_tup, e_lst, e_newc, e_idx, e_from, e_upto, e_rev, e_call, e_blt, e_mth, e_trng, e_comp, es_nil, es_cons, rs_nil, rs_cons, vs_nil, vs_cons, c_no, c_yes, it_val, it_rng, it_enum, it_zip, c_F, f_F, items_tup, items_lst, rng_i, ok_noX, bind_nm, bind_tp, bind_cons, bind_nil, wipe_nil, wipe_cons, ok_bnd, ok_ret, ok_opt, ok_ask, ok_ite, ok_asB, ok_stk, oko_some, oko_none, oko_map, oko_if, boolO_bl, rd_succ, rd_fz, rd_ow, d_fz, d_ow, ow_succ, ow_zero, List.set_cons_zero, List.set_cons_succ, bin_add, bin_sub, bin_mul, bin_fdiv, bin_mod, bin_pow, add_ii, add_ll, add_tt, sub_ii, mul_ii, fdiv_ii, mod_ii, pow_ii, neg_i, eqD_ii, eqD_bb, cmp_eq, cmp_ne, cmp_lt, cmp_le, cmp_gt, cmp_ge, isc_nn, isc_bb, isc_in, isc_tn, isc_ln, blt_len_scr, blt_len_tup, blt_len_lst, blt_tuple_lst, blt_tuple_tup, blt_list_lst, blt_list_tup, blt_all, blt_any, blt_max2, blt_min2, blt_int_b, blt_int_i, blt_repr, blt_isi, ix_tup, ix_lst, ix_scr, ty_one, ty_non_int, ty_non_bool, ty_non_str, ty_non_tuple, ty_non_list, ty_bl_int, ty_bl_bool, ty_bl_str, ty_bl_tuple, ty_bl_list, ty_int_int, ty_int_bool, ty_int_str, ty_int_tuple, ty_int_list, ty_str_int, ty_str_bool, ty_str_str, ty_str_tuple, ty_str_list, ty_tup_int, ty_tup_bool, ty_tup_str, ty_tup_tuple, ty_tup_list, ty_lst_int, ty_lst_bool, ty_lst_str, ty_lst_tuple, ty_lst_list, decide_eq_true_eq, Bool.not_true, Bool.not_false, if_true, if_false, ite_true, ite_false, Bool.false_eq_true, Bool.true_eq_false, Option.map_some, true_and, and_true, reduceCtorEq, List.length_cons, List.length_nil, ix_cell hS', at2_0, at2_1, List.length_map, hl]
  obtain ⟨x, h1, _, h3⟩ := atI_of (xs := ns.map D.int) (i := (c + 1) % (400 : Nat)) (Int.emod_nonneg _ (by decide)) (by rw [List.length_map, hl]; exact Int.emod_lt_of_pos _ (by decide))
  obtain ⟨z, _, rfl⟩ := List.mem_map.mp h3
  simp only [h1, ok_newc, upt_tup, upt_lst, frm_tup, frm_lst, rev_tup, rev_lst, trg_i, s_nil, s_ret, s_rtv, s_set, s_unp, s_par, s_app, s_expr, s_frz, cont_nx, cont_ret, fin_ret, fin_nx, frz_nil, frz_two, frz_succ, frz_z, frz_zn, List.getElem?_cons_zero, List.getElem?_cons_succ, setAll_cons, setAll_nil, e_var, e_cst, e_bin, e_neg, e_cmp, e_chn, e_isc, e_and, e_or, e_not, e_ite, e_tup, e_lst, e_newc, e_idx, e_from, e_upto, e_rev, e_call, e_blt, e_mth, e_trng, e_comp, es_nil, es_cons, rs_nil, rs_cons, vs_nil, vs_cons, c_no, c_yes, it_val, it_rng, it_enum, it_zip, c_F, f_F, items_tup, items_lst, rng_i, ok_noX, bind_nm, bind_tp, bind_cons, bind_nil, wipe_nil, wipe_cons, ok_bnd, ok_ret, ok_opt, ok_ask, ok_ite, ok_asB, ok_stk, oko_some, oko_none, oko_map, oko_if, boolO_bl, rd_succ, rd_fz, rd_ow, d_fz, d_ow, ow_succ, ow_zero, List.set_cons_zero, List.set_cons_succ, bin_add, bin_sub, bin_mul, bin_fdiv, bin_mod, bin_pow, add_ii, add_ll, add_tt, sub_ii, mul_ii, fdiv_ii, mod_ii, pow_ii, neg_i, eqD_ii, eqD_bb, cmp_eq, cmp_ne, cmp_lt, cmp_le, cmp_gt, cmp_ge, isc_nn, isc_bb, isc_in, isc_tn, isc_ln, blt_len_scr, blt_len_tup, blt_len_lst, blt_tuple_lst, blt_tuple_tup, blt_list_lst, blt_list_tup, blt_all, blt_any, blt_max2, blt_min2, blt_int_b, blt_int_i, blt_repr, blt_isi, ix_tup, ix_lst, ix_scr, ty_one, ty_non_int, ty_non_bool, ty_non_str, ty_non_tuple, ty_non_list, ty_bl_int, ty_bl_bool, ty_bl_str, ty_bl_tuple, ty_bl_list, ty_int_int, ty_int_bool, ty_int_str, ty_int_tuple, ty_int_list, ty_str_int, ty_str_bool, ty_str_str, ty_str_tuple, ty_str_list, ty_tup_int, ty_tup_bool, ty_tup_str, ty_tup_tuple, ty_tup_list, ty_lst_int, ty_lst_bool, ty_lst_str, ty_lst_tuple, ty_lst_list, decide_eq_true_eq, Bool.not_true, Bool.not_false, if_true, if_false, ite_true, ite_false, Bool.false_eq_true, Bool.true_eq_false, Option.map_some, true_and, and_true, reduceCtorEq, List.length_cons, List.length_nil]
  refine ⟨by decide, hk, ⟨_, rfl, Int.emod_nonneg _ (by omega), Int.emod_lt_of_pos _ hk⟩, by rw [List.length_set], fun i hi => ?_⟩
  by_cases hib : i = b
  · subst hib
    exact ⟨ns, c + 1, hS', hl⟩
  · obtain ⟨ms, e, k1, k2⟩ := hi
    exact ⟨ms, e, by rw [List.getElem?_set_ne (Ne.symm hib)]; exact k1, k2⟩
theorem sp_cell_at {ns : List Int} {k : Nat} (h : P f = some d__law_cell_at) : ∃ i : Int, run P (n + 1) f [.scr ns, .int k] S = .ok (.fz (.int i)) S := by
  suffices Ok (run P (n + 1) f [.scr ns, .int k] S) (fun r S' => (∃ i, r = .fz (.int i)) ∧ S' = S) by
    obtain ⟨r, S', e, ⟨i, rfl⟩, rfl⟩ := this.out
    exact ⟨i, e⟩
  refine ok_run h rfl ?_
  show Ok (execSs _ (.cons (.ite _ _ _) _) [some (.fz (.scr ns)), some (.fz (.int k))] S) _
  rw [s_ite]
  simp only [ok_newc, upt_tup, upt_lst, frm_tup, frm_lst, rev_tup, rev_lst, trg_i, s_nil, s_ret, s_rtv, s_set, s_unp, s_par, s_app, s_expr, s_frz, cont_nx, cont_ret, fin_ret, fin_nx, frz_nil, frz_two, frz_succ, frz_z, frz_zn, List.getElem?_cons_zero, List.getElem?_cons_succ, setAll_cons, setAll_nil, e_var, e_cst, e_bin, e_neg, e_cmp, e_chn, e_isc, e_and, e_or, e_not, e_ite, e_tup, e_lst, e_newc, e_idx, e_from, e_upto, e_rev, e_call, e_blt, e_mth, e_trng, e_comp, es_nil, es_cons, rs_nil, rs_cons, vs_nil, vs_cons, c_no, c_yes, it_val, it_rng, it_enum, it_zip, c_F, f_F, items_tup, items_lst, rng_i, ok_noX, bind_nm, bind_tp, bind_cons, bind_nil, wipe_nil, wipe_cons, ok_bnd, ok_ret, ok_opt, ok_ask, ok_ite, ok_asB, ok_stk, oko_some, oko_none, oko_map, oko_if, boolO_bl, rd_succ, rd_fz, rd_ow, d_fz, d_ow, ow_succ, ow_zero, List.set_cons_zero, List.set_cons_succ, bin_add, bin_sub, bin_mul, bin_fdiv, bin_mod, bin_pow, add_ii, add_ll, add_tt, sub_ii, mul_ii, fdiv_ii, mod_ii, pow_ii, neg_i, eqD_ii, eqD_bb, cmp_eq, cmp_ne, cmp_lt, cmp_le, cmp_gt, cmp_ge, isc_nn, isc_bb, isc_in, isc_tn, isc_ln, blt_len_scr, blt_len_tup, blt_len_lst, blt_tuple_lst, blt_tuple_tup, blt_list_lst, blt_list_tup, blt_all, blt_any, blt_max2, blt_min2, blt_int_b, blt_int_i, blt_repr, blt_isi, ix_tup, ix_lst, ix_scr, ty_one, ty_non_int, ty_non_bool, ty_non_str, ty_non_tuple, ty_non_list, ty_bl_int, ty_bl_bool, ty_bl_str, ty_bl_tuple, ty_bl_list, ty_int_int, ty_int_bool, ty_int_str, ty_int_tuple, ty_int_list, ty_str_int, ty_str_bool, ty_str_str, ty_str_tuple, ty_str_list, ty_tup_int, ty_tup_bool, ty_tup_str, ty_tup_tuple, ty_tup_list, ty_lst_int, ty_lst_bool, ty_lst_str, ty_lst_tuple, ty_lst_list, decide_eq_true_eq, Bool.not_true, Bool.not_false, if_true, if_false, ite_true, ite_false, Bool.false_eq_true, Bool.true_eq_false, Option.map_some, true_and, and_true, reduceCtorEq, List.length_cons, List.length_nil]
  split
  · rename_i hlt
    obtain ⟨x, h1, _⟩ := atI_of (xs := ns) (i := k) (by omega) hlt
    simp only [h1, ok_newc, upt_tup, upt_lst, frm_tup, frm_lst, rev_tup, rev_lst, trg_i, s_nil, s_ret, s_rtv, s_set, s_unp, s_par, s_app, s_expr, s_frz, cont_nx, cont_ret, fin_ret, fin_nx, frz_nil, frz_two, frz_succ, frz_z, frz_zn, List.getElem?_cons_zero, List.getElem?_cons_succ, setAll_cons, setAll_nil, e_var, e_cst, e_bin, e_neg, e_cmp, e_chn, e_isc, e_and, e_or, e_not, e_ite, e_tup, e_lst, e_newc, e_idx, e_from, e_upto, e_rev, e_call, e_blt, e_mth, e_trng, e_comp, es_nil, es_cons, rs_nil, rs_cons, vs_nil, vs_cons, c_no, c_yes, it_val, it_rng, it_enum, it_zip, c_F, f_F, items_tup, items_lst, rng_i, ok_noX, bind_nm, bind_tp, bind_cons, bind_nil, wipe_nil, wipe_cons, ok_bnd, ok_ret, ok_opt, ok_ask, ok_ite, ok_asB, ok_stk, oko_some, oko_none, oko_map, oko_if, boolO_bl, rd_succ, rd_fz, rd_ow, d_fz, d_ow, ow_succ, ow_zero, List.set_cons_zero, List.set_cons_succ, bin_add, bin_sub, bin_mul, bin_fdiv, bin_mod, bin_pow, add_ii, add_ll, add_tt, sub_ii, mul_ii, fdiv_ii, mod_ii, pow_ii, neg_i, eqD_ii, eqD_bb, cmp_eq, cmp_ne, cmp_lt, cmp_le, cmp_gt, cmp_ge, isc_nn, isc_bb, isc_in, isc_tn, isc_ln, blt_len_scr, blt_len_tup, blt_len_lst, blt_tuple_lst, blt_tuple_tup, blt_list_lst, blt_list_tup, blt_all, blt_any, blt_max2, blt_min2, blt_int_b, blt_int_i, blt_repr, blt_isi, ix_tup, ix_lst, ix_scr, ty_one, ty_non_int, ty_non_bool, ty_non_str, ty_non_tuple, ty_non_list, ty_bl_int, ty_bl_bool, ty_bl_str, ty_bl_tuple, ty_bl_list, ty_int_int, ty_int_bool, ty_int_str, ty_int_tuple, ty_int_list, ty_str_int, ty_str_bool, ty_str_str, ty_str_tuple, ty_str_list, ty_tup_int, ty_tup_bool, ty_tup_str, ty_tup_tuple, ty_tup_list, ty_lst_int, ty_lst_bool, ty_lst_str, ty_lst_tuple, ty_lst_list, decide_eq_true_eq, Bool.not_true, Bool.not_false, if_true, if_false, ite_true, ite_false, Bool.false_eq_true, Bool.true_eq_false, Option.map_some, true_and, and_true, reduceCtorEq, List.length_cons, List.length_nil]
    exact ⟨x, rfl⟩
  · exact ⟨0, rfl⟩
theorem sp_draws {c many size : Int} (h : P f = some d__law_draws) (hm0 : 0 ≤ many) (hm : many ≤ 100000) (h1 : 0 < size) (h2 : size < 1073741824) : Ok (run P (n + 1) f [.int c, .int many, .int size] S) (fun r S' => (∃ ns : List Int, (ns.length : Int) = many ∧ r = .ow (ns.map D.int)) ∧ S' = S) := by
  refine ok_run h rfl ?_
  show Ok (execSs _ (.cons (.set _ _) _) [some (.fz (.int c)), some (.fz (.int many)), some (.fz (.int size)), none, none, none, none] S) _
  simp only [ok_newc, upt_tup, upt_lst, frm_tup, frm_lst, rev_tup, rev_lst, trg_i, s_nil, s_ret, s_rtv, s_set, s_unp, s_par, s_app, s_expr, s_frz, cont_nx, cont_ret, fin_ret, fin_nx, frz_nil, frz_two, frz_succ, frz_z, frz_zn, List.getElem?_cons_zero, List.getElem?_cons_succ, setAll_cons, setAll_nil, e_var, e_cst, e_bin, e_neg, e_cmp, e_chn, e_isc, e_and, e_or, e_not, e_ite, e_tup, e_lst, e_newc, e_idx, e_from, e_upto, e_rev, e_call, e_blt, e_mth, e_trng, e_comp, es_nil, es_cons, rs_nil, rs_cons, vs_nil, vs_cons, c_no, c_yes, it_val, it_rng, it_enum, it_zip, c_F, f_F, items_tup, items_lst, rng_i, ok_noX, bind_nm, bind_tp, bind_cons, bind_nil, wipe_nil, wipe_cons, ok_bnd, ok_ret, ok_opt, ok_ask, ok_ite, ok_asB, ok_stk, oko_some, oko_none, oko_map, oko_if, boolO_bl, rd_succ, rd_fz, rd_ow, d_fz, d_ow, ow_succ, ow_zero, List.set_cons_zero, List.set_cons_succ, bin_add, bin_sub, bin_mul, bin_fdiv, bin_mod, bin_pow, add_ii, add_ll, add_tt, sub_ii, mul_ii, fdiv_ii, mod_ii, pow_ii, neg_i, eqD_ii, eqD_bb, cmp_eq, cmp_ne, cmp_lt, cmp_le, cmp_gt, cmp_ge, isc_nn, isc_bb, isc_in, isc_tn, isc_ln, blt_len_scr, blt_len_tup, blt_len_lst, blt_tuple_lst, blt_tuple_tup, blt_list_lst, blt_list_tup, blt_all, blt_any, blt_max2, blt_min2, blt_int_b, blt_int_i, blt_repr, blt_isi, ix_tup, ix_lst, ix_scr, ty_one, ty_non_int, ty_non_bool, ty_non_str, ty_non_tuple, ty_non_list, ty_bl_int, ty_bl_bool, ty_bl_str, ty_bl_tuple, ty_bl_list, ty_int_int, ty_int_bool, ty_int_str, ty_int_tuple, ty_int_list, ty_str_int, ty_str_bool, ty_str_str, ty_str_tuple, ty_str_list, ty_tup_int, ty_tup_bool, ty_tup_str, ty_tup_tuple, ty_tup_list, ty_lst_int, ty_lst_bool, ty_lst_str, ty_lst_tuple, ty_lst_list, decide_eq_true_eq, Bool.not_true, Bool.not_false, if_true, if_false, ite_true, ite_false, Bool.false_eq_true, Bool.true_eq_false, Option.map_some, true_and, and_true, reduceCtorEq, List.length_cons, List.length_nil]
  refine ⟨Nat.zero_le _, ⟨by decide, by decide, by decide, by decide⟩, .inr ?_, by decide, ?_⟩
  · split <;> decide
  generalize (c * if 10 ^ Int.toNat 18 ≤ c then 1 else 0) = rest0
  have hst0 : 0 ≤ c % 2305843009213693951 ∧ c % 2305843009213693951 < 2305843009213693951 := ⟨Int.emod_nonneg _ (by decide), Int.emod_lt_of_pos _ (by decide)⟩
  generalize c % 2305843009213693951 = st0 at hst0 ⊢
  rw [s_for]
  simp only [ok_newc, upt_tup, upt_lst, frm_tup, frm_lst, rev_tup, rev_lst, trg_i, s_nil, s_ret, s_rtv, s_set, s_unp, s_par, s_app, s_expr, s_frz, cont_nx, cont_ret, fin_ret, fin_nx, frz_nil, frz_two, frz_succ, frz_z, frz_zn, List.getElem?_cons_zero, List.getElem?_cons_succ, setAll_cons, setAll_nil, e_var, e_cst, e_bin, e_neg, e_cmp, e_chn, e_isc, e_and, e_or, e_not, e_ite, e_tup, e_lst, e_newc, e_idx, e_from, e_upto, e_rev, e_call, e_blt, e_mth, e_trng, e_comp, es_nil, es_cons, rs_nil, rs_cons, vs_nil, vs_cons, c_no, c_yes, it_val, it_rng, it_enum, it_zip, c_F, f_F, items_tup, items_lst, rng_i, ok_noX, bind_nm, bind_tp, bind_cons, bind_nil, wipe_nil, wipe_cons, ok_bnd, ok_ret, ok_opt, ok_ask, ok_ite, ok_asB, ok_stk, oko_some, oko_none, oko_map, oko_if, boolO_bl, rd_succ, rd_fz, rd_ow, d_fz, d_ow, ow_succ, ow_zero, List.set_cons_zero, List.set_cons_succ, bin_add, bin_sub, bin_mul, bin_fdiv, bin_mod, bin_pow, add_ii, add_ll, add_tt, sub_ii, mul_ii, fdiv_ii, mod_ii, pow_ii, neg_i, eqD_ii, eqD_bb, cmp_eq, cmp_ne, cmp_lt, cmp_le, cmp_gt, cmp_ge, isc_nn, isc_bb, isc_in, isc_tn, isc_ln, blt_len_scr, blt_len_tup, blt_len_lst, blt_tuple_lst, blt_tuple_tup, blt_list_lst, blt_list_tup, blt_all, blt_any, blt_max2, blt_min2, blt_int_b, blt_int_i, blt_repr, blt_isi, ix_tup, ix_lst, ix_scr, ty_one, ty_non_int, ty_non_bool, ty_non_str, ty_non_tuple, ty_non_list, ty_bl_int, ty_bl_bool, ty_bl_str, ty_bl_tuple, ty_bl_list, ty_int_int, ty_int_bool, ty_int_str, ty_int_tuple, ty_int_list, ty_str_int, ty_str_bool, ty_str_str, ty_str_tuple, ty_str_list, ty_tup_int, ty_tup_bool, ty_tup_str, ty_tup_tuple, ty_tup_list, ty_lst_int, ty_lst_bool, ty_lst_str, ty_lst_tuple, ty_lst_list, decide_eq_true_eq, Bool.not_true, Bool.not_false, if_true, if_false, ite_true, ite_false, Bool.false_eq_true, Bool.true_eq_false, Option.map_some, true_and, and_true, reduceCtorEq, List.length_cons, List.length_nil]
  refine ⟨okRng_i (by omega) (by omega), ?_⟩
  refine for_ok (rngD (many + 3)) (fun i env S' => S' = S ∧ ∃ (ns : List Int) (rest st : Int) (kk : Option Rv), env = [some (.fz (.int c)), some (.fz (.int many)), some (.fz (.int size)), some (.ow (ns.map D.int)), some (.fz (.int rest)), some (.fz (.int st)), kk] ∧ 0 ≤ st ∧ st < 2305843009213693951 ∧ ns.length = i - 3)
    ⟨rfl, [], rest0, st0, none, rfl, hst0.1, hst0.2, rfl⟩ (fun i x env S' hx => ?_) (fun env S' => ?_)
  · rintro ⟨rfl, ns, rest, st, kk, rfl, s0, s1, hl⟩
    obtain ⟨rfl, hi⟩ := rng_get hx
    simp only [ok_newc, upt_tup, upt_lst, frm_tup, frm_lst, rev_tup, rev_lst, trg_i, s_nil, s_ret, s_rtv, s_set, s_unp, s_par, s_app, s_expr, s_frz, cont_nx, cont_ret, fin_ret, fin_nx, frz_nil, frz_two, frz_succ, frz_z, frz_zn, List.getElem?_cons_zero, List.getElem?_cons_succ, setAll_cons, setAll_nil, e_var, e_cst, e_bin, e_neg, e_cmp, e_chn, e_isc, e_and, e_or, e_not, e_ite, e_tup, e_lst, e_newc, e_idx, e_from, e_upto, e_rev, e_call, e_blt, e_mth, e_trng, e_comp, es_nil, es_cons, rs_nil, rs_cons, vs_nil, vs_cons, c_no, c_yes, it_val, it_rng, it_enum, it_zip, c_F, f_F, items_tup, items_lst, rng_i, ok_noX, bind_nm, bind_tp, bind_cons, bind_nil, wipe_nil, wipe_cons, ok_bnd, ok_ret, ok_opt, ok_ask, ok_ite, ok_asB, ok_stk, oko_some, oko_none, oko_map, oko_if, boolO_bl, rd_succ, rd_fz, rd_ow, d_fz, d_ow, ow_succ, ow_zero, List.set_cons_zero, List.set_cons_succ, bin_add, bin_sub, bin_mul, bin_fdiv, bin_mod, bin_pow, add_ii, add_ll, add_tt, sub_ii, mul_ii, fdiv_ii, mod_ii, pow_ii, neg_i, eqD_ii, eqD_bb, cmp_eq, cmp_ne, cmp_lt, cmp_le, cmp_gt, cmp_ge, isc_nn, isc_bb, isc_in, isc_tn, isc_ln, blt_len_scr, blt_len_tup, blt_len_lst, blt_tuple_lst, blt_tuple_tup, blt_list_lst, blt_list_tup, blt_all, blt_any, blt_max2, blt_min2, blt_int_b, blt_int_i, blt_repr, blt_isi, ix_tup, ix_lst, ix_scr, ty_one, ty_non_int, ty_non_bool, ty_non_str, ty_non_tuple, ty_non_list, ty_bl_int, ty_bl_bool, ty_bl_str, ty_bl_tuple, ty_bl_list, ty_int_int, ty_int_bool, ty_int_str, ty_int_tuple, ty_int_list, ty_str_int, ty_str_bool, ty_str_str, ty_str_tuple, ty_str_list, ty_tup_int, ty_tup_bool, ty_tup_str, ty_tup_tuple, ty_tup_list, ty_lst_int, ty_lst_bool, ty_lst_str, ty_lst_tuple, ty_lst_list, decide_eq_true_eq, Bool.not_true, Bool.not_false, if_true, if_false, ite_true, ite_false, Bool.false_eq_true, Bool.true_eq_false, Option.map_some, true_and, and_true, reduceCtorEq, List.length_cons, List.length_nil]
    refine ⟨.inl ⟨by omega, by omega⟩, .inl ⟨by decide, by decide⟩, by decide, ?_⟩
    have hst : ∀ z : Int, 0 ≤ z % 2305843009213693951 ∧ z % 2305843009213693951 < 2305843009213693951 := fun z => ⟨Int.emod_nonneg _ (by decide), Int.emod_lt_of_pos _ (by decide)⟩
    have hz := hst (st * st + 48271 * st + (i : Int) + 1)
    generalize (st * st + 48271 * st + (i : Int) + 1) % 2305843009213693951 = z at hz ⊢
    rw [s_ite]
    simp only [ok_newc, upt_tup, upt_lst, frm_tup, frm_lst, rev_tup, rev_lst, trg_i, s_nil, s_ret, s_rtv, s_set, s_unp, s_par, s_app, s_expr, s_frz, cont_nx, cont_ret, fin_ret, fin_nx, frz_nil, frz_two, frz_succ, frz_z, frz_zn, List.getElem?_cons_zero, List.getElem?_cons_succ, setAll_cons, setAll_nil, e_var, e_cst, e_bin, e_neg, e_cmp, e_chn, e_isc, e_and, e_or, e_not, e_ite, e_tup, e_lst, e_newc, e_idx, e_from, e_upto, e_rev, e_call, e_blt, e_mth, e_trng, e_comp, es_nil, es_cons, rs_nil, rs_cons, vs_nil, vs_cons, c_no, c_yes, it_val, it_rng, it_enum, it_zip, c_F, f_F, items_tup, items_lst, rng_i, ok_noX, bind_nm, bind_tp, bind_cons, bind_nil, wipe_nil, wipe_cons, ok_bnd, ok_ret, ok_opt, ok_ask, ok_ite, ok_asB, ok_stk, oko_some, oko_none, oko_map, oko_if, boolO_bl, rd_succ, rd_fz, rd_ow, d_fz, d_ow, ow_succ, ow_zero, List.set_cons_zero, List.set_cons_succ, bin_add, bin_sub, bin_mul, bin_fdiv, bin_mod, bin_pow, add_ii, add_ll, add_tt, sub_ii, mul_ii, fdiv_ii, mod_ii, pow_ii, neg_i, eqD_ii, eqD_bb, cmp_eq, cmp_ne, cmp_lt, cmp_le, cmp_gt, cmp_ge, isc_nn, isc_bb, isc_in, isc_tn, isc_ln, blt_len_scr, blt_len_tup, blt_len_lst, blt_tuple_lst, blt_tuple_tup, blt_list_lst, blt_list_tup, blt_all, blt_any, blt_max2, blt_min2, blt_int_b, blt_int_i, blt_repr, blt_isi, ix_tup, ix_lst, ix_scr, ty_one, ty_non_int, ty_non_bool, ty_non_str, ty_non_tuple, ty_non_list, ty_bl_int, ty_bl_bool, ty_bl_str, ty_bl_tuple, ty_bl_list, ty_int_int, ty_int_bool, ty_int_str, ty_int_tuple, ty_int_list, ty_str_int, ty_str_bool, ty_str_str, ty_str_tuple, ty_str_list, ty_tup_int, ty_tup_bool, ty_tup_str, ty_tup_tuple, ty_tup_list, ty_lst_int, ty_lst_bool, ty_lst_str, ty_lst_tuple, ty_lst_list, decide_eq_true_eq, Bool.not_true, Bool.not_false, if_true, if_false, ite_true, ite_false, Bool.false_eq_true, Bool.true_eq_false, Option.map_some, true_and, and_true, reduceCtorEq, List.length_cons, List.length_nil]
    have hlen : ns.length < sizeLine := by
      rw [size16]
      omega
    by_cases h3 : (2 : Int) < i
    · by_cases h4 : 0 < rest
      · simp only [ok_newc, upt_tup, upt_lst, frm_tup, frm_lst, rev_tup, rev_lst, trg_i, s_nil, s_ret, s_rtv, s_set, s_unp, s_par, s_app, s_expr, s_frz, cont_nx, cont_ret, fin_ret, fin_nx, frz_nil, frz_two, frz_succ, frz_z, frz_zn, List.getElem?_cons_zero, List.getElem?_cons_succ, setAll_cons, setAll_nil, e_var, e_cst, e_bin, e_neg, e_cmp, e_chn, e_isc, e_and, e_or, e_not, e_ite, e_tup, e_lst, e_newc, e_idx, e_from, e_upto, e_rev, e_call, e_blt, e_mth, e_trng, e_comp, es_nil, es_cons, rs_nil, rs_cons, vs_nil, vs_cons, c_no, c_yes, it_val, it_rng, it_enum, it_zip, c_F, f_F, items_tup, items_lst, rng_i, ok_noX, bind_nm, bind_tp, bind_cons, bind_nil, wipe_nil, wipe_cons, ok_bnd, ok_ret, ok_opt, ok_ask, ok_ite, ok_asB, ok_stk, oko_some, oko_none, oko_map, oko_if, boolO_bl, rd_succ, rd_fz, rd_ow, d_fz, d_ow, ow_succ, ow_zero, List.set_cons_zero, List.set_cons_succ, bin_add, bin_sub, bin_mul, bin_fdiv, bin_mod, bin_pow, add_ii, add_ll, add_tt, sub_ii, mul_ii, fdiv_ii, mod_ii, pow_ii, neg_i, eqD_ii, eqD_bb, cmp_eq, cmp_ne, cmp_lt, cmp_le, cmp_gt, cmp_ge, isc_nn, isc_bb, isc_in, isc_tn, isc_ln, blt_len_scr, blt_len_tup, blt_len_lst, blt_tuple_lst, blt_tuple_tup, blt_list_lst, blt_list_tup, blt_all, blt_any, blt_max2, blt_min2, blt_int_b, blt_int_i, blt_repr, blt_isi, ix_tup, ix_lst, ix_scr, ty_one, ty_non_int, ty_non_bool, ty_non_str, ty_non_tuple, ty_non_list, ty_bl_int, ty_bl_bool, ty_bl_str, ty_bl_tuple, ty_bl_list, ty_int_int, ty_int_bool, ty_int_str, ty_int_tuple, ty_int_list, ty_str_int, ty_str_bool, ty_str_str, ty_str_tuple, ty_str_list, ty_tup_int, ty_tup_bool, ty_tup_str, ty_tup_tuple, ty_tup_list, ty_lst_int, ty_lst_bool, ty_lst_str, ty_lst_tuple, ty_lst_list, decide_eq_true_eq, Bool.not_true, Bool.not_false, if_true, if_false, ite_true, ite_false, Bool.false_eq_true, Bool.true_eq_false, Option.map_some, true_and, and_true, reduceCtorEq, List.length_cons, List.length_nil, h3, h4, List.length_map]
        refine ⟨h1, hlen, ⟨h1, h2⟩, ns ++ [rest % size], rest / size, z, some (.fz (.int i)), ?_, hz.1, hz.2, ?_⟩
        · rw [List.map_append]
          rfl
        · rw [List.length_append, hl]
          simp
          omega
      · simp only [ok_newc, upt_tup, upt_lst, frm_tup, frm_lst, rev_tup, rev_lst, trg_i, s_nil, s_ret, s_rtv, s_set, s_unp, s_par, s_app, s_expr, s_frz, cont_nx, cont_ret, fin_ret, fin_nx, frz_nil, frz_two, frz_succ, frz_z, frz_zn, List.getElem?_cons_zero, List.getElem?_cons_succ, setAll_cons, setAll_nil, e_var, e_cst, e_bin, e_neg, e_cmp, e_chn, e_isc, e_and, e_or, e_not, e_ite, e_tup, e_lst, e_newc, e_idx, e_from, e_upto, e_rev, e_call, e_blt, e_mth, e_trng, e_comp, es_nil, es_cons, rs_nil, rs_cons, vs_nil, vs_cons, c_no, c_yes, it_val, it_rng, it_enum, it_zip, c_F, f_F, items_tup, items_lst, rng_i, ok_noX, bind_nm, bind_tp, bind_cons, bind_nil, wipe_nil, wipe_cons, ok_bnd, ok_ret, ok_opt, ok_ask, ok_ite, ok_asB, ok_stk, oko_some, oko_none, oko_map, oko_if, boolO_bl, rd_succ, rd_fz, rd_ow, d_fz, d_ow, ow_succ, ow_zero, List.set_cons_zero, List.set_cons_succ, bin_add, bin_sub, bin_mul, bin_fdiv, bin_mod, bin_pow, add_ii, add_ll, add_tt, sub_ii, mul_ii, fdiv_ii, mod_ii, pow_ii, neg_i, eqD_ii, eqD_bb, cmp_eq, cmp_ne, cmp_lt, cmp_le, cmp_gt, cmp_ge, isc_nn, isc_bb, isc_in, isc_tn, isc_ln, blt_len_scr, blt_len_tup, blt_len_lst, blt_tuple_lst, blt_tuple_tup, blt_list_lst, blt_list_tup, blt_all, blt_any, blt_max2, blt_min2, blt_int_b, blt_int_i, blt_repr, blt_isi, ix_tup, ix_lst, ix_scr, ty_one, ty_non_int, ty_non_bool, ty_non_str, ty_non_tuple, ty_non_list, ty_bl_int, ty_bl_bool, ty_bl_str, ty_bl_tuple, ty_bl_list, ty_int_int, ty_int_bool, ty_int_str, ty_int_tuple, ty_int_list, ty_str_int, ty_str_bool, ty_str_str, ty_str_tuple, ty_str_list, ty_tup_int, ty_tup_bool, ty_tup_str, ty_tup_tuple, ty_tup_list, ty_lst_int, ty_lst_bool, ty_lst_str, ty_lst_tuple, ty_lst_list, decide_eq_true_eq, Bool.not_true, Bool.not_false, if_true, if_false, ite_true, ite_false, Bool.false_eq_true, Bool.true_eq_false, Option.map_some, true_and, and_true, reduceCtorEq, List.length_cons, List.length_nil, h3, h4, decide_false]
        rw [s_ite]
        simp only [ok_newc, upt_tup, upt_lst, frm_tup, frm_lst, rev_tup, rev_lst, trg_i, s_nil, s_ret, s_rtv, s_set, s_unp, s_par, s_app, s_expr, s_frz, cont_nx, cont_ret, fin_ret, fin_nx, frz_nil, frz_two, frz_succ, frz_z, frz_zn, List.getElem?_cons_zero, List.getElem?_cons_succ, setAll_cons, setAll_nil, e_var, e_cst, e_bin, e_neg, e_cmp, e_chn, e_isc, e_and, e_or, e_not, e_ite, e_tup, e_lst, e_newc, e_idx, e_from, e_upto, e_rev, e_call, e_blt, e_mth, e_trng, e_comp, es_nil, es_cons, rs_nil, rs_cons, vs_nil, vs_cons, c_no, c_yes, it_val, it_rng, it_enum, it_zip, c_F, f_F, items_tup, items_lst, rng_i, ok_noX, bind_nm, bind_tp, bind_cons, bind_nil, wipe_nil, wipe_cons, ok_bnd, ok_ret, ok_opt, ok_ask, ok_ite, ok_asB, ok_stk, oko_some, oko_none, oko_map, oko_if, boolO_bl, rd_succ, rd_fz, rd_ow, d_fz, d_ow, ow_succ, ow_zero, List.set_cons_zero, List.set_cons_succ, bin_add, bin_sub, bin_mul, bin_fdiv, bin_mod, bin_pow, add_ii, add_ll, add_tt, sub_ii, mul_ii, fdiv_ii, mod_ii, pow_ii, neg_i, eqD_ii, eqD_bb, cmp_eq, cmp_ne, cmp_lt, cmp_le, cmp_gt, cmp_ge, isc_nn, isc_bb, isc_in, isc_tn, isc_ln, blt_len_scr, blt_len_tup, blt_len_lst, blt_tuple_lst, blt_tuple_tup, blt_list_lst, blt_list_tup, blt_all, blt_any, blt_max2, blt_min2, blt_int_b, blt_int_i, blt_repr, blt_isi, ix_tup, ix_lst, ix_scr, ty_one, ty_non_int, ty_non_bool, ty_non_str, ty_non_tuple, ty_non_list, ty_bl_int, ty_bl_bool, ty_bl_str, ty_bl_tuple, ty_bl_list, ty_int_int, ty_int_bool, ty_int_str, ty_int_tuple, ty_int_list, ty_str_int, ty_str_bool, ty_str_str, ty_str_tuple, ty_str_list, ty_tup_int, ty_tup_bool, ty_tup_str, ty_tup_tuple, ty_tup_list, ty_lst_int, ty_lst_bool, ty_lst_str, ty_lst_tuple, ty_lst_list, decide_eq_true_eq, Bool.not_true, Bool.not_false, if_true, if_false, ite_true, ite_false, Bool.false_eq_true, Bool.true_eq_false, Option.map_some, true_and, and_true, reduceCtorEq, List.length_cons, List.length_nil, h3, List.length_map]
        refine ⟨⟨by decide, by decide⟩, h1, hlen, ns ++ [z / 4096 % size], rest, z, some (.fz (.int i)), ?_, hz.1, hz.2, ?_⟩
        · rw [List.map_append]
          rfl
        · rw [List.length_append, hl]
          simp
          omega
    · simp only [ok_newc, upt_tup, upt_lst, frm_tup, frm_lst, rev_tup, rev_lst, trg_i, s_nil, s_ret, s_rtv, s_set, s_unp, s_par, s_app, s_expr, s_frz, cont_nx, cont_ret, fin_ret, fin_nx, frz_nil, frz_two, frz_succ, frz_z, frz_zn, List.getElem?_cons_zero, List.getElem?_cons_succ, setAll_cons, setAll_nil, e_var, e_cst, e_bin, e_neg, e_cmp, e_chn, e_isc, e_and, e_or, e_not, e_ite, e_tup, e_lst, e_newc, e_idx, e_from, e_upto, e_rev, e_call, e_blt, e_mth, e_trng, e_comp, es_nil, es_cons, rs_nil, rs_cons, vs_nil, vs_cons, c_no, c_yes, it_val, it_rng, it_enum, it_zip, c_F, f_F, items_tup, items_lst, rng_i, ok_noX, bind_nm, bind_tp, bind_cons, bind_nil, wipe_nil, wipe_cons, ok_bnd, ok_ret, ok_opt, ok_ask, ok_ite, ok_asB, ok_stk, oko_some, oko_none, oko_map, oko_if, boolO_bl, rd_succ, rd_fz, rd_ow, d_fz, d_ow, ow_succ, ow_zero, List.set_cons_zero, List.set_cons_succ, bin_add, bin_sub, bin_mul, bin_fdiv, bin_mod, bin_pow, add_ii, add_ll, add_tt, sub_ii, mul_ii, fdiv_ii, mod_ii, pow_ii, neg_i, eqD_ii, eqD_bb, cmp_eq, cmp_ne, cmp_lt, cmp_le, cmp_gt, cmp_ge, isc_nn, isc_bb, isc_in, isc_tn, isc_ln, blt_len_scr, blt_len_tup, blt_len_lst, blt_tuple_lst, blt_tuple_tup, blt_list_lst, blt_list_tup, blt_all, blt_any, blt_max2, blt_min2, blt_int_b, blt_int_i, blt_repr, blt_isi, ix_tup, ix_lst, ix_scr, ty_one, ty_non_int, ty_non_bool, ty_non_str, ty_non_tuple, ty_non_list, ty_bl_int, ty_bl_bool, ty_bl_str, ty_bl_tuple, ty_bl_list, ty_int_int, ty_int_bool, ty_int_str, ty_int_tuple, ty_int_list, ty_str_int, ty_str_bool, ty_str_str, ty_str_tuple, ty_str_list, ty_tup_int, ty_tup_bool, ty_tup_str, ty_tup_tuple, ty_tup_list, ty_lst_int, ty_lst_bool, ty_lst_str, ty_lst_tuple, ty_lst_list, decide_eq_true_eq, Bool.not_true, Bool.not_false, if_true, if_false, ite_true, ite_false, Bool.false_eq_true, Bool.true_eq_false, Option.map_some, true_and, and_true, reduceCtorEq, List.length_cons, List.length_nil, h3, decide_false]
      rw [s_ite]
      simp only [ok_newc, upt_tup, upt_lst, frm_tup, frm_lst, rev_tup, rev_lst, trg_i, s_nil, s_ret, s_rtv, s_set, s_unp, s_par, s_app, s_expr, s_frz, cont_nx, cont_ret, fin_ret, fin_nx, frz_nil, frz_two, frz_succ, frz_z, frz_zn, List.getElem?_cons_zero, List.getElem?_cons_succ, setAll_cons, setAll_nil, e_var, e_cst, e_bin, e_neg, e_cmp, e_chn, e_isc, e_and, e_or, e_not, e_ite, e_tup, e_lst, e_newc, e_idx, e_from, e_upto, e_rev, e_call, e_blt, e_mth, e_trng, e_comp, es_nil, es_cons, rs_nil, rs_cons, vs_nil, vs_cons, c_no, c_yes, it_val, it_rng, it_enum, it_zip, c_F, f_F, items_tup, items_lst, rng_i, ok_noX, bind_nm, bind_tp, bind_cons, bind_nil, wipe_nil, wipe_cons, ok_bnd, ok_ret, ok_opt, ok_ask, ok_ite, ok_asB, ok_stk, oko_some, oko_none, oko_map, oko_if, boolO_bl, rd_succ, rd_fz, rd_ow, d_fz, d_ow, ow_succ, ow_zero, List.set_cons_zero, List.set_cons_succ, bin_add, bin_sub, bin_mul, bin_fdiv, bin_mod, bin_pow, add_ii, add_ll, add_tt, sub_ii, mul_ii, fdiv_ii, mod_ii, pow_ii, neg_i, eqD_ii, eqD_bb, cmp_eq, cmp_ne, cmp_lt, cmp_le, cmp_gt, cmp_ge, isc_nn, isc_bb, isc_in, isc_tn, isc_ln, blt_len_scr, blt_len_tup, blt_len_lst, blt_tuple_lst, blt_tuple_tup, blt_list_lst, blt_list_tup, blt_all, blt_any, blt_max2, blt_min2, blt_int_b, blt_int_i, blt_repr, blt_isi, ix_tup, ix_lst, ix_scr, ty_one, ty_non_int, ty_non_bool, ty_non_str, ty_non_tuple, ty_non_list, ty_bl_int, ty_bl_bool, ty_bl_str, ty_bl_tuple, ty_bl_list, ty_int_int, ty_int_bool, ty_int_str, ty_int_tuple, ty_int_list, ty_str_int, ty_str_bool, ty_str_str, ty_str_tuple, ty_str_list, ty_tup_int, ty_tup_bool, ty_tup_str, ty_tup_tuple, ty_tup_list, ty_lst_int, ty_lst_bool, ty_lst_str, ty_lst_tuple, ty_lst_list, decide_eq_true_eq, Bool.not_true, Bool.not_false, if_true, if_false, ite_true, ite_false, Bool.false_eq_true, Bool.true_eq_false, Option.map_some, true_and, and_true, reduceCtorEq, List.length_cons, List.length_nil, h3, decide_false]
      exact ⟨ns, rest, z, _, rfl, hz.1, hz.2, by omega⟩
  · rintro ⟨rfl, ns, rest, st, kk, rfl, s0, s1, hl⟩
    simp only [ok_newc, upt_tup, upt_lst, frm_tup, frm_lst, rev_tup, rev_lst, trg_i, s_nil, s_ret, s_rtv, s_set, s_unp, s_par, s_app, s_expr, s_frz, cont_nx, cont_ret, fin_ret, fin_nx, frz_nil, frz_two, frz_succ, frz_z, frz_zn, List.getElem?_cons_zero, List.getElem?_cons_succ, setAll_cons, setAll_nil, e_var, e_cst, e_bin, e_neg, e_cmp, e_chn, e_isc, e_and, e_or, e_not, e_ite, e_tup, e_lst, e_newc, e_idx, e_from, e_upto, e_rev, e_call, e_blt, e_mth, e_trng, e_comp, es_nil, es_cons, rs_nil, rs_cons, vs_nil, vs_cons, c_no, c_yes, it_val, it_rng, it_enum, it_zip, c_F, f_F, items_tup, items_lst, rng_i, ok_noX, bind_nm, bind_tp, bind_cons, bind_nil, wipe_nil, wipe_cons, ok_bnd, ok_ret, ok_opt, ok_ask, ok_ite, ok_asB, ok_stk, oko_some, oko_none, oko_map, oko_if, boolO_bl, rd_succ, rd_fz, rd_ow, d_fz, d_ow, ow_succ, ow_zero, List.set_cons_zero, List.set_cons_succ, bin_add, bin_sub, bin_mul, bin_fdiv, bin_mod, bin_pow, add_ii, add_ll, add_tt, sub_ii, mul_ii, fdiv_ii, mod_ii, pow_ii, neg_i, eqD_ii, eqD_bb, cmp_eq, cmp_ne, cmp_lt, cmp_le, cmp_gt, cmp_ge, isc_nn, isc_bb, isc_in, isc_tn, isc_ln, blt_len_scr, blt_len_tup, blt_len_lst, blt_tuple_lst, blt_tuple_tup, blt_list_lst, blt_list_tup, blt_all, blt_any, blt_max2, blt_min2, blt_int_b, blt_int_i, blt_repr, blt_isi, ix_tup, ix_lst, ix_scr, ty_one, ty_non_int, ty_non_bool, ty_non_str, ty_non_tuple, ty_non_list, ty_bl_int, ty_bl_bool, ty_bl_str, ty_bl_tuple, ty_bl_list, ty_int_int, ty_int_bool, ty_int_str, ty_int_tuple, ty_int_list, ty_str_int, ty_str_bool, ty_str_str, ty_str_tuple, ty_str_list, ty_tup_int, ty_tup_bool, ty_tup_str, ty_tup_tuple, ty_tup_list, ty_lst_int, ty_lst_bool, ty_lst_str, ty_lst_tuple, ty_lst_list, decide_eq_true_eq, Bool.not_true, Bool.not_false, if_true, if_false, ite_true, ite_false, Bool.false_eq_true, Bool.true_eq_false, Option.map_some, true_and, and_true, reduceCtorEq, List.length_cons, List.length_nil]
    refine ⟨ns, ?_, rfl⟩
    rw [hl, rng_len]
    omega
end
end Mini
/-! PureF: bags, kinds by draws. -/
namespace Mini
open PySem L2
section
variable {P : Nat → Option FDef} {f g w n m b : Nat} {S : Store}
theorem sp_bag {ns : List Int} {k : Nat} {dr ca : Nat} (h : P f = some (d__law_bag (c__law_draws := dr) (c__law_cell_at := ca))) (hd : P dr = some d__law_draws) (hc : P ca = some d__law_cell_at) :
    Ok (run P (n + 2) f [.scr ns, .int k] S) fun r S' => r = .fz (.cell S.length) ∧ S'.length = S.length + 1 ∧ BagOk S' S.length ∧ ∀ b, BagOk S b → BagOk S' b := by
  refine ok_run h rfl ?_
  show Ok (execSs _ (.cons (.ret _) _) [some (.fz (.scr ns)), some (.fz (.int k))] S) _
  try simp only [ok_newc, upt_tup, upt_lst, frm_tup, frm_lst, rev_tup, rev_lst, trg_i, s_nil, s_ret, s_rtv, s_set, s_unp, s_par, s_app, s_expr, s_frz, cont_nx, cont_ret, fin_ret, fin_nx, frz_nil, frz_two, frz_succ, frz_z, frz_zn, List.getElem?_cons_zero, List.getElem?_cons_succ, setAll_cons, setAll_nil, e_var, e_cst, e_bin, e_neg, e_cmp, e_chn, e_isc, e_and, e_or, e_not, e_ite, e_tup, e_lst, e_newc, e_idx, e_from, e_upto, e_rev, e_call, e_blt, e_mth, e_trng, e_comp, es_nil, es_cons, rs_nil, rs_cons, vs_nil, vs_cons, c_no, c_yes, it_val, it_rng, it_enum, it_zip, c_F, f_F, items_tup, items_lst, rng_i, ok_noX, bind_nm, bind_tp, bind_cons, bind_nil, wipe_nil, wipe_cons, ok_bnd, ok_ret, ok_opt, ok_ask, ok_ite, ok_asB, ok_stk, oko_some, oko_none, oko_map, oko_if, boolO_bl, rd_succ, rd_fz, rd_ow, d_fz, d_ow, ow_succ, ow_zero, List.set_cons_zero, List.set_cons_succ, bin_add, bin_sub, bin_mul, bin_fdiv, bin_mod, bin_pow, add_ii, add_ll, add_tt, sub_ii, mul_ii, fdiv_ii, mod_ii, pow_ii, neg_i, eqD_ii, eqD_bb, cmp_eq, cmp_ne, cmp_lt, cmp_le, cmp_gt, cmp_ge, isc_nn, isc_bb, isc_in, isc_tn, isc_ln, blt_len_scr, blt_len_tup, blt_len_lst, blt_tuple_lst, blt_tuple_tup, blt_list_lst, blt_list_tup, blt_all, blt_any, blt_max2, blt_min2, blt_int_b, blt_int_i, blt_repr, blt_isi, ix_tup, ix_lst, ix_scr, ty_one, ty_non_int, ty_non_bool, ty_non_str, ty_non_tuple, ty_non_list, ty_bl_int, ty_bl_bool, ty_bl_str, ty_bl_tuple, ty_bl_list, ty_int_int, ty_int_bool, ty_int_str, ty_int_tuple, ty_int_list, ty_str_int, ty_str_bool, ty_str_str, ty_str_tuple, ty_str_list, ty_tup_int, ty_tup_bool, ty_tup_str, ty_tup_tuple, ty_tup_list, ty_lst_int, ty_lst_bool, ty_lst_str, ty_lst_tuple, ty_lst_list, decide_eq_true_eq, Bool.not_true, Bool.not_false, if_true, if_false, ite_true, ite_false, Bool.false_eq_true, Bool.true_eq_false, Option.map_some, true_and, and_true, reduceCtorEq, List.length_cons, List.length_nil]
  obtain ⟨i, hi⟩ := sp_cell_at (P := P) (f := ca) (n := n) (S := S) (ns := ns) (k := k) hc
  refine ok_of hi ?_
  try simp only [ok_newc, upt_tup, upt_lst, frm_tup, frm_lst, rev_tup, rev_lst, trg_i, s_nil, s_ret, s_rtv, s_set, s_unp, s_par, s_app, s_expr, s_frz, cont_nx, cont_ret, fin_ret, fin_nx, frz_nil, frz_two, frz_succ, frz_z, frz_zn, List.getElem?_cons_zero, List.getElem?_cons_succ, setAll_cons, setAll_nil, e_var, e_cst, e_bin, e_neg, e_cmp, e_chn, e_isc, e_and, e_or, e_not, e_ite, e_tup, e_lst, e_newc, e_idx, e_from, e_upto, e_rev, e_call, e_blt, e_mth, e_trng, e_comp, es_nil, es_cons, rs_nil, rs_cons, vs_nil, vs_cons, c_no, c_yes, it_val, it_rng, it_enum, it_zip, c_F, f_F, items_tup, items_lst, rng_i, ok_noX, bind_nm, bind_tp, bind_cons, bind_nil, wipe_nil, wipe_cons, ok_bnd, ok_ret, ok_opt, ok_ask, ok_ite, ok_asB, ok_stk, oko_some, oko_none, oko_map, oko_if, boolO_bl, rd_succ, rd_fz, rd_ow, d_fz, d_ow, ow_succ, ow_zero, List.set_cons_zero, List.set_cons_succ, bin_add, bin_sub, bin_mul, bin_fdiv, bin_mod, bin_pow, add_ii, add_ll, add_tt, sub_ii, mul_ii, fdiv_ii, mod_ii, pow_ii, neg_i, eqD_ii, eqD_bb, cmp_eq, cmp_ne, cmp_lt, cmp_le, cmp_gt, cmp_ge, isc_nn, isc_bb, isc_in, isc_tn, isc_ln, blt_len_scr, blt_len_tup, blt_len_lst, blt_tuple_lst, blt_tuple_tup, blt_list_lst, blt_list_tup, blt_all, blt_any, blt_max2, blt_min2, blt_int_b, blt_int_i, blt_repr, blt_isi, ix_tup, ix_lst, ix_scr, ty_one, ty_non_int, ty_non_bool, ty_non_str, ty_non_tuple, ty_non_list, ty_bl_int, ty_bl_bool, ty_bl_str, ty_bl_tuple, ty_bl_list, ty_int_int, ty_int_bool, ty_int_str, ty_int_tuple, ty_int_list, ty_str_int, ty_str_bool, ty_str_str, ty_str_tuple, ty_str_list, ty_tup_int, ty_tup_bool, ty_tup_str, ty_tup_tuple, ty_tup_list, ty_lst_int, ty_lst_bool, ty_lst_str, ty_lst_tuple, ty_lst_list, decide_eq_true_eq, Bool.not_true, Bool.not_false, if_true, if_false, ite_true, ite_false, Bool.false_eq_true, Bool.true_eq_false, Option.map_some, true_and, and_true, reduceCtorEq, List.length_cons, List.length_nil]
  refine (sp_draws hd (by decide) (by decide) (by decide) (by decide)).mono ?_
  rintro r S' ⟨⟨ms, hl, rfl⟩, rfl⟩
  try simp only [ok_newc, upt_tup, upt_lst, frm_tup, frm_lst, rev_tup, rev_lst, trg_i, s_nil, s_ret, s_rtv, s_set, s_unp, s_par, s_app, s_expr, s_frz, cont_nx, cont_ret, fin_ret, fin_nx, frz_nil, frz_two, frz_succ, frz_z, frz_zn, List.getElem?_cons_zero, List.getElem?_cons_succ, setAll_cons, setAll_nil, e_var, e_cst, e_bin, e_neg, e_cmp, e_chn, e_isc, e_and, e_or, e_not, e_ite, e_tup, e_lst, e_newc, e_idx, e_from, e_upto, e_rev, e_call, e_blt, e_mth, e_trng, e_comp, es_nil, es_cons, rs_nil, rs_cons, vs_nil, vs_cons, c_no, c_yes, it_val, it_rng, it_enum, it_zip, c_F, f_F, items_tup, items_lst, rng_i, ok_noX, bind_nm, bind_tp, bind_cons, bind_nil, wipe_nil, wipe_cons, ok_bnd, ok_ret, ok_opt, ok_ask, ok_ite, ok_asB, ok_stk, oko_some, oko_none, oko_map, oko_if, boolO_bl, rd_succ, rd_fz, rd_ow, d_fz, d_ow, ow_succ, ow_zero, List.set_cons_zero, List.set_cons_succ, bin_add, bin_sub, bin_mul, bin_fdiv, bin_mod, bin_pow, add_ii, add_ll, add_tt, sub_ii, mul_ii, fdiv_ii, mod_ii, pow_ii, neg_i, eqD_ii, eqD_bb, cmp_eq, cmp_ne, cmp_lt, cmp_le, cmp_gt, cmp_ge, isc_nn, isc_bb, isc_in, isc_tn, isc_ln, blt_len_scr, blt_len_tup, blt_len_lst, blt_tuple_lst, blt_tuple_tup, blt_list_lst, blt_list_tup, blt_all, blt_any, blt_max2, blt_min2, blt_int_b, blt_int_i, blt_repr, blt_isi, ix_tup, ix_lst, ix_scr, ty_one, ty_non_int, ty_non_bool, ty_non_str, ty_non_tuple, ty_non_list, ty_bl_int, ty_bl_bool, ty_bl_str, ty_bl_tuple, ty_bl_list, ty_int_int, ty_int_bool, ty_int_str, ty_int_tuple, ty_int_list, ty_str_int, ty_str_bool, ty_str_str, ty_str_tuple, ty_str_list, ty_tup_int, ty_tup_bool, ty_tup_str, ty_tup_tuple, ty_tup_list, ty_lst_int, ty_lst_bool, ty_lst_str, ty_lst_tuple, ty_lst_list, decide_eq_true_eq, Bool.not_true, Bool.not_false, if_true, if_false, ite_true, ite_false, Bool.false_eq_true, Bool.true_eq_false, Option.map_some, true_and, and_true, reduceCtorEq, List.length_cons, List.length_nil]
  have hms : ms.length = 400 := by omega
  refine ⟨by decide, by rw [List.length_append]; rfl, ⟨ms, 0, ?_, hms⟩, fun b ⟨ns', c, h1, h2⟩ => ⟨ns', c, ?_, h2⟩⟩
  · rw [List.getElem?_append_right (Nat.le_refl _), Nat.sub_self]
    rfl
  · rw [List.getElem?_append_left (List.getElem?_eq_some_iff.mp h1).1]
    exact h1
theorem sp_bags {ns : List Int} {lim : Int} {bg dr ca : Nat} (h : P f = some (d__law_bags (c__law_bag := bg))) (hb : P bg = some (d__law_bag (c__law_draws := dr) (c__law_cell_at := ca))) (hd : P dr = some d__law_draws) (hc : P ca = some d__law_cell_at) (h0 : 0 ≤ lim) (h1 : lim ≤ 1000) :
    Ok (run P (n + 3) f [.scr ns, .int lim] S) fun r S' => ∃ xs, r = .ow xs ∧ ∀ x ∈ xs, ∃ b, x = .cell b ∧ BagOk S' b := by
  refine ok_run h rfl ?_
  show Ok (execSs _ (.cons (.ret _) _) [some (.fz (.scr ns)), some (.fz (.int lim)), none] S) _
  try simp only [ok_newc, upt_tup, upt_lst, frm_tup, frm_lst, rev_tup, rev_lst, trg_i, s_nil, s_ret, s_rtv, s_set, s_unp, s_par, s_app, s_expr, s_frz, cont_nx, cont_ret, fin_ret, fin_nx, frz_nil, frz_two, frz_succ, frz_z, frz_zn, List.getElem?_cons_zero, List.getElem?_cons_succ, setAll_cons, setAll_nil, e_var, e_cst, e_bin, e_neg, e_cmp, e_chn, e_isc, e_and, e_or, e_not, e_ite, e_tup, e_lst, e_newc, e_idx, e_from, e_upto, e_rev, e_call, e_blt, e_mth, e_trng, e_comp, es_nil, es_cons, rs_nil, rs_cons, vs_nil, vs_cons, c_no, c_yes, it_val, it_rng, it_enum, it_zip, c_F, f_F, items_tup, items_lst, rng_i, ok_noX, bind_nm, bind_tp, bind_cons, bind_nil, wipe_nil, wipe_cons, ok_bnd, ok_ret, ok_opt, ok_ask, ok_ite, ok_asB, ok_stk, oko_some, oko_none, oko_map, oko_if, boolO_bl, rd_succ, rd_fz, rd_ow, d_fz, d_ow, ow_succ, ow_zero, List.set_cons_zero, List.set_cons_succ, bin_add, bin_sub, bin_mul, bin_fdiv, bin_mod, bin_pow, add_ii, add_ll, add_tt, sub_ii, mul_ii, fdiv_ii, mod_ii, pow_ii, neg_i, eqD_ii, eqD_bb, cmp_eq, cmp_ne, cmp_lt, cmp_le, cmp_gt, cmp_ge, isc_nn, isc_bb, isc_in, isc_tn, isc_ln, blt_len_scr, blt_len_tup, blt_len_lst, blt_tuple_lst, blt_tuple_tup, blt_list_lst, blt_list_tup, blt_all, blt_any, blt_max2, blt_min2, blt_int_b, blt_int_i, blt_repr, blt_isi, ix_tup, ix_lst, ix_scr, ty_one, ty_non_int, ty_non_bool, ty_non_str, ty_non_tuple, ty_non_list, ty_bl_int, ty_bl_bool, ty_bl_str, ty_bl_tuple, ty_bl_list, ty_int_int, ty_int_bool, ty_int_str, ty_int_tuple, ty_int_list, ty_str_int, ty_str_bool, ty_str_str, ty_str_tuple, ty_str_list, ty_tup_int, ty_tup_bool, ty_tup_str, ty_tup_tuple, ty_tup_list, ty_lst_int, ty_lst_bool, ty_lst_str, ty_lst_tuple, ty_lst_list, decide_eq_true_eq, Bool.not_true, Bool.not_false, if_true, if_false, ite_true, ite_false, Bool.false_eq_true, Bool.true_eq_false, Option.map_some, true_and, and_true, reduceCtorEq, List.length_cons, List.length_nil]
  generalize hk : (if (if (ns.length : Int) < lim then (ns.length : Int) else lim) > 1 then (if (ns.length : Int) < lim then (ns.length : Int) else lim) else 1) = k
  have hk0 : 0 ≤ k ∧ k ≤ 1000 := by
    subst hk
    split <;> split <;> omega
  refine ⟨okRng_i hk0.1 (by omega), ?_⟩
  refine comp_ok (rngD k) (fun i ys S' => ys.length = i ∧ ∀ y ∈ ys, ∃ b, y = .cell b ∧ BagOk S' b) ⟨rfl, fun y hy => nomatch hy⟩ (by rw [rng_len, size16]; omega) (fun i ys S' h => Nat.le_of_eq h.1) (fun i x ys S' hx hI => ?_) (fun ys S' hI => ?_)
  · obtain ⟨rfl, hi⟩ := rng_get hx
    try simp only [ok_newc, upt_tup, upt_lst, frm_tup, frm_lst, rev_tup, rev_lst, trg_i, s_nil, s_ret, s_rtv, s_set, s_unp, s_par, s_app, s_expr, s_frz, cont_nx, cont_ret, fin_ret, fin_nx, frz_nil, frz_two, frz_succ, frz_z, frz_zn, List.getElem?_cons_zero, List.getElem?_cons_succ, setAll_cons, setAll_nil, e_var, e_cst, e_bin, e_neg, e_cmp, e_chn, e_isc, e_and, e_or, e_not, e_ite, e_tup, e_lst, e_newc, e_idx, e_from, e_upto, e_rev, e_call, e_blt, e_mth, e_trng, e_comp, es_nil, es_cons, rs_nil, rs_cons, vs_nil, vs_cons, c_no, c_yes, it_val, it_rng, it_enum, it_zip, c_F, f_F, items_tup, items_lst, rng_i, ok_noX, bind_nm, bind_tp, bind_cons, bind_nil, wipe_nil, wipe_cons, ok_bnd, ok_ret, ok_opt, ok_ask, ok_ite, ok_asB, ok_stk, oko_some, oko_none, oko_map, oko_if, boolO_bl, rd_succ, rd_fz, rd_ow, d_fz, d_ow, ow_succ, ow_zero, List.set_cons_zero, List.set_cons_succ, bin_add, bin_sub, bin_mul, bin_fdiv, bin_mod, bin_pow, add_ii, add_ll, add_tt, sub_ii, mul_ii, fdiv_ii, mod_ii, pow_ii, neg_i, eqD_ii, eqD_bb, cmp_eq, cmp_ne, cmp_lt, cmp_le, cmp_gt, cmp_ge, isc_nn, isc_bb, isc_in, isc_tn, isc_ln, blt_len_scr, blt_len_tup, blt_len_lst, blt_tuple_lst, blt_tuple_tup, blt_list_lst, blt_list_tup, blt_all, blt_any, blt_max2, blt_min2, blt_int_b, blt_int_i, blt_repr, blt_isi, ix_tup, ix_lst, ix_scr, ty_one, ty_non_int, ty_non_bool, ty_non_str, ty_non_tuple, ty_non_list, ty_bl_int, ty_bl_bool, ty_bl_str, ty_bl_tuple, ty_bl_list, ty_int_int, ty_int_bool, ty_int_str, ty_int_tuple, ty_int_list, ty_str_int, ty_str_bool, ty_str_str, ty_str_tuple, ty_str_list, ty_tup_int, ty_tup_bool, ty_tup_str, ty_tup_tuple, ty_tup_list, ty_lst_int, ty_lst_bool, ty_lst_str, ty_lst_tuple, ty_lst_list, decide_eq_true_eq, Bool.not_true, Bool.not_false, if_true, if_false, ite_true, ite_false, Bool.false_eq_true, Bool.true_eq_false, Option.map_some, true_and, and_true, reduceCtorEq, List.length_cons, List.length_nil]
    refine (sp_bag hb hd hc).mono ?_
    rintro r S2 ⟨rfl, hl, hb2, hst⟩
    try simp only [ok_newc, upt_tup, upt_lst, frm_tup, frm_lst, rev_tup, rev_lst, trg_i, s_nil, s_ret, s_rtv, s_set, s_unp, s_par, s_app, s_expr, s_frz, cont_nx, cont_ret, fin_ret, fin_nx, frz_nil, frz_two, frz_succ, frz_z, frz_zn, List.getElem?_cons_zero, List.getElem?_cons_succ, setAll_cons, setAll_nil, e_var, e_cst, e_bin, e_neg, e_cmp, e_chn, e_isc, e_and, e_or, e_not, e_ite, e_tup, e_lst, e_newc, e_idx, e_from, e_upto, e_rev, e_call, e_blt, e_mth, e_trng, e_comp, es_nil, es_cons, rs_nil, rs_cons, vs_nil, vs_cons, c_no, c_yes, it_val, it_rng, it_enum, it_zip, c_F, f_F, items_tup, items_lst, rng_i, ok_noX, bind_nm, bind_tp, bind_cons, bind_nil, wipe_nil, wipe_cons, ok_bnd, ok_ret, ok_opt, ok_ask, ok_ite, ok_asB, ok_stk, oko_some, oko_none, oko_map, oko_if, boolO_bl, rd_succ, rd_fz, rd_ow, d_fz, d_ow, ow_succ, ow_zero, List.set_cons_zero, List.set_cons_succ, bin_add, bin_sub, bin_mul, bin_fdiv, bin_mod, bin_pow, add_ii, add_ll, add_tt, sub_ii, mul_ii, fdiv_ii, mod_ii, pow_ii, neg_i, eqD_ii, eqD_bb, cmp_eq, cmp_ne, cmp_lt, cmp_le, cmp_gt, cmp_ge, isc_nn, isc_bb, isc_in, isc_tn, isc_ln, blt_len_scr, blt_len_tup, blt_len_lst, blt_tuple_lst, blt_tuple_tup, blt_list_lst, blt_list_tup, blt_all, blt_any, blt_max2, blt_min2, blt_int_b, blt_int_i, blt_repr, blt_isi, ix_tup, ix_lst, ix_scr, ty_one, ty_non_int, ty_non_bool, ty_non_str, ty_non_tuple, ty_non_list, ty_bl_int, ty_bl_bool, ty_bl_str, ty_bl_tuple, ty_bl_list, ty_int_int, ty_int_bool, ty_int_str, ty_int_tuple, ty_int_list, ty_str_int, ty_str_bool, ty_str_str, ty_str_tuple, ty_str_list, ty_tup_int, ty_tup_bool, ty_tup_str, ty_tup_tuple, ty_tup_list, ty_lst_int, ty_lst_bool, ty_lst_str, ty_lst_tuple, ty_lst_list, decide_eq_true_eq, Bool.not_true, Bool.not_false, if_true, if_false, ite_true, ite_false, Bool.false_eq_true, Bool.true_eq_false, Option.map_some, true_and, and_true, reduceCtorEq, List.length_cons, List.length_nil]
    refine ⟨by rw [List.length_append, hI.1]; rfl, fun y hy => ?_⟩
    rcases List.mem_append.mp hy with hy | hy
    · obtain ⟨b, e, hb3⟩ := hI.2 y hy
      exact ⟨b, e, hst b hb3⟩
    · rw [List.mem_singleton] at hy
      exact ⟨_, hy, hb2⟩
  · exact ⟨ys, rfl, hI.2⟩
theorem at_lt {xs : List D} {v : Int} (h0 : 0 ≤ v) (h : v < xs.length) {Q : D → Prop} (q : ∀ x ∈ xs, Q x) : OkO (atI xs v) Q := by
  obtain ⟨x, e, _, hm⟩ := atI_of h0 h
  rw [e]
  exact q x hm
/-- a map by draws: [[one, take(many)][take(2)] for one in range(many)] -/
theorem sp_map {tk : Nat} {many : Int} {e1 e2 e4 e5 e6 e7 e8 e9 e10 : Option Rv} {Q : List D → Store → Prop} (ht : P tk = some d__law_take) (hb : BagOk S b) (h0 : 0 < many) (h1 : many ≤ 1000)
    (q : ∀ ys S', ys.length = many.toNat → (∀ y ∈ ys, ∃ j : Int, y = .int j) → Bags S S' → Q ys S') :
    Ok (compM (compF (run P (n + 1)) [9] (.nm 9) .no (.idx (.lst (.cons (.var 9) (.cons (.call tk (.cons (.var 0) (.cons (.var 3) .nil))) .nil))) (.call tk (.cons (.var 0) (.cons (.cst (.int 2)) .nil)))) [some (.fz (.cell b)), e1, e2, some (.fz (.int many)), e4, e5, e6, e7, e8, e9, e10]) (rngD many) [] S) Q := by
  refine comp_ok (rngD many) (fun i ys S' => ys.length = i ∧ (∀ y ∈ ys, ∃ j : Int, y = .int j) ∧ Bags S S') ⟨rfl, fun y hy => (nomatch hy), .refl _⟩ (by rw [rng_len, size16]; omega) (fun i ys S' h => Nat.le_of_eq h.1) (fun i x ys S' hx hI => ?_) (fun ys S' hI => q ys S' (by rw [hI.1, rng_len]) hI.2.1 hI.2.2)
  obtain ⟨rfl, hi⟩ := rng_get hx
  try simp only [ok_newc, upt_tup, upt_lst, frm_tup, frm_lst, rev_tup, rev_lst, trg_i, s_nil, s_ret, s_rtv, s_set, s_unp, s_par, s_app, s_expr, s_frz, cont_nx, cont_ret, fin_ret, fin_nx, frz_nil, frz_two, frz_succ, frz_z, frz_zn, List.getElem?_cons_zero, List.getElem?_cons_succ, setAll_cons, setAll_nil, e_var, e_cst, e_bin, e_neg, e_cmp, e_chn, e_isc, e_and, e_or, e_not, e_ite, e_tup, e_lst, e_newc, e_idx, e_from, e_upto, e_rev, e_call, e_blt, e_mth, e_trng, e_comp, es_nil, es_cons, rs_nil, rs_cons, vs_nil, vs_cons, c_no, c_yes, it_val, it_rng, it_enum, it_zip, c_F, f_F, items_tup, items_lst, rng_i, ok_noX, bind_nm, bind_tp, bind_cons, bind_nil, wipe_nil, wipe_cons, ok_bnd, ok_ret, ok_opt, ok_ask, ok_ite, ok_asB, ok_stk, oko_some, oko_none, oko_map, oko_if, boolO_bl, rd_succ, rd_fz, rd_ow, d_fz, d_ow, ow_succ, ow_zero, List.set_cons_zero, List.set_cons_succ, bin_add, bin_sub, bin_mul, bin_fdiv, bin_mod, bin_pow, add_ii, add_ll, add_tt, sub_ii, mul_ii, fdiv_ii, mod_ii, pow_ii, neg_i, eqD_ii, eqD_bb, cmp_eq, cmp_ne, cmp_lt, cmp_le, cmp_gt, cmp_ge, isc_nn, isc_bb, isc_in, isc_tn, isc_ln, blt_len_scr, blt_len_tup, blt_len_lst, blt_tuple_lst, blt_tuple_tup, blt_list_lst, blt_list_tup, blt_all, blt_any, blt_max2, blt_min2, blt_int_b, blt_int_i, blt_repr, blt_isi, ix_tup, ix_lst, ix_scr, ty_one, ty_non_int, ty_non_bool, ty_non_str, ty_non_tuple, ty_non_list, ty_bl_int, ty_bl_bool, ty_bl_str, ty_bl_tuple, ty_bl_list, ty_int_int, ty_int_bool, ty_int_str, ty_int_tuple, ty_int_list, ty_str_int, ty_str_bool, ty_str_str, ty_str_tuple, ty_str_list, ty_tup_int, ty_tup_bool, ty_tup_str, ty_tup_tuple, ty_tup_list, ty_lst_int, ty_lst_bool, ty_lst_str, ty_lst_tuple, ty_lst_list, decide_eq_true_eq, Bool.not_true, Bool.not_false, if_true, if_false, ite_true, ite_false, Bool.false_eq_true, Bool.true_eq_false, Option.map_some, true_and, and_true, reduceCtorEq, List.length_cons, List.length_nil]
  refine (sp_take ht (hI.2.2.2 b hb) h0).mono ?_
  rintro r S2 ⟨⟨v, rfl, v0, v1⟩, hB⟩
  try simp only [ok_newc, upt_tup, upt_lst, frm_tup, frm_lst, rev_tup, rev_lst, trg_i, s_nil, s_ret, s_rtv, s_set, s_unp, s_par, s_app, s_expr, s_frz, cont_nx, cont_ret, fin_ret, fin_nx, frz_nil, frz_two, frz_succ, frz_z, frz_zn, List.getElem?_cons_zero, List.getElem?_cons_succ, setAll_cons, setAll_nil, e_var, e_cst, e_bin, e_neg, e_cmp, e_chn, e_isc, e_and, e_or, e_not, e_ite, e_tup, e_lst, e_newc, e_idx, e_from, e_upto, e_rev, e_call, e_blt, e_mth, e_trng, e_comp, es_nil, es_cons, rs_nil, rs_cons, vs_nil, vs_cons, c_no, c_yes, it_val, it_rng, it_enum, it_zip, c_F, f_F, items_tup, items_lst, rng_i, ok_noX, bind_nm, bind_tp, bind_cons, bind_nil, wipe_nil, wipe_cons, ok_bnd, ok_ret, ok_opt, ok_ask, ok_ite, ok_asB, ok_stk, oko_some, oko_none, oko_map, oko_if, boolO_bl, rd_succ, rd_fz, rd_ow, d_fz, d_ow, ow_succ, ow_zero, List.set_cons_zero, List.set_cons_succ, bin_add, bin_sub, bin_mul, bin_fdiv, bin_mod, bin_pow, add_ii, add_ll, add_tt, sub_ii, mul_ii, fdiv_ii, mod_ii, pow_ii, neg_i, eqD_ii, eqD_bb, cmp_eq, cmp_ne, cmp_lt, cmp_le, cmp_gt, cmp_ge, isc_nn, isc_bb, isc_in, isc_tn, isc_ln, blt_len_scr, blt_len_tup, blt_len_lst, blt_tuple_lst, blt_tuple_tup, blt_list_lst, blt_list_tup, blt_all, blt_any, blt_max2, blt_min2, blt_int_b, blt_int_i, blt_repr, blt_isi, ix_tup, ix_lst, ix_scr, ty_one, ty_non_int, ty_non_bool, ty_non_str, ty_non_tuple, ty_non_list, ty_bl_int, ty_bl_bool, ty_bl_str, ty_bl_tuple, ty_bl_list, ty_int_int, ty_int_bool, ty_int_str, ty_int_tuple, ty_int_list, ty_str_int, ty_str_bool, ty_str_str, ty_str_tuple, ty_str_list, ty_tup_int, ty_tup_bool, ty_tup_str, ty_tup_tuple, ty_tup_list, ty_lst_int, ty_lst_bool, ty_lst_str, ty_lst_tuple, ty_lst_list, decide_eq_true_eq, Bool.not_true, Bool.not_false, if_true, if_false, ite_true, ite_false, Bool.false_eq_true, Bool.true_eq_false, Option.map_some, true_and, and_true, reduceCtorEq, List.length_cons, List.length_nil]
  refine ⟨by decide, ?_⟩
  have hB2 := hI.2.2.trans hB
  refine (sp_take ht (hB2.2 b hb) (by decide)).mono ?_
  rintro r S3 ⟨⟨u, rfl, u0, u1⟩, hB3⟩
  try simp only [ok_newc, upt_tup, upt_lst, frm_tup, frm_lst, rev_tup, rev_lst, trg_i, s_nil, s_ret, s_rtv, s_set, s_unp, s_par, s_app, s_expr, s_frz, cont_nx, cont_ret, fin_ret, fin_nx, frz_nil, frz_two, frz_succ, frz_z, frz_zn, List.getElem?_cons_zero, List.getElem?_cons_succ, setAll_cons, setAll_nil, e_var, e_cst, e_bin, e_neg, e_cmp, e_chn, e_isc, e_and, e_or, e_not, e_ite, e_tup, e_lst, e_newc, e_idx, e_from, e_upto, e_rev, e_call, e_blt, e_mth, e_trng, e_comp, es_nil, es_cons, rs_nil, rs_cons, vs_nil, vs_cons, c_no, c_yes, it_val, it_rng, it_enum, it_zip, c_F, f_F, items_tup, items_lst, rng_i, ok_noX, bind_nm, bind_tp, bind_cons, bind_nil, wipe_nil, wipe_cons, ok_bnd, ok_ret, ok_opt, ok_ask, ok_ite, ok_asB, ok_stk, oko_some, oko_none, oko_map, oko_if, boolO_bl, rd_succ, rd_fz, rd_ow, d_fz, d_ow, ow_succ, ow_zero, List.set_cons_zero, List.set_cons_succ, bin_add, bin_sub, bin_mul, bin_fdiv, bin_mod, bin_pow, add_ii, add_ll, add_tt, sub_ii, mul_ii, fdiv_ii, mod_ii, pow_ii, neg_i, eqD_ii, eqD_bb, cmp_eq, cmp_ne, cmp_lt, cmp_le, cmp_gt, cmp_ge, isc_nn, isc_bb, isc_in, isc_tn, isc_ln, blt_len_scr, blt_len_tup, blt_len_lst, blt_tuple_lst, blt_tuple_tup, blt_list_lst, blt_list_tup, blt_all, blt_any, blt_max2, blt_min2, blt_int_b, blt_int_i, blt_repr, blt_isi, ix_tup, ix_lst, ix_scr, ty_one, ty_non_int, ty_non_bool, ty_non_str, ty_non_tuple, ty_non_list, ty_bl_int, ty_bl_bool, ty_bl_str, ty_bl_tuple, ty_bl_list, ty_int_int, ty_int_bool, ty_int_str, ty_int_tuple, ty_int_list, ty_str_int, ty_str_bool, ty_str_str, ty_str_tuple, ty_str_list, ty_tup_int, ty_tup_bool, ty_tup_str, ty_tup_tuple, ty_tup_list, ty_lst_int, ty_lst_bool, ty_lst_str, ty_lst_tuple, ty_lst_list, decide_eq_true_eq, Bool.not_true, Bool.not_false, if_true, if_false, ite_true, ite_false, Bool.false_eq_true, Bool.true_eq_false, Option.map_some, true_and, and_true, reduceCtorEq, List.length_cons, List.length_nil]
  refine at_lt u0 (by simpa using u1) fun z hz => ?_
  refine ⟨by rw [List.length_append, hI.1]; rfl, fun y hy => ?_, hB2.trans hB3⟩
  rcases List.mem_append.mp hy with hy | hy
  · exact hI.2.1 y hy
  · rw [List.mem_singleton] at hy
    subst hy
    rcases List.mem_cons.mp hz with rfl | hz
    · exact ⟨_, rfl⟩
    · rw [List.mem_singleton] at hz
      exact ⟨_, hz⟩
/-- what a_kind gives -/
def KindD (d : D) : Prop := ∃ xs, d = .tup xs ∧ 1 ≤ xs.length ∧ xs.length ≤ 12 ∧ D.ok 12 d = true
theorem ok_ints {m : Nat} {ys : List D} (hl : ys.length ≤ m) (h : ∀ y ∈ ys, ∃ j : Int, y = .int j) : D.ok m (.tup ys) = true :=
  ok_tup.mpr ⟨hl, fun y hy => by obtain ⟨j, rfl⟩ := h y hy; rfl⟩
theorem sp_a_kind {tk td : Nat} {most : Int} {rows : List D} (h : P f = some (d__law_a_kind (c__law_take := tk) (c__law_told_kinds := td))) (ht : P tk = some d__law_take) (hr : ∀ S, run P (n + 1) td [] S = .ok (.ow rows) S) (hrows : ∀ x ∈ rows, KindD x) (hrl : 0 < rows.length)
    (hb : BagOk S b) (hm : 0 < most) (hm2 : most ≤ 6) : Ok (run P (n + 2) f [.cell b, .int most] S) fun r S' => (∃ d, r = .fz d ∧ KindD d) ∧ Bags S S' := by
  refine ok_run h rfl ?_
  show Ok (execSs _ (.cons (.set _ _) _) [some (.fz (.cell b)), some (.fz (.int most)), none, none, none, none, none, none, none, none, none] S) _
  try simp only [ok_newc, upt_tup, upt_lst, frm_tup, frm_lst, rev_tup, rev_lst, trg_i, s_nil, s_ret, s_rtv, s_set, s_unp, s_par, s_app, s_expr, s_frz, cont_nx, cont_ret, fin_ret, fin_nx, frz_nil, frz_two, frz_succ, frz_z, frz_zn, List.getElem?_cons_zero, List.getElem?_cons_succ, setAll_cons, setAll_nil, e_var, e_cst, e_bin, e_neg, e_cmp, e_chn, e_isc, e_and, e_or, e_not, e_ite, e_tup, e_lst, e_newc, e_idx, e_from, e_upto, e_rev, e_call, e_blt, e_mth, e_trng, e_comp, es_nil, es_cons, rs_nil, rs_cons, vs_nil, vs_cons, c_no, c_yes, it_val, it_rng, it_enum, it_zip, c_F, f_F, items_tup, items_lst, rng_i, ok_noX, bind_nm, bind_tp, bind_cons, bind_nil, wipe_nil, wipe_cons, ok_bnd, ok_ret, ok_opt, ok_ask, ok_ite, ok_asB, ok_stk, oko_some, oko_none, oko_map, oko_if, boolO_bl, rd_succ, rd_fz, rd_ow, d_fz, d_ow, ow_succ, ow_zero, List.set_cons_zero, List.set_cons_succ, bin_add, bin_sub, bin_mul, bin_fdiv, bin_mod, bin_pow, add_ii, add_ll, add_tt, sub_ii, mul_ii, fdiv_ii, mod_ii, pow_ii, neg_i, eqD_ii, eqD_bb, cmp_eq, cmp_ne, cmp_lt, cmp_le, cmp_gt, cmp_ge, isc_nn, isc_bb, isc_in, isc_tn, isc_ln, blt_len_scr, blt_len_tup, blt_len_lst, blt_tuple_lst, blt_tuple_tup, blt_list_lst, blt_list_tup, blt_all, blt_any, blt_max2, blt_min2, blt_int_b, blt_int_i, blt_repr, blt_isi, ix_tup, ix_lst, ix_scr, ty_one, ty_non_int, ty_non_bool, ty_non_str, ty_non_tuple, ty_non_list, ty_bl_int, ty_bl_bool, ty_bl_str, ty_bl_tuple, ty_bl_list, ty_int_int, ty_int_bool, ty_int_str, ty_int_tuple, ty_int_list, ty_str_int, ty_str_bool, ty_str_str, ty_str_tuple, ty_str_list, ty_tup_int, ty_tup_bool, ty_tup_str, ty_tup_tuple, ty_tup_list, ty_lst_int, ty_lst_bool, ty_lst_str, ty_lst_tuple, ty_lst_list, decide_eq_true_eq, Bool.not_true, Bool.not_false, if_true, if_false, ite_true, ite_false, Bool.false_eq_true, Bool.true_eq_false, Option.map_some, true_and, and_true, reduceCtorEq, List.length_cons, List.length_nil]
  refine ok_of (hr S) ?_
  rw [s_ite]
  try simp only [ok_newc, upt_tup, upt_lst, frm_tup, frm_lst, rev_tup, rev_lst, trg_i, s_nil, s_ret, s_rtv, s_set, s_unp, s_par, s_app, s_expr, s_frz, cont_nx, cont_ret, fin_ret, fin_nx, frz_nil, frz_two, frz_succ, frz_z, frz_zn, List.getElem?_cons_zero, List.getElem?_cons_succ, setAll_cons, setAll_nil, e_var, e_cst, e_bin, e_neg, e_cmp, e_chn, e_isc, e_and, e_or, e_not, e_ite, e_tup, e_lst, e_newc, e_idx, e_from, e_upto, e_rev, e_call, e_blt, e_mth, e_trng, e_comp, es_nil, es_cons, rs_nil, rs_cons, vs_nil, vs_cons, c_no, c_yes, it_val, it_rng, it_enum, it_zip, c_F, f_F, items_tup, items_lst, rng_i, ok_noX, bind_nm, bind_tp, bind_cons, bind_nil, wipe_nil, wipe_cons, ok_bnd, ok_ret, ok_opt, ok_ask, ok_ite, ok_asB, ok_stk, oko_some, oko_none, oko_map, oko_if, boolO_bl, rd_succ, rd_fz, rd_ow, d_fz, d_ow, ow_succ, ow_zero, List.set_cons_zero, List.set_cons_succ, bin_add, bin_sub, bin_mul, bin_fdiv, bin_mod, bin_pow, add_ii, add_ll, add_tt, sub_ii, mul_ii, fdiv_ii, mod_ii, pow_ii, neg_i, eqD_ii, eqD_bb, cmp_eq, cmp_ne, cmp_lt, cmp_le, cmp_gt, cmp_ge, isc_nn, isc_bb, isc_in, isc_tn, isc_ln, blt_len_scr, blt_len_tup, blt_len_lst, blt_tuple_lst, blt_tuple_tup, blt_list_lst, blt_list_tup, blt_all, blt_any, blt_max2, blt_min2, blt_int_b, blt_int_i, blt_repr, blt_isi, ix_tup, ix_lst, ix_scr, ty_one, ty_non_int, ty_non_bool, ty_non_str, ty_non_tuple, ty_non_list, ty_bl_int, ty_bl_bool, ty_bl_str, ty_bl_tuple, ty_bl_list, ty_int_int, ty_int_bool, ty_int_str, ty_int_tuple, ty_int_list, ty_str_int, ty_str_bool, ty_str_str, ty_str_tuple, ty_str_list, ty_tup_int, ty_tup_bool, ty_tup_str, ty_tup_tuple, ty_tup_list, ty_lst_int, ty_lst_bool, ty_lst_str, ty_lst_tuple, ty_lst_list, decide_eq_true_eq, Bool.not_true, Bool.not_false, if_true, if_false, ite_true, ite_false, Bool.false_eq_true, Bool.true_eq_false, Option.map_some, true_and, and_true, reduceCtorEq, List.length_cons, List.length_nil]
  refine (sp_take ht hb (by decide)).mono ?_
  rintro r S1 ⟨⟨v, rfl, v0, v1⟩, hB⟩
  have hb1 := hB.2 b hb
  try simp only [ok_newc, upt_tup, upt_lst, frm_tup, frm_lst, rev_tup, rev_lst, trg_i, s_nil, s_ret, s_rtv, s_set, s_unp, s_par, s_app, s_expr, s_frz, cont_nx, cont_ret, fin_ret, fin_nx, frz_nil, frz_two, frz_succ, frz_z, frz_zn, List.getElem?_cons_zero, List.getElem?_cons_succ, setAll_cons, setAll_nil, e_var, e_cst, e_bin, e_neg, e_cmp, e_chn, e_isc, e_and, e_or, e_not, e_ite, e_tup, e_lst, e_newc, e_idx, e_from, e_upto, e_rev, e_call, e_blt, e_mth, e_trng, e_comp, es_nil, es_cons, rs_nil, rs_cons, vs_nil, vs_cons, c_no, c_yes, it_val, it_rng, it_enum, it_zip, c_F, f_F, items_tup, items_lst, rng_i, ok_noX, bind_nm, bind_tp, bind_cons, bind_nil, wipe_nil, wipe_cons, ok_bnd, ok_ret, ok_opt, ok_ask, ok_ite, ok_asB, ok_stk, oko_some, oko_none, oko_map, oko_if, boolO_bl, rd_succ, rd_fz, rd_ow, d_fz, d_ow, ow_succ, ow_zero, List.set_cons_zero, List.set_cons_succ, bin_add, bin_sub, bin_mul, bin_fdiv, bin_mod, bin_pow, add_ii, add_ll, add_tt, sub_ii, mul_ii, fdiv_ii, mod_ii, pow_ii, neg_i, eqD_ii, eqD_bb, cmp_eq, cmp_ne, cmp_lt, cmp_le, cmp_gt, cmp_ge, isc_nn, isc_bb, isc_in, isc_tn, isc_ln, blt_len_scr, blt_len_tup, blt_len_lst, blt_tuple_lst, blt_tuple_tup, blt_list_lst, blt_list_tup, blt_all, blt_any, blt_max2, blt_min2, blt_int_b, blt_int_i, blt_repr, blt_isi, ix_tup, ix_lst, ix_scr, ty_one, ty_non_int, ty_non_bool, ty_non_str, ty_non_tuple, ty_non_list, ty_bl_int, ty_bl_bool, ty_bl_str, ty_bl_tuple, ty_bl_list, ty_int_int, ty_int_bool, ty_int_str, ty_int_tuple, ty_int_list, ty_str_int, ty_str_bool, ty_str_str, ty_str_tuple, ty_str_list, ty_tup_int, ty_tup_bool, ty_tup_str, ty_tup_tuple, ty_tup_list, ty_lst_int, ty_lst_bool, ty_lst_str, ty_lst_tuple, ty_lst_list, decide_eq_true_eq, Bool.not_true, Bool.not_false, if_true, if_false, ite_true, ite_false, Bool.false_eq_true, Bool.true_eq_false, Option.map_some, true_and, and_true, reduceCtorEq, List.length_cons, List.length_nil]
  split
  · refine (sp_take ht hb1 (by omega)).mono ?_
    rintro r S2 ⟨⟨u, rfl, u0, u1⟩, hB2⟩
    try simp only [ok_newc, upt_tup, upt_lst, frm_tup, frm_lst, rev_tup, rev_lst, trg_i, s_nil, s_ret, s_rtv, s_set, s_unp, s_par, s_app, s_expr, s_frz, cont_nx, cont_ret, fin_ret, fin_nx, frz_nil, frz_two, frz_succ, frz_z, frz_zn, List.getElem?_cons_zero, List.getElem?_cons_succ, setAll_cons, setAll_nil, e_var, e_cst, e_bin, e_neg, e_cmp, e_chn, e_isc, e_and, e_or, e_not, e_ite, e_tup, e_lst, e_newc, e_idx, e_from, e_upto, e_rev, e_call, e_blt, e_mth, e_trng, e_comp, es_nil, es_cons, rs_nil, rs_cons, vs_nil, vs_cons, c_no, c_yes, it_val, it_rng, it_enum, it_zip, c_F, f_F, items_tup, items_lst, rng_i, ok_noX, bind_nm, bind_tp, bind_cons, bind_nil, wipe_nil, wipe_cons, ok_bnd, ok_ret, ok_opt, ok_ask, ok_ite, ok_asB, ok_stk, oko_some, oko_none, oko_map, oko_if, boolO_bl, rd_succ, rd_fz, rd_ow, d_fz, d_ow, ow_succ, ow_zero, List.set_cons_zero, List.set_cons_succ, bin_add, bin_sub, bin_mul, bin_fdiv, bin_mod, bin_pow, add_ii, add_ll, add_tt, sub_ii, mul_ii, fdiv_ii, mod_ii, pow_ii, neg_i, eqD_ii, eqD_bb, cmp_eq, cmp_ne, cmp_lt, cmp_le, cmp_gt, cmp_ge, isc_nn, isc_bb, isc_in, isc_tn, isc_ln, blt_len_scr, blt_len_tup, blt_len_lst, blt_tuple_lst, blt_tuple_tup, blt_list_lst, blt_list_tup, blt_all, blt_any, blt_max2, blt_min2, blt_int_b, blt_int_i, blt_repr, blt_isi, ix_tup, ix_lst, ix_scr, ty_one, ty_non_int, ty_non_bool, ty_non_str, ty_non_tuple, ty_non_list, ty_bl_int, ty_bl_bool, ty_bl_str, ty_bl_tuple, ty_bl_list, ty_int_int, ty_int_bool, ty_int_str, ty_int_tuple, ty_int_list, ty_str_int, ty_str_bool, ty_str_str, ty_str_tuple, ty_str_list, ty_tup_int, ty_tup_bool, ty_tup_str, ty_tup_tuple, ty_tup_list, ty_lst_int, ty_lst_bool, ty_lst_str, ty_lst_tuple, ty_lst_list, decide_eq_true_eq, Bool.not_true, Bool.not_false, if_true, if_false, ite_true, ite_false, Bool.false_eq_true, Bool.true_eq_false, Option.map_some, true_and, and_true, reduceCtorEq, List.length_cons, List.length_nil]
    exact at_lt u0 u1 fun x hx => ⟨⟨x, rfl, hrows x hx⟩, hB.trans hB2⟩
  refine (sp_take ht hb1 hm).mono ?_
  rintro r S2 ⟨⟨m0, rfl, m1, m2⟩, hB2⟩
  have hB02 := hB.trans hB2
  try simp only [ok_newc, upt_tup, upt_lst, frm_tup, frm_lst, rev_tup, rev_lst, trg_i, s_nil, s_ret, s_rtv, s_set, s_unp, s_par, s_app, s_expr, s_frz, cont_nx, cont_ret, fin_ret, fin_nx, frz_nil, frz_two, frz_succ, frz_z, frz_zn, List.getElem?_cons_zero, List.getElem?_cons_succ, setAll_cons, setAll_nil, e_var, e_cst, e_bin, e_neg, e_cmp, e_chn, e_isc, e_and, e_or, e_not, e_ite, e_tup, e_lst, e_newc, e_idx, e_from, e_upto, e_rev, e_call, e_blt, e_mth, e_trng, e_comp, es_nil, es_cons, rs_nil, rs_cons, vs_nil, vs_cons, c_no, c_yes, it_val, it_rng, it_enum, it_zip, c_F, f_F, items_tup, items_lst, rng_i, ok_noX, bind_nm, bind_tp, bind_cons, bind_nil, wipe_nil, wipe_cons, ok_bnd, ok_ret, ok_opt, ok_ask, ok_ite, ok_asB, ok_stk, oko_some, oko_none, oko_map, oko_if, boolO_bl, rd_succ, rd_fz, rd_ow, d_fz, d_ow, ow_succ, ow_zero, List.set_cons_zero, List.set_cons_succ, bin_add, bin_sub, bin_mul, bin_fdiv, bin_mod, bin_pow, add_ii, add_ll, add_tt, sub_ii, mul_ii, fdiv_ii, mod_ii, pow_ii, neg_i, eqD_ii, eqD_bb, cmp_eq, cmp_ne, cmp_lt, cmp_le, cmp_gt, cmp_ge, isc_nn, isc_bb, isc_in, isc_tn, isc_ln, blt_len_scr, blt_len_tup, blt_len_lst, blt_tuple_lst, blt_tuple_tup, blt_list_lst, blt_list_tup, blt_all, blt_any, blt_max2, blt_min2, blt_int_b, blt_int_i, blt_repr, blt_isi, ix_tup, ix_lst, ix_scr, ty_one, ty_non_int, ty_non_bool, ty_non_str, ty_non_tuple, ty_non_list, ty_bl_int, ty_bl_bool, ty_bl_str, ty_bl_tuple, ty_bl_list, ty_int_int, ty_int_bool, ty_int_str, ty_int_tuple, ty_int_list, ty_str_int, ty_str_bool, ty_str_str, ty_str_tuple, ty_str_list, ty_tup_int, ty_tup_bool, ty_tup_str, ty_tup_tuple, ty_tup_list, ty_lst_int, ty_lst_bool, ty_lst_str, ty_lst_tuple, ty_lst_list, decide_eq_true_eq, Bool.not_true, Bool.not_false, if_true, if_false, ite_true, ite_false, Bool.false_eq_true, Bool.true_eq_false, Option.map_some, true_and, and_true, reduceCtorEq, List.length_cons, List.length_nil]
  refine ⟨Nat.zero_le _, ?_⟩
  have hmany : 1 ≤ 1 + m0 ∧ 1 + m0 ≤ 6 := ⟨by omega, by omega⟩
  generalize 1 + m0 = many at hmany ⊢
  rw [s_for]
  try simp only [ok_newc, upt_tup, upt_lst, frm_tup, frm_lst, rev_tup, rev_lst, trg_i, s_nil, s_ret, s_rtv, s_set, s_unp, s_par, s_app, s_expr, s_frz, cont_nx, cont_ret, fin_ret, fin_nx, frz_nil, frz_two, frz_succ, frz_z, frz_zn, List.getElem?_cons_zero, List.getElem?_cons_succ, setAll_cons, setAll_nil, e_var, e_cst, e_bin, e_neg, e_cmp, e_chn, e_isc, e_and, e_or, e_not, e_ite, e_tup, e_lst, e_newc, e_idx, e_from, e_upto, e_rev, e_call, e_blt, e_mth, e_trng, e_comp, es_nil, es_cons, rs_nil, rs_cons, vs_nil, vs_cons, c_no, c_yes, it_val, it_rng, it_enum, it_zip, c_F, f_F, items_tup, items_lst, rng_i, ok_noX, bind_nm, bind_tp, bind_cons, bind_nil, wipe_nil, wipe_cons, ok_bnd, ok_ret, ok_opt, ok_ask, ok_ite, ok_asB, ok_stk, oko_some, oko_none, oko_map, oko_if, boolO_bl, rd_succ, rd_fz, rd_ow, d_fz, d_ow, ow_succ, ow_zero, List.set_cons_zero, List.set_cons_succ, bin_add, bin_sub, bin_mul, bin_fdiv, bin_mod, bin_pow, add_ii, add_ll, add_tt, sub_ii, mul_ii, fdiv_ii, mod_ii, pow_ii, neg_i, eqD_ii, eqD_bb, cmp_eq, cmp_ne, cmp_lt, cmp_le, cmp_gt, cmp_ge, isc_nn, isc_bb, isc_in, isc_tn, isc_ln, blt_len_scr, blt_len_tup, blt_len_lst, blt_tuple_lst, blt_tuple_tup, blt_list_lst, blt_list_tup, blt_all, blt_any, blt_max2, blt_min2, blt_int_b, blt_int_i, blt_repr, blt_isi, ix_tup, ix_lst, ix_scr, ty_one, ty_non_int, ty_non_bool, ty_non_str, ty_non_tuple, ty_non_list, ty_bl_int, ty_bl_bool, ty_bl_str, ty_bl_tuple, ty_bl_list, ty_int_int, ty_int_bool, ty_int_str, ty_int_tuple, ty_int_list, ty_str_int, ty_str_bool, ty_str_str, ty_str_tuple, ty_str_list, ty_tup_int, ty_tup_bool, ty_tup_str, ty_tup_tuple, ty_tup_list, ty_lst_int, ty_lst_bool, ty_lst_str, ty_lst_tuple, ty_lst_list, decide_eq_true_eq, Bool.not_true, Bool.not_false, if_true, if_false, ite_true, ite_false, Bool.false_eq_true, Bool.true_eq_false, Option.map_some, true_and, and_true, reduceCtorEq, List.length_cons, List.length_nil]
  refine ⟨okRng_i (by omega) (by omega), ?_⟩
  refine for_ok (rngD many) (fun i env S' => Bags S S' ∧ ∃ (ms : List D) (e5 e6 e7 e8 e9 e10 : Option Rv), env = [some (.fz (.cell b)), some (.fz (.int most)), some (.ow rows), some (.fz (.int many)), some (.ow ms), e5, e6, e7, e8, e9, e10] ∧ ms.length = i ∧ ∀ x ∈ ms, D.ok 12 x = true)
    ⟨hB02, [], _, _, _, _, _, _, rfl, rfl, fun x hx => nomatch hx⟩ (fun i x env S' hx => ?_) (fun env S' => ?_)
  · rintro ⟨hBi, ms, e5, e6, e7, e8, e9, e10, rfl, hml, hmo⟩
    obtain ⟨rfl, hi⟩ := rng_get hx
    try simp only [ok_newc, upt_tup, upt_lst, frm_tup, frm_lst, rev_tup, rev_lst, trg_i, s_nil, s_ret, s_rtv, s_set, s_unp, s_par, s_app, s_expr, s_frz, cont_nx, cont_ret, fin_ret, fin_nx, frz_nil, frz_two, frz_succ, frz_z, frz_zn, List.getElem?_cons_zero, List.getElem?_cons_succ, setAll_cons, setAll_nil, e_var, e_cst, e_bin, e_neg, e_cmp, e_chn, e_isc, e_and, e_or, e_not, e_ite, e_tup, e_lst, e_newc, e_idx, e_from, e_upto, e_rev, e_call, e_blt, e_mth, e_trng, e_comp, es_nil, es_cons, rs_nil, rs_cons, vs_nil, vs_cons, c_no, c_yes, it_val, it_rng, it_enum, it_zip, c_F, f_F, items_tup, items_lst, rng_i, ok_noX, bind_nm, bind_tp, bind_cons, bind_nil, wipe_nil, wipe_cons, ok_bnd, ok_ret, ok_opt, ok_ask, ok_ite, ok_asB, ok_stk, oko_some, oko_none, oko_map, oko_if, boolO_bl, rd_succ, rd_fz, rd_ow, d_fz, d_ow, ow_succ, ow_zero, List.set_cons_zero, List.set_cons_succ, bin_add, bin_sub, bin_mul, bin_fdiv, bin_mod, bin_pow, add_ii, add_ll, add_tt, sub_ii, mul_ii, fdiv_ii, mod_ii, pow_ii, neg_i, eqD_ii, eqD_bb, cmp_eq, cmp_ne, cmp_lt, cmp_le, cmp_gt, cmp_ge, isc_nn, isc_bb, isc_in, isc_tn, isc_ln, blt_len_scr, blt_len_tup, blt_len_lst, blt_tuple_lst, blt_tuple_tup, blt_list_lst, blt_list_tup, blt_all, blt_any, blt_max2, blt_min2, blt_int_b, blt_int_i, blt_repr, blt_isi, ix_tup, ix_lst, ix_scr, ty_one, ty_non_int, ty_non_bool, ty_non_str, ty_non_tuple, ty_non_list, ty_bl_int, ty_bl_bool, ty_bl_str, ty_bl_tuple, ty_bl_list, ty_int_int, ty_int_bool, ty_int_str, ty_int_tuple, ty_int_list, ty_str_int, ty_str_bool, ty_str_str, ty_str_tuple, ty_str_list, ty_tup_int, ty_tup_bool, ty_tup_str, ty_tup_tuple, ty_tup_list, ty_lst_int, ty_lst_bool, ty_lst_str, ty_lst_tuple, ty_lst_list, decide_eq_true_eq, Bool.not_true, Bool.not_false, if_true, if_false, ite_true, ite_false, Bool.false_eq_true, Bool.true_eq_false, Option.map_some, true_and, and_true, reduceCtorEq, List.length_cons, List.length_nil]
    refine ⟨Nat.zero_le _, ?_⟩
    rw [s_for]
    try simp only [ok_newc, upt_tup, upt_lst, frm_tup, frm_lst, rev_tup, rev_lst, trg_i, s_nil, s_ret, s_rtv, s_set, s_unp, s_par, s_app, s_expr, s_frz, cont_nx, cont_ret, fin_ret, fin_nx, frz_nil, frz_two, frz_succ, frz_z, frz_zn, List.getElem?_cons_zero, List.getElem?_cons_succ, setAll_cons, setAll_nil, e_var, e_cst, e_bin, e_neg, e_cmp, e_chn, e_isc, e_and, e_or, e_not, e_ite, e_tup, e_lst, e_newc, e_idx, e_from, e_upto, e_rev, e_call, e_blt, e_mth, e_trng, e_comp, es_nil, es_cons, rs_nil, rs_cons, vs_nil, vs_cons, c_no, c_yes, it_val, it_rng, it_enum, it_zip, c_F, f_F, items_tup, items_lst, rng_i, ok_noX, bind_nm, bind_tp, bind_cons, bind_nil, wipe_nil, wipe_cons, ok_bnd, ok_ret, ok_opt, ok_ask, ok_ite, ok_asB, ok_stk, oko_some, oko_none, oko_map, oko_if, boolO_bl, rd_succ, rd_fz, rd_ow, d_fz, d_ow, ow_succ, ow_zero, List.set_cons_zero, List.set_cons_succ, bin_add, bin_sub, bin_mul, bin_fdiv, bin_mod, bin_pow, add_ii, add_ll, add_tt, sub_ii, mul_ii, fdiv_ii, mod_ii, pow_ii, neg_i, eqD_ii, eqD_bb, cmp_eq, cmp_ne, cmp_lt, cmp_le, cmp_gt, cmp_ge, isc_nn, isc_bb, isc_in, isc_tn, isc_ln, blt_len_scr, blt_len_tup, blt_len_lst, blt_tuple_lst, blt_tuple_tup, blt_list_lst, blt_list_tup, blt_all, blt_any, blt_max2, blt_min2, blt_int_b, blt_int_i, blt_repr, blt_isi, ix_tup, ix_lst, ix_scr, ty_one, ty_non_int, ty_non_bool, ty_non_str, ty_non_tuple, ty_non_list, ty_bl_int, ty_bl_bool, ty_bl_str, ty_bl_tuple, ty_bl_list, ty_int_int, ty_int_bool, ty_int_str, ty_int_tuple, ty_int_list, ty_str_int, ty_str_bool, ty_str_str, ty_str_tuple, ty_str_list, ty_tup_int, ty_tup_bool, ty_tup_str, ty_tup_tuple, ty_tup_list, ty_lst_int, ty_lst_bool, ty_lst_str, ty_lst_tuple, ty_lst_list, decide_eq_true_eq, Bool.not_true, Bool.not_false, if_true, if_false, ite_true, ite_false, Bool.false_eq_true, Bool.true_eq_false, Option.map_some, true_and, and_true, reduceCtorEq, List.length_cons, List.length_nil]
    refine ⟨by decide, ?_⟩
    refine (sp_take ht (hBi.2 b hb) (by decide)).mono ?_
    rintro r S3 ⟨⟨u, rfl, u0, u1⟩, hB3⟩
    try simp only [ok_newc, upt_tup, upt_lst, frm_tup, frm_lst, rev_tup, rev_lst, trg_i, s_nil, s_ret, s_rtv, s_set, s_unp, s_par, s_app, s_expr, s_frz, cont_nx, cont_ret, fin_ret, fin_nx, frz_nil, frz_two, frz_succ, frz_z, frz_zn, List.getElem?_cons_zero, List.getElem?_cons_succ, setAll_cons, setAll_nil, e_var, e_cst, e_bin, e_neg, e_cmp, e_chn, e_isc, e_and, e_or, e_not, e_ite, e_tup, e_lst, e_newc, e_idx, e_from, e_upto, e_rev, e_call, e_blt, e_mth, e_trng, e_comp, es_nil, es_cons, rs_nil, rs_cons, vs_nil, vs_cons, c_no, c_yes, it_val, it_rng, it_enum, it_zip, c_F, f_F, items_tup, items_lst, rng_i, ok_noX, bind_nm, bind_tp, bind_cons, bind_nil, wipe_nil, wipe_cons, ok_bnd, ok_ret, ok_opt, ok_ask, ok_ite, ok_asB, ok_stk, oko_some, oko_none, oko_map, oko_if, boolO_bl, rd_succ, rd_fz, rd_ow, d_fz, d_ow, ow_succ, ow_zero, List.set_cons_zero, List.set_cons_succ, bin_add, bin_sub, bin_mul, bin_fdiv, bin_mod, bin_pow, add_ii, add_ll, add_tt, sub_ii, mul_ii, fdiv_ii, mod_ii, pow_ii, neg_i, eqD_ii, eqD_bb, cmp_eq, cmp_ne, cmp_lt, cmp_le, cmp_gt, cmp_ge, isc_nn, isc_bb, isc_in, isc_tn, isc_ln, blt_len_scr, blt_len_tup, blt_len_lst, blt_tuple_lst, blt_tuple_tup, blt_list_lst, blt_list_tup, blt_all, blt_any, blt_max2, blt_min2, blt_int_b, blt_int_i, blt_repr, blt_isi, ix_tup, ix_lst, ix_scr, ty_one, ty_non_int, ty_non_bool, ty_non_str, ty_non_tuple, ty_non_list, ty_bl_int, ty_bl_bool, ty_bl_str, ty_bl_tuple, ty_bl_list, ty_int_int, ty_int_bool, ty_int_str, ty_int_tuple, ty_int_list, ty_str_int, ty_str_bool, ty_str_str, ty_str_tuple, ty_str_list, ty_tup_int, ty_tup_bool, ty_tup_str, ty_tup_tuple, ty_tup_list, ty_lst_int, ty_lst_bool, ty_lst_str, ty_lst_tuple, ty_lst_list, decide_eq_true_eq, Bool.not_true, Bool.not_false, if_true, if_false, ite_true, ite_false, Bool.false_eq_true, Bool.true_eq_false, Option.map_some, true_and, and_true, reduceCtorEq, List.length_cons, List.length_nil]
    have hB3 := hBi.trans hB3
    have : ∃ t : Int, atI [D.int 0, D.int 1, D.int 1, D.int 2, D.int 3] u = some (.int t) ∧ 0 ≤ t ∧ t ≤ 3 := by
      have : u = 0 ∨ u = 1 ∨ u = 2 ∨ u = 3 ∨ u = 4 := by omega
      rcases this with rfl | rfl | rfl | rfl | rfl
      · exact ⟨0, rfl, by decide, by decide⟩
      · exact ⟨1, rfl, by decide, by decide⟩
      · exact ⟨1, rfl, by decide, by decide⟩
      · exact ⟨2, rfl, by decide, by decide⟩
      · exact ⟨3, rfl, by decide, by decide⟩
    obtain ⟨t, ht1, t0, t3⟩ := this
    try simp only [ok_newc, upt_tup, upt_lst, frm_tup, frm_lst, rev_tup, rev_lst, trg_i, s_nil, s_ret, s_rtv, s_set, s_unp, s_par, s_app, s_expr, s_frz, cont_nx, cont_ret, fin_ret, fin_nx, frz_nil, frz_two, frz_succ, frz_z, frz_zn, List.getElem?_cons_zero, List.getElem?_cons_succ, setAll_cons, setAll_nil, e_var, e_cst, e_bin, e_neg, e_cmp, e_chn, e_isc, e_and, e_or, e_not, e_ite, e_tup, e_lst, e_newc, e_idx, e_from, e_upto, e_rev, e_call, e_blt, e_mth, e_trng, e_comp, es_nil, es_cons, rs_nil, rs_cons, vs_nil, vs_cons, c_no, c_yes, it_val, it_rng, it_enum, it_zip, c_F, f_F, items_tup, items_lst, rng_i, ok_noX, bind_nm, bind_tp, bind_cons, bind_nil, wipe_nil, wipe_cons, ok_bnd, ok_ret, ok_opt, ok_ask, ok_ite, ok_asB, ok_stk, oko_some, oko_none, oko_map, oko_if, boolO_bl, rd_succ, rd_fz, rd_ow, d_fz, d_ow, ow_succ, ow_zero, List.set_cons_zero, List.set_cons_succ, bin_add, bin_sub, bin_mul, bin_fdiv, bin_mod, bin_pow, add_ii, add_ll, add_tt, sub_ii, mul_ii, fdiv_ii, mod_ii, pow_ii, neg_i, eqD_ii, eqD_bb, cmp_eq, cmp_ne, cmp_lt, cmp_le, cmp_gt, cmp_ge, isc_nn, isc_bb, isc_in, isc_tn, isc_ln, blt_len_scr, blt_len_tup, blt_len_lst, blt_tuple_lst, blt_tuple_tup, blt_list_lst, blt_list_tup, blt_all, blt_any, blt_max2, blt_min2, blt_int_b, blt_int_i, blt_repr, blt_isi, ix_tup, ix_lst, ix_scr, ty_one, ty_non_int, ty_non_bool, ty_non_str, ty_non_tuple, ty_non_list, ty_bl_int, ty_bl_bool, ty_bl_str, ty_bl_tuple, ty_bl_list, ty_int_int, ty_int_bool, ty_int_str, ty_int_tuple, ty_int_list, ty_str_int, ty_str_bool, ty_str_str, ty_str_tuple, ty_str_list, ty_tup_int, ty_tup_bool, ty_tup_str, ty_tup_tuple, ty_tup_list, ty_lst_int, ty_lst_bool, ty_lst_str, ty_lst_tuple, ty_lst_list, decide_eq_true_eq, Bool.not_true, Bool.not_false, if_true, if_false, ite_true, ite_false, Bool.false_eq_true, Bool.true_eq_false, Option.map_some, true_and, and_true, reduceCtorEq, List.length_cons, List.length_nil, ht1]
    refine ⟨okRng_i t0 (by omega), ?_⟩
    refine for_ok (rngD t) (fun j env S' => Bags S S' ∧ ∃ (ws : List D) (e7 e8 e9 e10 : Option Rv), env = [some (.fz (.cell b)), some (.fz (.int most)), some (.ow rows), some (.fz (.int many)), some (.ow ms), some (.fz (.int i)), some (.ow ws), e7, e8, e9, e10] ∧ ws.length = j ∧ ∀ x ∈ ws, D.ok 12 x = true)
      ⟨hB3, [], _, _, _, _, rfl, rfl, fun x hx => nomatch hx⟩ (fun j x env S' hx => ?_) (fun env S' => ?_)
    · rintro ⟨hBj, ws, e7, e8, e9, e10, rfl, hwl, hwo⟩
      obtain ⟨rfl, hj⟩ := rng_get hx
      try simp only [ok_newc, upt_tup, upt_lst, frm_tup, frm_lst, rev_tup, rev_lst, trg_i, s_nil, s_ret, s_rtv, s_set, s_unp, s_par, s_app, s_expr, s_frz, cont_nx, cont_ret, fin_ret, fin_nx, frz_nil, frz_two, frz_succ, frz_z, frz_zn, List.getElem?_cons_zero, List.getElem?_cons_succ, setAll_cons, setAll_nil, e_var, e_cst, e_bin, e_neg, e_cmp, e_chn, e_isc, e_and, e_or, e_not, e_ite, e_tup, e_lst, e_newc, e_idx, e_from, e_upto, e_rev, e_call, e_blt, e_mth, e_trng, e_comp, es_nil, es_cons, rs_nil, rs_cons, vs_nil, vs_cons, c_no, c_yes, it_val, it_rng, it_enum, it_zip, c_F, f_F, items_tup, items_lst, rng_i, ok_noX, bind_nm, bind_tp, bind_cons, bind_nil, wipe_nil, wipe_cons, ok_bnd, ok_ret, ok_opt, ok_ask, ok_ite, ok_asB, ok_stk, oko_some, oko_none, oko_map, oko_if, boolO_bl, rd_succ, rd_fz, rd_ow, d_fz, d_ow, ow_succ, ow_zero, List.set_cons_zero, List.set_cons_succ, bin_add, bin_sub, bin_mul, bin_fdiv, bin_mod, bin_pow, add_ii, add_ll, add_tt, sub_ii, mul_ii, fdiv_ii, mod_ii, pow_ii, neg_i, eqD_ii, eqD_bb, cmp_eq, cmp_ne, cmp_lt, cmp_le, cmp_gt, cmp_ge, isc_nn, isc_bb, isc_in, isc_tn, isc_ln, blt_len_scr, blt_len_tup, blt_len_lst, blt_tuple_lst, blt_tuple_tup, blt_list_lst, blt_list_tup, blt_all, blt_any, blt_max2, blt_min2, blt_int_b, blt_int_i, blt_repr, blt_isi, ix_tup, ix_lst, ix_scr, ty_one, ty_non_int, ty_non_bool, ty_non_str, ty_non_tuple, ty_non_list, ty_bl_int, ty_bl_bool, ty_bl_str, ty_bl_tuple, ty_bl_list, ty_int_int, ty_int_bool, ty_int_str, ty_int_tuple, ty_int_list, ty_str_int, ty_str_bool, ty_str_str, ty_str_tuple, ty_str_list, ty_tup_int, ty_tup_bool, ty_tup_str, ty_tup_tuple, ty_tup_list, ty_lst_int, ty_lst_bool, ty_lst_str, ty_lst_tuple, ty_lst_list, decide_eq_true_eq, Bool.not_true, Bool.not_false, if_true, if_false, ite_true, ite_false, Bool.false_eq_true, Bool.true_eq_false, Option.map_some, true_and, and_true, reduceCtorEq, List.length_cons, List.length_nil]
      refine ⟨okRng_i (by omega) (by omega), sp_map ht (hBj.2 b hb) (by omega) (by omega) fun ys S4 yl yi hB4 => ?_⟩
      try simp only [ok_newc, upt_tup, upt_lst, frm_tup, frm_lst, rev_tup, rev_lst, trg_i, s_nil, s_ret, s_rtv, s_set, s_unp, s_par, s_app, s_expr, s_frz, cont_nx, cont_ret, fin_ret, fin_nx, frz_nil, frz_two, frz_succ, frz_z, frz_zn, List.getElem?_cons_zero, List.getElem?_cons_succ, setAll_cons, setAll_nil, e_var, e_cst, e_bin, e_neg, e_cmp, e_chn, e_isc, e_and, e_or, e_not, e_ite, e_tup, e_lst, e_newc, e_idx, e_from, e_upto, e_rev, e_call, e_blt, e_mth, e_trng, e_comp, es_nil, es_cons, rs_nil, rs_cons, vs_nil, vs_cons, c_no, c_yes, it_val, it_rng, it_enum, it_zip, c_F, f_F, items_tup, items_lst, rng_i, ok_noX, bind_nm, bind_tp, bind_cons, bind_nil, wipe_nil, wipe_cons, ok_bnd, ok_ret, ok_opt, ok_ask, ok_ite, ok_asB, ok_stk, oko_some, oko_none, oko_map, oko_if, boolO_bl, rd_succ, rd_fz, rd_ow, d_fz, d_ow, ow_succ, ow_zero, List.set_cons_zero, List.set_cons_succ, bin_add, bin_sub, bin_mul, bin_fdiv, bin_mod, bin_pow, add_ii, add_ll, add_tt, sub_ii, mul_ii, fdiv_ii, mod_ii, pow_ii, neg_i, eqD_ii, eqD_bb, cmp_eq, cmp_ne, cmp_lt, cmp_le, cmp_gt, cmp_ge, isc_nn, isc_bb, isc_in, isc_tn, isc_ln, blt_len_scr, blt_len_tup, blt_len_lst, blt_tuple_lst, blt_tuple_tup, blt_list_lst, blt_list_tup, blt_all, blt_any, blt_max2, blt_min2, blt_int_b, blt_int_i, blt_repr, blt_isi, ix_tup, ix_lst, ix_scr, ty_one, ty_non_int, ty_non_bool, ty_non_str, ty_non_tuple, ty_non_list, ty_bl_int, ty_bl_bool, ty_bl_str, ty_bl_tuple, ty_bl_list, ty_int_int, ty_int_bool, ty_int_str, ty_int_tuple, ty_int_list, ty_str_int, ty_str_bool, ty_str_str, ty_str_tuple, ty_str_list, ty_tup_int, ty_tup_bool, ty_tup_str, ty_tup_tuple, ty_tup_list, ty_lst_int, ty_lst_bool, ty_lst_str, ty_lst_tuple, ty_lst_list, decide_eq_true_eq, Bool.not_true, Bool.not_false, if_true, if_false, ite_true, ite_false, Bool.false_eq_true, Bool.true_eq_false, Option.map_some, true_and, and_true, reduceCtorEq, List.length_cons, List.length_nil]
      have hB4 := hBj.trans hB4
      refine ⟨okRng_i (by omega) (by omega), sp_map ht (hB4.2 b hb) (by omega) (by omega) fun zs S5 zl zi hB5 => ?_⟩
      try simp only [ok_newc, upt_tup, upt_lst, frm_tup, frm_lst, rev_tup, rev_lst, trg_i, s_nil, s_ret, s_rtv, s_set, s_unp, s_par, s_app, s_expr, s_frz, cont_nx, cont_ret, fin_ret, fin_nx, frz_nil, frz_two, frz_succ, frz_z, frz_zn, List.getElem?_cons_zero, List.getElem?_cons_succ, setAll_cons, setAll_nil, e_var, e_cst, e_bin, e_neg, e_cmp, e_chn, e_isc, e_and, e_or, e_not, e_ite, e_tup, e_lst, e_newc, e_idx, e_from, e_upto, e_rev, e_call, e_blt, e_mth, e_trng, e_comp, es_nil, es_cons, rs_nil, rs_cons, vs_nil, vs_cons, c_no, c_yes, it_val, it_rng, it_enum, it_zip, c_F, f_F, items_tup, items_lst, rng_i, ok_noX, bind_nm, bind_tp, bind_cons, bind_nil, wipe_nil, wipe_cons, ok_bnd, ok_ret, ok_opt, ok_ask, ok_ite, ok_asB, ok_stk, oko_some, oko_none, oko_map, oko_if, boolO_bl, rd_succ, rd_fz, rd_ow, d_fz, d_ow, ow_succ, ow_zero, List.set_cons_zero, List.set_cons_succ, bin_add, bin_sub, bin_mul, bin_fdiv, bin_mod, bin_pow, add_ii, add_ll, add_tt, sub_ii, mul_ii, fdiv_ii, mod_ii, pow_ii, neg_i, eqD_ii, eqD_bb, cmp_eq, cmp_ne, cmp_lt, cmp_le, cmp_gt, cmp_ge, isc_nn, isc_bb, isc_in, isc_tn, isc_ln, blt_len_scr, blt_len_tup, blt_len_lst, blt_tuple_lst, blt_tuple_tup, blt_list_lst, blt_list_tup, blt_all, blt_any, blt_max2, blt_min2, blt_int_b, blt_int_i, blt_repr, blt_isi, ix_tup, ix_lst, ix_scr, ty_one, ty_non_int, ty_non_bool, ty_non_str, ty_non_tuple, ty_non_list, ty_bl_int, ty_bl_bool, ty_bl_str, ty_bl_tuple, ty_bl_list, ty_int_int, ty_int_bool, ty_int_str, ty_int_tuple, ty_int_list, ty_str_int, ty_str_bool, ty_str_str, ty_str_tuple, ty_str_list, ty_tup_int, ty_tup_bool, ty_tup_str, ty_tup_tuple, ty_tup_list, ty_lst_int, ty_lst_bool, ty_lst_str, ty_lst_tuple, ty_lst_list, decide_eq_true_eq, Bool.not_true, Bool.not_false, if_true, if_false, ite_true, ite_false, Bool.false_eq_true, Bool.true_eq_false, Option.map_some, true_and, and_true, reduceCtorEq, List.length_cons, List.length_nil]
      have hB5 := hB4.trans hB5
      refine (sp_take ht (hB5.2 b hb) (by omega)).mono ?_
      rintro r S6 ⟨⟨v1, rfl, _, _⟩, hB6⟩
      have hB6 := hB5.trans hB6
      try simp only [ok_newc, upt_tup, upt_lst, frm_tup, frm_lst, rev_tup, rev_lst, trg_i, s_nil, s_ret, s_rtv, s_set, s_unp, s_par, s_app, s_expr, s_frz, cont_nx, cont_ret, fin_ret, fin_nx, frz_nil, frz_two, frz_succ, frz_z, frz_zn, List.getElem?_cons_zero, List.getElem?_cons_succ, setAll_cons, setAll_nil, e_var, e_cst, e_bin, e_neg, e_cmp, e_chn, e_isc, e_and, e_or, e_not, e_ite, e_tup, e_lst, e_newc, e_idx, e_from, e_upto, e_rev, e_call, e_blt, e_mth, e_trng, e_comp, es_nil, es_cons, rs_nil, rs_cons, vs_nil, vs_cons, c_no, c_yes, it_val, it_rng, it_enum, it_zip, c_F, f_F, items_tup, items_lst, rng_i, ok_noX, bind_nm, bind_tp, bind_cons, bind_nil, wipe_nil, wipe_cons, ok_bnd, ok_ret, ok_opt, ok_ask, ok_ite, ok_asB, ok_stk, oko_some, oko_none, oko_map, oko_if, boolO_bl, rd_succ, rd_fz, rd_ow, d_fz, d_ow, ow_succ, ow_zero, List.set_cons_zero, List.set_cons_succ, bin_add, bin_sub, bin_mul, bin_fdiv, bin_mod, bin_pow, add_ii, add_ll, add_tt, sub_ii, mul_ii, fdiv_ii, mod_ii, pow_ii, neg_i, eqD_ii, eqD_bb, cmp_eq, cmp_ne, cmp_lt, cmp_le, cmp_gt, cmp_ge, isc_nn, isc_bb, isc_in, isc_tn, isc_ln, blt_len_scr, blt_len_tup, blt_len_lst, blt_tuple_lst, blt_tuple_tup, blt_list_lst, blt_list_tup, blt_all, blt_any, blt_max2, blt_min2, blt_int_b, blt_int_i, blt_repr, blt_isi, ix_tup, ix_lst, ix_scr, ty_one, ty_non_int, ty_non_bool, ty_non_str, ty_non_tuple, ty_non_list, ty_bl_int, ty_bl_bool, ty_bl_str, ty_bl_tuple, ty_bl_list, ty_int_int, ty_int_bool, ty_int_str, ty_int_tuple, ty_int_list, ty_str_int, ty_str_bool, ty_str_str, ty_str_tuple, ty_str_list, ty_tup_int, ty_tup_bool, ty_tup_str, ty_tup_tuple, ty_tup_list, ty_lst_int, ty_lst_bool, ty_lst_str, ty_lst_tuple, ty_lst_list, decide_eq_true_eq, Bool.not_true, Bool.not_false, if_true, if_false, ite_true, ite_false, Bool.false_eq_true, Bool.true_eq_false, Option.map_some, true_and, and_true, reduceCtorEq, List.length_cons, List.length_nil]
      refine (sp_take ht (hB6.2 b hb) (by omega)).mono ?_
      rintro r S7 ⟨⟨v2, rfl, _, _⟩, hB7⟩
      have hB7 := hB6.trans hB7
      try simp only [ok_newc, upt_tup, upt_lst, frm_tup, frm_lst, rev_tup, rev_lst, trg_i, s_nil, s_ret, s_rtv, s_set, s_unp, s_par, s_app, s_expr, s_frz, cont_nx, cont_ret, fin_ret, fin_nx, frz_nil, frz_two, frz_succ, frz_z, frz_zn, List.getElem?_cons_zero, List.getElem?_cons_succ, setAll_cons, setAll_nil, e_var, e_cst, e_bin, e_neg, e_cmp, e_chn, e_isc, e_and, e_or, e_not, e_ite, e_tup, e_lst, e_newc, e_idx, e_from, e_upto, e_rev, e_call, e_blt, e_mth, e_trng, e_comp, es_nil, es_cons, rs_nil, rs_cons, vs_nil, vs_cons, c_no, c_yes, it_val, it_rng, it_enum, it_zip, c_F, f_F, items_tup, items_lst, rng_i, ok_noX, bind_nm, bind_tp, bind_cons, bind_nil, wipe_nil, wipe_cons, ok_bnd, ok_ret, ok_opt, ok_ask, ok_ite, ok_asB, ok_stk, oko_some, oko_none, oko_map, oko_if, boolO_bl, rd_succ, rd_fz, rd_ow, d_fz, d_ow, ow_succ, ow_zero, List.set_cons_zero, List.set_cons_succ, bin_add, bin_sub, bin_mul, bin_fdiv, bin_mod, bin_pow, add_ii, add_ll, add_tt, sub_ii, mul_ii, fdiv_ii, mod_ii, pow_ii, neg_i, eqD_ii, eqD_bb, cmp_eq, cmp_ne, cmp_lt, cmp_le, cmp_gt, cmp_ge, isc_nn, isc_bb, isc_in, isc_tn, isc_ln, blt_len_scr, blt_len_tup, blt_len_lst, blt_tuple_lst, blt_tuple_tup, blt_list_lst, blt_list_tup, blt_all, blt_any, blt_max2, blt_min2, blt_int_b, blt_int_i, blt_repr, blt_isi, ix_tup, ix_lst, ix_scr, ty_one, ty_non_int, ty_non_bool, ty_non_str, ty_non_tuple, ty_non_list, ty_bl_int, ty_bl_bool, ty_bl_str, ty_bl_tuple, ty_bl_list, ty_int_int, ty_int_bool, ty_int_str, ty_int_tuple, ty_int_list, ty_str_int, ty_str_bool, ty_str_str, ty_str_tuple, ty_str_list, ty_tup_int, ty_tup_bool, ty_tup_str, ty_tup_tuple, ty_tup_list, ty_lst_int, ty_lst_bool, ty_lst_str, ty_lst_tuple, ty_lst_list, decide_eq_true_eq, Bool.not_true, Bool.not_false, if_true, if_false, ite_true, ite_false, Bool.false_eq_true, Bool.true_eq_false, Option.map_some, true_and, and_true, reduceCtorEq, List.length_cons, List.length_nil]
      refine ⟨by decide, by rw [size16]; omega, hB7, ws ++ [.tup [.int v1, .int v2, .tup ys, .tup zs]], _, _, _, _, rfl, by rw [List.length_append, hwl]; rfl, fun x hx => ?_⟩
      rcases List.mem_append.mp hx with hx | hx
      · exact hwo x hx
      · rw [List.mem_singleton] at hx
        subst hx
        refine ok_tup.mpr ⟨by simp, fun y hy => ?_⟩
        simp only [List.mem_cons, List.not_mem_nil, or_false] at hy
        rcases hy with rfl | rfl | rfl | rfl
        · rfl
        · rfl
        · exact ok_ints (by omega) yi
        · exact ok_ints (by omega) zi
    · rintro ⟨hBj, ws, e7, e8, e9, e10, rfl, hwl, hwo⟩
      rw [rng_len] at hwl
      try simp only [ok_newc, upt_tup, upt_lst, frm_tup, frm_lst, rev_tup, rev_lst, trg_i, s_nil, s_ret, s_rtv, s_set, s_unp, s_par, s_app, s_expr, s_frz, cont_nx, cont_ret, fin_ret, fin_nx, frz_nil, frz_two, frz_succ, frz_z, frz_zn, List.getElem?_cons_zero, List.getElem?_cons_succ, setAll_cons, setAll_nil, e_var, e_cst, e_bin, e_neg, e_cmp, e_chn, e_isc, e_and, e_or, e_not, e_ite, e_tup, e_lst, e_newc, e_idx, e_from, e_upto, e_rev, e_call, e_blt, e_mth, e_trng, e_comp, es_nil, es_cons, rs_nil, rs_cons, vs_nil, vs_cons, c_no, c_yes, it_val, it_rng, it_enum, it_zip, c_F, f_F, items_tup, items_lst, rng_i, ok_noX, bind_nm, bind_tp, bind_cons, bind_nil, wipe_nil, wipe_cons, ok_bnd, ok_ret, ok_opt, ok_ask, ok_ite, ok_asB, ok_stk, oko_some, oko_none, oko_map, oko_if, boolO_bl, rd_succ, rd_fz, rd_ow, d_fz, d_ow, ow_succ, ow_zero, List.set_cons_zero, List.set_cons_succ, bin_add, bin_sub, bin_mul, bin_fdiv, bin_mod, bin_pow, add_ii, add_ll, add_tt, sub_ii, mul_ii, fdiv_ii, mod_ii, pow_ii, neg_i, eqD_ii, eqD_bb, cmp_eq, cmp_ne, cmp_lt, cmp_le, cmp_gt, cmp_ge, isc_nn, isc_bb, isc_in, isc_tn, isc_ln, blt_len_scr, blt_len_tup, blt_len_lst, blt_tuple_lst, blt_tuple_tup, blt_list_lst, blt_list_tup, blt_all, blt_any, blt_max2, blt_min2, blt_int_b, blt_int_i, blt_repr, blt_isi, ix_tup, ix_lst, ix_scr, ty_one, ty_non_int, ty_non_bool, ty_non_str, ty_non_tuple, ty_non_list, ty_bl_int, ty_bl_bool, ty_bl_str, ty_bl_tuple, ty_bl_list, ty_int_int, ty_int_bool, ty_int_str, ty_int_tuple, ty_int_list, ty_str_int, ty_str_bool, ty_str_str, ty_str_tuple, ty_str_list, ty_tup_int, ty_tup_bool, ty_tup_str, ty_tup_tuple, ty_tup_list, ty_lst_int, ty_lst_bool, ty_lst_str, ty_lst_tuple, ty_lst_list, decide_eq_true_eq, Bool.not_true, Bool.not_false, if_true, if_false, ite_true, ite_false, Bool.false_eq_true, Bool.true_eq_false, Option.map_some, true_and, and_true, reduceCtorEq, List.length_cons, List.length_nil]
      refine ⟨by rw [size16]; omega, hBj, ms ++ [.tup ws], _, _, _, _, _, _, rfl, by rw [List.length_append, hml]; rfl, fun x hx => ?_⟩
      rcases List.mem_append.mp hx with hx | hx
      · exact hmo x hx
      · rw [List.mem_singleton] at hx
        subst hx
        exact ok_tup.mpr ⟨by omega, hwo⟩
  · rintro ⟨hBi, ms, e5, e6, e7, e8, e9, e10, rfl, hml, hmo⟩
    rw [rng_len] at hml
    try simp only [ok_newc, upt_tup, upt_lst, frm_tup, frm_lst, rev_tup, rev_lst, trg_i, s_nil, s_ret, s_rtv, s_set, s_unp, s_par, s_app, s_expr, s_frz, cont_nx, cont_ret, fin_ret, fin_nx, frz_nil, frz_two, frz_succ, frz_z, frz_zn, List.getElem?_cons_zero, List.getElem?_cons_succ, setAll_cons, setAll_nil, e_var, e_cst, e_bin, e_neg, e_cmp, e_chn, e_isc, e_and, e_or, e_not, e_ite, e_tup, e_lst, e_newc, e_idx, e_from, e_upto, e_rev, e_call, e_blt, e_mth, e_trng, e_comp, es_nil, es_cons, rs_nil, rs_cons, vs_nil, vs_cons, c_no, c_yes, it_val, it_rng, it_enum, it_zip, c_F, f_F, items_tup, items_lst, rng_i, ok_noX, bind_nm, bind_tp, bind_cons, bind_nil, wipe_nil, wipe_cons, ok_bnd, ok_ret, ok_opt, ok_ask, ok_ite, ok_asB, ok_stk, oko_some, oko_none, oko_map, oko_if, boolO_bl, rd_succ, rd_fz, rd_ow, d_fz, d_ow, ow_succ, ow_zero, List.set_cons_zero, List.set_cons_succ, bin_add, bin_sub, bin_mul, bin_fdiv, bin_mod, bin_pow, add_ii, add_ll, add_tt, sub_ii, mul_ii, fdiv_ii, mod_ii, pow_ii, neg_i, eqD_ii, eqD_bb, cmp_eq, cmp_ne, cmp_lt, cmp_le, cmp_gt, cmp_ge, isc_nn, isc_bb, isc_in, isc_tn, isc_ln, blt_len_scr, blt_len_tup, blt_len_lst, blt_tuple_lst, blt_tuple_tup, blt_list_lst, blt_list_tup, blt_all, blt_any, blt_max2, blt_min2, blt_int_b, blt_int_i, blt_repr, blt_isi, ix_tup, ix_lst, ix_scr, ty_one, ty_non_int, ty_non_bool, ty_non_str, ty_non_tuple, ty_non_list, ty_bl_int, ty_bl_bool, ty_bl_str, ty_bl_tuple, ty_bl_list, ty_int_int, ty_int_bool, ty_int_str, ty_int_tuple, ty_int_list, ty_str_int, ty_str_bool, ty_str_str, ty_str_tuple, ty_str_list, ty_tup_int, ty_tup_bool, ty_tup_str, ty_tup_tuple, ty_tup_list, ty_lst_int, ty_lst_bool, ty_lst_str, ty_lst_tuple, ty_lst_list, decide_eq_true_eq, Bool.not_true, Bool.not_false, if_true, if_false, ite_true, ite_false, Bool.false_eq_true, Bool.true_eq_false, Option.map_some, true_and, and_true, reduceCtorEq, List.length_cons, List.length_nil]
    exact ⟨⟨_, rfl, ms, rfl, by omega, by omega, ok_tup.mpr ⟨by omega, hmo⟩⟩, hBi⟩
end
end Mini
/-! PureG: odd things, things spoilt. -/
namespace Mini
open PySem L2
section
variable {P : Nat → Option FDef} {f g w n m b : Nat} {S : Store}
theorem at_int {ps : List Int} {i : Nat} (h : i < ps.length) : ∃ p : Int, atI (ps.map D.int) (i : Int) = some (.int p) := by
  obtain ⟨x, e, _, hm⟩ := atI_of (xs := ps.map D.int) (i := (i : Int)) (by omega) (by rw [List.length_map]; omega)
  obtain ⟨p, _, rfl⟩ := List.mem_map.mp hm
  exact ⟨p, e⟩
theorem sp_odd {ps : List Int} (h : P f = some d__law_odd) (hp : 2 ≤ ps.length) : Ok (run P (n + 1) f [.lst (ps.map D.int)] S) fun r S' => S' = S ∧ ∃ d, r = .fz d ∧ D.ok 20 d = true := by
  obtain ⟨p0, h0⟩ := at_int (ps := ps) (i := 0) (by omega)
  obtain ⟨p1, h1⟩ := at_int (ps := ps) (i := 1) (by omega)
  have h0 : atI (ps.map D.int) 0 = some (.int p0) := h0
  have h1 : atI (ps.map D.int) 1 = some (.int p1) := h1
  refine ok_run h rfl ?_
  show Ok (execSs _ (.cons (.set _ _) _) [some (.fz (.lst (ps.map D.int))), none] S) _
  simp only [ok_newc, upt_tup, upt_lst, frm_tup, frm_lst, rev_tup, rev_lst, trg_i, s_nil, s_ret, s_rtv, s_set, s_unp, s_par, s_app, s_expr, s_frz, cont_nx, cont_ret, fin_ret, fin_nx, frz_nil, frz_two, frz_succ, frz_z, frz_zn, List.getElem?_cons_zero, List.getElem?_cons_succ, setAll_cons, setAll_nil, e_var, e_cst, e_bin, e_neg, e_cmp, e_chn, e_isc, e_and, e_or, e_not, e_ite, e_tup, e_lst, e_newc, e_idx, e_from, e_upto, e_rev, e_call, e_blt, e_mth, e_trng, e_comp, es_nil, es_cons, rs_nil, rs_cons, vs_nil, vs_cons, c_no, c_yes, it_val, it_rng, it_enum, it_zip, c_F, f_F, items_tup, items_lst, rng_i, ok_noX, bind_nm, bind_tp, bind_cons, bind_nil, wipe_nil, wipe_cons, ok_bnd, ok_ret, ok_opt, ok_ask, ok_ite, ok_asB, ok_stk, oko_some, oko_none, oko_map, oko_if, boolO_bl, rd_succ, rd_fz, rd_ow, d_fz, d_ow, ow_succ, ow_zero, List.set_cons_zero, List.set_cons_succ, bin_add, bin_sub, bin_mul, bin_fdiv, bin_mod, bin_pow, add_ii, add_ll, add_tt, sub_ii, mul_ii, fdiv_ii, mod_ii, pow_ii, neg_i, eqD_ii, eqD_bb, cmp_eq, cmp_ne, cmp_lt, cmp_le, cmp_gt, cmp_ge, isc_nn, isc_bb, isc_in, isc_tn, isc_ln, blt_len_scr, blt_len_tup, blt_len_lst, blt_tuple_lst, blt_tuple_tup, blt_list_lst, blt_list_tup, blt_all, blt_any, blt_max2, blt_min2, blt_int_b, blt_int_i, blt_repr, blt_isi, ix_tup, ix_lst, ix_scr, ty_one, ty_non_int, ty_non_bool, ty_non_str, ty_non_tuple, ty_non_list, ty_bl_int, ty_bl_bool, ty_bl_str, ty_bl_tuple, ty_bl_list, ty_int_int, ty_int_bool, ty_int_str, ty_int_tuple, ty_int_list, ty_str_int, ty_str_bool, ty_str_str, ty_str_tuple, ty_str_list, ty_tup_int, ty_tup_bool, ty_tup_str, ty_tup_tuple, ty_tup_list, ty_lst_int, ty_lst_bool, ty_lst_str, ty_lst_tuple, ty_lst_list, decide_eq_true_eq, Bool.not_true, Bool.not_false, if_true, if_false, ite_true, ite_false, Bool.false_eq_true, Bool.true_eq_false, Option.map_some, true_and, and_true, reduceCtorEq, List.length_cons, List.length_nil, size16, Nat.reduceAdd, Nat.reduceLeDiff, List.length_append, List.cons_append, List.nil_append, h0, h1]
  refine ⟨⟨by decide, by decide, by decide, by decide⟩, ⟨by decide, by decide, by decide, by decide⟩, .inl ⟨by decide, by decide⟩, by decide, ?_⟩
  refine at_lt (Int.emod_nonneg _ (by decide)) (Int.emod_lt_of_pos _ (by decide)) fun x hx => ⟨x, rfl, ?_⟩
  exact List.all_eq_true.mp (by rfl) x hx
theorem st_ow {env : Env} {i j : Nat} {k : Int} {xs : List D} {d : D} (h : env[i]? = some (some (.ow xs))) (hk : ixN xs.length k = some j) : stxop env i (.int k) d S = .ok (env.set i (some (.ow (xs.set j d)))) S := by
  unfold stxop
  rw [h]
  show (match ixN xs.length k with | some j => M.ret (env.set i (some (.ow (xs.set j d)))) | none => M.stk) S = _
  rw [hk]
  rfl
theorem cut_ints {ps : List Int} {lo hi : Option Int} : cutD (ps.map D.int) lo hi = ((ps.drop (HT.sIx ps.length 0 lo)).take (HT.sIx ps.length ps.length hi - HT.sIx ps.length 0 lo)).map D.int := by
  unfold cutD
  rw [List.length_map, ← List.map_drop, ← List.map_take]
theorem cut_from {ps : List Int} {k : Nat} (h : k ≤ ps.length) : cutD (ps.map D.int) (some (k : Int)) none = (ps.drop k).map D.int := by
  rw [cut_ints]
  have e : HT.sIx ps.length 0 (some (k : Int)) = k := by
    show (if (k : Int) < 0 then ((k : Int) + (ps.length : Int)).toNat else min (k : Int).toNat ps.length) = k
    rw [if_neg (by omega), Int.toNat_natCast]
    omega
  rw [e]
  show List.map D.int (List.take (ps.length - k) (ps.drop k)) = _
  rw [List.take_of_length_le (by rw [List.length_drop]; omega)]
theorem add_ok {xs ys : List D} (hx : ∀ x ∈ xs, D.ok m x = true) (hy : ∀ x ∈ ys, D.ok m x = true) : ∀ x ∈ xs ++ ys, D.ok m x = true := fun x h => by
  rcases List.mem_append.mp h with h | h
  · exact hx x h
  · exact hy x h
theorem cut_two {xs : List D} {i : Int} (h0 : 0 ≤ i) (h1 : i ≤ xs.length) : (cutD xs none (some i)).length = i.toNat ∧ (cutD xs (some i) none).length = xs.length - i.toNat := by
  have e : ∀ d, HT.sIx xs.length d (some i) = i.toNat := fun d => by
    show (if i < 0 then (i + (xs.length : Int)).toNat else min i.toNat xs.length) = i.toNat
    rw [if_neg (by omega)]
    omega
  unfold cutD
  rw [e, e, List.length_take, List.length_take, List.length_drop, List.length_drop]
  show min (i.toNat - 0) (xs.length - 0) = _ ∧ min (xs.length - i.toNat) (xs.length - i.toNat) = _
  omega
/-- one level of it: rec is what the next level gives -/
theorem spoilt_step {od sl N : Nat} {ps : List Int} {d : D} (hs : P sl = some (d__law_spoilt (c__law_odd := od) (c__law_spoilt := sl))) (ho : P od = some d__law_odd) (hm : 20 ≤ m) (hm2 : m ≤ 100000) (h3 : 3 ≤ ps.length) (hd : D.ok m d = true)
    (rec : 9 ≤ ps.length → ∀ d' S, D.ok m d' = true → Ok (run P (N + 1) sl [d', .lst ((ps.drop 4).map D.int)] S) fun r S' => S' = S ∧ D.ok (m + 1) r.d = true) :
    Ok (run P (N + 1 + 1) sl [d, .lst (ps.map D.int)] S) fun r S' => S' = S ∧ D.ok (m + 1) r.d = true := by
  obtain ⟨p0, h0⟩ := at_int (ps := ps) (i := 0) (by omega)
  obtain ⟨p1, h1⟩ := at_int (ps := ps) (i := 1) (by omega)
  obtain ⟨p2, h2⟩ := at_int (ps := ps) (i := 2) (by omega)
  have h0 : atI (ps.map D.int) 0 = some (.int p0) := h0
  have h1 : atI (ps.map D.int) 1 = some (.int p1) := h1
  have h2 : atI (ps.map D.int) 2 = some (.int p2) := h2
  have odd : ∀ (Q : Rv → Store → Prop) (j : Nat) S, j + 2 ≤ ps.length → (∀ d, D.ok (m + 1) d = true → Q (.fz d) S) → Ok (run P (N + 1) od [.lst (cutD (ps.map D.int) (some (j : Int)) none)] S) Q := fun Q j S hj q => by
    rw [cut_from (by omega)]
    refine (sp_odd ho (by rw [List.length_drop]; omega)).mono ?_
    rintro r S' ⟨rfl, d, rfl, hd⟩
    exact q d (D.ok_mono (by omega) hd)
  have odd1 : Ok (run P (N + 1) od [.lst (cutD (ps.map D.int) (some 1) none)] S) fun r S' => S' = S ∧ D.ok (m + 1) r.d = true := odd _ 1 S (by omega) fun d hd => ⟨rfl, hd⟩
  refine ok_run hs rfl ?_
  show Ok (execSs _ (.cons (.ite _ _ _) _) [some (.fz d), some (.fz (.lst (ps.map D.int))), none, none, none] S) _
  rw [s_ite]
  have tyd : ∃ bt bl, tyIs d .tuple = some bt ∧ tyIs d .list = some bl ∧ ((bt || bl) = true → ∃ xs, items d = some xs ∧ bltop S .len [d] = some (.fz (.int xs.length)) ∧ bltop S .list [d] = some (.ow xs) ∧ xs.length ≤ m ∧ ∀ x ∈ xs, D.ok m x = true) := by
    cases d with
    | tup xs =>
      obtain ⟨a1, a2⟩ := ok_tup.mp hd
      exact ⟨_, _, rfl, rfl, fun _ => ⟨_, rfl, rfl, rfl, a1, a2⟩⟩
    | lst xs =>
      obtain ⟨a1, a2⟩ := ok_lst.mp hd
      exact ⟨_, _, rfl, rfl, fun _ => ⟨_, rfl, rfl, rfl, a1, a2⟩⟩
    | non => exact ⟨_, _, rfl, rfl, fun h => by cases h⟩
    | bl _ => exact ⟨_, _, rfl, rfl, fun h => by cases h⟩
    | int _ => exact ⟨_, _, rfl, rfl, fun h => by cases h⟩
    | str _ => exact ⟨_, _, rfl, rfl, fun h => by cases h⟩
    | _ => cases hd
  obtain ⟨bt, bl, t1, t2, t3⟩ := tyd
  simp only [ok_newc, upt_tup, upt_lst, frm_tup, frm_lst, rev_tup, rev_lst, trg_i, s_nil, s_ret, s_rtv, s_set, s_unp, s_par, s_app, s_expr, s_frz, cont_nx, cont_ret, fin_ret, fin_nx, frz_nil, frz_two, frz_succ, frz_z, frz_zn, List.getElem?_cons_zero, List.getElem?_cons_succ, setAll_cons, setAll_nil, e_var, e_cst, e_bin, e_neg, e_cmp, e_chn, e_isc, e_and, e_or, e_not, e_ite, e_tup, e_lst, e_newc, e_idx, e_from, e_upto, e_rev, e_call, e_blt, e_mth, e_trng, e_comp, es_nil, es_cons, rs_nil, rs_cons, vs_nil, vs_cons, c_no, c_yes, it_val, it_rng, it_enum, it_zip, c_F, f_F, items_tup, items_lst, rng_i, ok_noX, bind_nm, bind_tp, bind_cons, bind_nil, wipe_nil, wipe_cons, ok_bnd, ok_ret, ok_opt, ok_ask, ok_ite, ok_asB, ok_stk, oko_some, oko_none, oko_map, oko_if, boolO_bl, rd_succ, rd_fz, rd_ow, d_fz, d_ow, ow_succ, ow_zero, List.set_cons_zero, List.set_cons_succ, bin_add, bin_sub, bin_mul, bin_fdiv, bin_mod, bin_pow, add_ii, add_ll, add_tt, sub_ii, mul_ii, fdiv_ii, mod_ii, pow_ii, neg_i, eqD_ii, eqD_bb, cmp_eq, cmp_ne, cmp_lt, cmp_le, cmp_gt, cmp_ge, isc_nn, isc_bb, isc_in, isc_tn, isc_ln, blt_len_scr, blt_len_tup, blt_len_lst, blt_tuple_lst, blt_tuple_tup, blt_list_lst, blt_list_tup, blt_all, blt_any, blt_max2, blt_min2, blt_int_b, blt_int_i, blt_repr, blt_isi, ix_tup, ix_lst, ix_scr, ty_one, ty_non_int, ty_non_bool, ty_non_str, ty_non_tuple, ty_non_list, ty_bl_int, ty_bl_bool, ty_bl_str, ty_bl_tuple, ty_bl_list, ty_int_int, ty_int_bool, ty_int_str, ty_int_tuple, ty_int_list, ty_str_int, ty_str_bool, ty_str_str, ty_str_tuple, ty_str_list, ty_tup_int, ty_tup_bool, ty_tup_str, ty_tup_tuple, ty_tup_list, ty_lst_int, ty_lst_bool, ty_lst_str, ty_lst_tuple, ty_lst_list, decide_eq_true_eq, Bool.not_true, Bool.not_false, if_true, if_false, ite_true, ite_false, Bool.false_eq_true, Bool.true_eq_false, Option.map_some, true_and, and_true, reduceCtorEq, List.length_cons, List.length_nil, ty_two t1 t2, h0]
  cases hb : (bt || bl)
  · simp only [ok_newc, upt_tup, upt_lst, frm_tup, frm_lst, rev_tup, rev_lst, trg_i, s_nil, s_ret, s_rtv, s_set, s_unp, s_par, s_app, s_expr, s_frz, cont_nx, cont_ret, fin_ret, fin_nx, frz_nil, frz_two, frz_succ, frz_z, frz_zn, List.getElem?_cons_zero, List.getElem?_cons_succ, setAll_cons, setAll_nil, e_var, e_cst, e_bin, e_neg, e_cmp, e_chn, e_isc, e_and, e_or, e_not, e_ite, e_tup, e_lst, e_newc, e_idx, e_from, e_upto, e_rev, e_call, e_blt, e_mth, e_trng, e_comp, es_nil, es_cons, rs_nil, rs_cons, vs_nil, vs_cons, c_no, c_yes, it_val, it_rng, it_enum, it_zip, c_F, f_F, items_tup, items_lst, rng_i, ok_noX, bind_nm, bind_tp, bind_cons, bind_nil, wipe_nil, wipe_cons, ok_bnd, ok_ret, ok_opt, ok_ask, ok_ite, ok_asB, ok_stk, oko_some, oko_none, oko_map, oko_if, boolO_bl, rd_succ, rd_fz, rd_ow, d_fz, d_ow, ow_succ, ow_zero, List.set_cons_zero, List.set_cons_succ, bin_add, bin_sub, bin_mul, bin_fdiv, bin_mod, bin_pow, add_ii, add_ll, add_tt, sub_ii, mul_ii, fdiv_ii, mod_ii, pow_ii, neg_i, eqD_ii, eqD_bb, cmp_eq, cmp_ne, cmp_lt, cmp_le, cmp_gt, cmp_ge, isc_nn, isc_bb, isc_in, isc_tn, isc_ln, blt_len_scr, blt_len_tup, blt_len_lst, blt_tuple_lst, blt_tuple_tup, blt_list_lst, blt_list_tup, blt_all, blt_any, blt_max2, blt_min2, blt_int_b, blt_int_i, blt_repr, blt_isi, ix_tup, ix_lst, ix_scr, ty_one, ty_non_int, ty_non_bool, ty_non_str, ty_non_tuple, ty_non_list, ty_bl_int, ty_bl_bool, ty_bl_str, ty_bl_tuple, ty_bl_list, ty_int_int, ty_int_bool, ty_int_str, ty_int_tuple, ty_int_list, ty_str_int, ty_str_bool, ty_str_str, ty_str_tuple, ty_str_list, ty_tup_int, ty_tup_bool, ty_tup_str, ty_tup_tuple, ty_tup_list, ty_lst_int, ty_lst_bool, ty_lst_str, ty_lst_tuple, ty_lst_list, decide_eq_true_eq, Bool.not_true, Bool.not_false, if_true, if_false, ite_true, ite_false, Bool.false_eq_true, Bool.true_eq_false, Option.map_some, true_and, and_true, reduceCtorEq, List.length_cons, List.length_nil]
    exact odd1
  obtain ⟨xs, x1, x2, x3, x4, x5⟩ := t3 hb
  simp only [ok_newc, upt_tup, upt_lst, frm_tup, frm_lst, rev_tup, rev_lst, trg_i, s_nil, s_ret, s_rtv, s_set, s_unp, s_par, s_app, s_expr, s_frz, cont_nx, cont_ret, fin_ret, fin_nx, frz_nil, frz_two, frz_succ, frz_z, frz_zn, List.getElem?_cons_zero, List.getElem?_cons_succ, setAll_cons, setAll_nil, e_var, e_cst, e_bin, e_neg, e_cmp, e_chn, e_isc, e_and, e_or, e_not, e_ite, e_tup, e_lst, e_newc, e_idx, e_from, e_upto, e_rev, e_call, e_blt, e_mth, e_trng, e_comp, es_nil, es_cons, rs_nil, rs_cons, vs_nil, vs_cons, c_no, c_yes, it_val, it_rng, it_enum, it_zip, c_F, f_F, items_tup, items_lst, rng_i, ok_noX, bind_nm, bind_tp, bind_cons, bind_nil, wipe_nil, wipe_cons, ok_bnd, ok_ret, ok_opt, ok_ask, ok_ite, ok_asB, ok_stk, oko_some, oko_none, oko_map, oko_if, boolO_bl, rd_succ, rd_fz, rd_ow, d_fz, d_ow, ow_succ, ow_zero, List.set_cons_zero, List.set_cons_succ, bin_add, bin_sub, bin_mul, bin_fdiv, bin_mod, bin_pow, add_ii, add_ll, add_tt, sub_ii, mul_ii, fdiv_ii, mod_ii, pow_ii, neg_i, eqD_ii, eqD_bb, cmp_eq, cmp_ne, cmp_lt, cmp_le, cmp_gt, cmp_ge, isc_nn, isc_bb, isc_in, isc_tn, isc_ln, blt_len_scr, blt_len_tup, blt_len_lst, blt_tuple_lst, blt_tuple_tup, blt_list_lst, blt_list_tup, blt_all, blt_any, blt_max2, blt_min2, blt_int_b, blt_int_i, blt_repr, blt_isi, ix_tup, ix_lst, ix_scr, ty_one, ty_non_int, ty_non_bool, ty_non_str, ty_non_tuple, ty_non_list, ty_bl_int, ty_bl_bool, ty_bl_str, ty_bl_tuple, ty_bl_list, ty_int_int, ty_int_bool, ty_int_str, ty_int_tuple, ty_int_list, ty_str_int, ty_str_bool, ty_str_str, ty_str_tuple, ty_str_list, ty_tup_int, ty_tup_bool, ty_tup_str, ty_tup_tuple, ty_tup_list, ty_lst_int, ty_lst_bool, ty_lst_str, ty_lst_tuple, ty_lst_list, decide_eq_true_eq, Bool.not_true, Bool.not_false, if_true, if_false, ite_true, ite_false, Bool.false_eq_true, Bool.true_eq_false, Option.map_some, true_and, and_true, reduceCtorEq, List.length_cons, List.length_nil, x2, x3, h1, h2]
  split
  · exact odd1
  rename_i hx0
  split
  · exact odd1
  rename_i h9
  refine ⟨by decide, ?_⟩
  split
  · exact odd1
  have h9 : 9 ≤ ps.length := by
    rw [List.length_map] at h9
    omega
  have hx0 : 0 < xs.length := by
    rcases Nat.eq_zero_or_pos xs.length with z | z
    · rw [z] at hx0
      exact absurd rfl hx0
    · exact z
  refine ⟨by omega, by decide, ?_⟩
  have ha : 0 ≤ p1 % (xs.length : Int) ∧ p1 % (xs.length : Int) < xs.length := ⟨Int.emod_nonneg _ (by omega), Int.emod_lt_of_pos _ (by omega)⟩
  generalize p1 % (xs.length : Int) = a at ha ⊢
  generalize p2 % 12 = tb
  have x5' : ∀ x ∈ xs, D.ok (m + 1) x = true := fun x hx => D.ok_mono (Nat.le_succ m) (x5 x hx)
  have fin : ∀ ys, ys.length ≤ m + 1 → (∀ y ∈ ys, D.ok (m + 1) y = true) → Ok (execSs (run P (N + 1)) (.cons (.ite (.cmp .eq (.blt (.isi [.tuple]) (.cons (.var 0) .nil)) (.cmp .eq (.var 4) (.cst (.int 4)))) (.cons (.rtv 2) .nil) .nil) (.cons (.ret (.blt .tuple (.cons (.var 2) .nil))) .nil)) [some (.fz d), some (.fz (.lst (ps.map D.int))), some (.ow ys), some (.fz (.int a)), some (.fz (.int tb))] S) (fin fun r S' => S' = S ∧ D.ok (m + 1) r.d = true) := fun ys hl hy => by
    rw [s_ite]
    simp only [ok_newc, upt_tup, upt_lst, frm_tup, frm_lst, rev_tup, rev_lst, trg_i, s_nil, s_ret, s_rtv, s_set, s_unp, s_par, s_app, s_expr, s_frz, cont_nx, cont_ret, fin_ret, fin_nx, frz_nil, frz_two, frz_succ, frz_z, frz_zn, List.getElem?_cons_zero, List.getElem?_cons_succ, setAll_cons, setAll_nil, e_var, e_cst, e_bin, e_neg, e_cmp, e_chn, e_isc, e_and, e_or, e_not, e_ite, e_tup, e_lst, e_newc, e_idx, e_from, e_upto, e_rev, e_call, e_blt, e_mth, e_trng, e_comp, es_nil, es_cons, rs_nil, rs_cons, vs_nil, vs_cons, c_no, c_yes, it_val, it_rng, it_enum, it_zip, c_F, f_F, items_tup, items_lst, rng_i, ok_noX, bind_nm, bind_tp, bind_cons, bind_nil, wipe_nil, wipe_cons, ok_bnd, ok_ret, ok_opt, ok_ask, ok_ite, ok_asB, ok_stk, oko_some, oko_none, oko_map, oko_if, boolO_bl, rd_succ, rd_fz, rd_ow, d_fz, d_ow, ow_succ, ow_zero, List.set_cons_zero, List.set_cons_succ, bin_add, bin_sub, bin_mul, bin_fdiv, bin_mod, bin_pow, add_ii, add_ll, add_tt, sub_ii, mul_ii, fdiv_ii, mod_ii, pow_ii, neg_i, eqD_ii, eqD_bb, cmp_eq, cmp_ne, cmp_lt, cmp_le, cmp_gt, cmp_ge, isc_nn, isc_bb, isc_in, isc_tn, isc_ln, blt_len_scr, blt_len_tup, blt_len_lst, blt_tuple_lst, blt_tuple_tup, blt_list_lst, blt_list_tup, blt_all, blt_any, blt_max2, blt_min2, blt_int_b, blt_int_i, blt_repr, blt_isi, ix_tup, ix_lst, ix_scr, ty_one, ty_non_int, ty_non_bool, ty_non_str, ty_non_tuple, ty_non_list, ty_bl_int, ty_bl_bool, ty_bl_str, ty_bl_tuple, ty_bl_list, ty_int_int, ty_int_bool, ty_int_str, ty_int_tuple, ty_int_list, ty_str_int, ty_str_bool, ty_str_str, ty_str_tuple, ty_str_list, ty_tup_int, ty_tup_bool, ty_tup_str, ty_tup_tuple, ty_tup_list, ty_lst_int, ty_lst_bool, ty_lst_str, ty_lst_tuple, ty_lst_list, decide_eq_true_eq, Bool.not_true, Bool.not_false, if_true, if_false, ite_true, ite_false, Bool.false_eq_true, Bool.true_eq_false, Option.map_some, true_and, and_true, reduceCtorEq, List.length_cons, List.length_nil, t1]
    have z := ok_tup.mpr ⟨hl, hy⟩
    split
    · exact z
    · exact z
  have cut1 : ∀ lo hi, ∀ y ∈ cutD xs lo hi, D.ok (m + 1) y = true := fun lo hi y hy => x5' y (cut_mem hy)
  have la := cut_two ha.1 (Int.le_of_lt ha.2)
  have lb := cut_two (xs := xs) (i := a + 1) (by omega) (by omega)
  have hsz : sizeLine = 16777216 := size16
  rw [s_ite]
  simp only [ok_newc, upt_tup, upt_lst, frm_tup, frm_lst, rev_tup, rev_lst, trg_i, s_nil, s_ret, s_rtv, s_set, s_unp, s_par, s_app, s_expr, s_frz, cont_nx, cont_ret, fin_ret, fin_nx, frz_nil, frz_two, frz_succ, frz_z, frz_zn, List.getElem?_cons_zero, List.getElem?_cons_succ, setAll_cons, setAll_nil, e_var, e_cst, e_bin, e_neg, e_cmp, e_chn, e_isc, e_and, e_or, e_not, e_ite, e_tup, e_lst, e_newc, e_idx, e_from, e_upto, e_rev, e_call, e_blt, e_mth, e_trng, e_comp, es_nil, es_cons, rs_nil, rs_cons, vs_nil, vs_cons, c_no, c_yes, it_val, it_rng, it_enum, it_zip, c_F, f_F, items_tup, items_lst, rng_i, ok_noX, bind_nm, bind_tp, bind_cons, bind_nil, wipe_nil, wipe_cons, ok_bnd, ok_ret, ok_opt, ok_ask, ok_ite, ok_asB, ok_stk, oko_some, oko_none, oko_map, oko_if, boolO_bl, rd_succ, rd_fz, rd_ow, d_fz, d_ow, ow_succ, ow_zero, List.set_cons_zero, List.set_cons_succ, bin_add, bin_sub, bin_mul, bin_fdiv, bin_mod, bin_pow, add_ii, add_ll, add_tt, sub_ii, mul_ii, fdiv_ii, mod_ii, pow_ii, neg_i, eqD_ii, eqD_bb, cmp_eq, cmp_ne, cmp_lt, cmp_le, cmp_gt, cmp_ge, isc_nn, isc_bb, isc_in, isc_tn, isc_ln, blt_len_scr, blt_len_tup, blt_len_lst, blt_tuple_lst, blt_tuple_tup, blt_list_lst, blt_list_tup, blt_all, blt_any, blt_max2, blt_min2, blt_int_b, blt_int_i, blt_repr, blt_isi, ix_tup, ix_lst, ix_scr, ty_one, ty_non_int, ty_non_bool, ty_non_str, ty_non_tuple, ty_non_list, ty_bl_int, ty_bl_bool, ty_bl_str, ty_bl_tuple, ty_bl_list, ty_int_int, ty_int_bool, ty_int_str, ty_int_tuple, ty_int_list, ty_str_int, ty_str_bool, ty_str_str, ty_str_tuple, ty_str_list, ty_tup_int, ty_tup_bool, ty_tup_str, ty_tup_tuple, ty_tup_list, ty_lst_int, ty_lst_bool, ty_lst_str, ty_lst_tuple, ty_lst_list, decide_eq_true_eq, Bool.not_true, Bool.not_false, if_true, if_false, ite_true, ite_false, Bool.false_eq_true, Bool.true_eq_false, Option.map_some, true_and, and_true, reduceCtorEq, List.length_cons, List.length_nil]
  by_cases q0 : (tb == 0) = true
  · simp only [ok_newc, upt_tup, upt_lst, frm_tup, frm_lst, rev_tup, rev_lst, trg_i, s_nil, s_ret, s_rtv, s_set, s_unp, s_par, s_app, s_expr, s_frz, cont_nx, cont_ret, fin_ret, fin_nx, frz_nil, frz_two, frz_succ, frz_z, frz_zn, List.getElem?_cons_zero, List.getElem?_cons_succ, setAll_cons, setAll_nil, e_var, e_cst, e_bin, e_neg, e_cmp, e_chn, e_isc, e_and, e_or, e_not, e_ite, e_tup, e_lst, e_newc, e_idx, e_from, e_upto, e_rev, e_call, e_blt, e_mth, e_trng, e_comp, es_nil, es_cons, rs_nil, rs_cons, vs_nil, vs_cons, c_no, c_yes, it_val, it_rng, it_enum, it_zip, c_F, f_F, items_tup, items_lst, rng_i, ok_noX, bind_nm, bind_tp, bind_cons, bind_nil, wipe_nil, wipe_cons, ok_bnd, ok_ret, ok_opt, ok_ask, ok_ite, ok_asB, ok_stk, oko_some, oko_none, oko_map, oko_if, boolO_bl, rd_succ, rd_fz, rd_ow, d_fz, d_ow, ow_succ, ow_zero, List.set_cons_zero, List.set_cons_succ, bin_add, bin_sub, bin_mul, bin_fdiv, bin_mod, bin_pow, add_ii, add_ll, add_tt, sub_ii, mul_ii, fdiv_ii, mod_ii, pow_ii, neg_i, eqD_ii, eqD_bb, cmp_eq, cmp_ne, cmp_lt, cmp_le, cmp_gt, cmp_ge, isc_nn, isc_bb, isc_in, isc_tn, isc_ln, blt_len_scr, blt_len_tup, blt_len_lst, blt_tuple_lst, blt_tuple_tup, blt_list_lst, blt_list_tup, blt_all, blt_any, blt_max2, blt_min2, blt_int_b, blt_int_i, blt_repr, blt_isi, ix_tup, ix_lst, ix_scr, ty_one, ty_non_int, ty_non_bool, ty_non_str, ty_non_tuple, ty_non_list, ty_bl_int, ty_bl_bool, ty_bl_str, ty_bl_tuple, ty_bl_list, ty_int_int, ty_int_bool, ty_int_str, ty_int_tuple, ty_int_list, ty_str_int, ty_str_bool, ty_str_str, ty_str_tuple, ty_str_list, ty_tup_int, ty_tup_bool, ty_tup_str, ty_tup_tuple, ty_tup_list, ty_lst_int, ty_lst_bool, ty_lst_str, ty_lst_tuple, ty_lst_list, decide_eq_true_eq, Bool.not_true, Bool.not_false, if_true, if_false, ite_true, ite_false, Bool.false_eq_true, Bool.true_eq_false, Option.map_some, true_and, and_true, reduceCtorEq, List.length_cons, List.length_nil, q0]
    exact ⟨by omega, fin _ (by rw [List.length_append]; omega) (add_ok (cut1 _ _) (cut1 _ _))⟩
  simp only [ok_newc, upt_tup, upt_lst, frm_tup, frm_lst, rev_tup, rev_lst, trg_i, s_nil, s_ret, s_rtv, s_set, s_unp, s_par, s_app, s_expr, s_frz, cont_nx, cont_ret, fin_ret, fin_nx, frz_nil, frz_two, frz_succ, frz_z, frz_zn, List.getElem?_cons_zero, List.getElem?_cons_succ, setAll_cons, setAll_nil, e_var, e_cst, e_bin, e_neg, e_cmp, e_chn, e_isc, e_and, e_or, e_not, e_ite, e_tup, e_lst, e_newc, e_idx, e_from, e_upto, e_rev, e_call, e_blt, e_mth, e_trng, e_comp, es_nil, es_cons, rs_nil, rs_cons, vs_nil, vs_cons, c_no, c_yes, it_val, it_rng, it_enum, it_zip, c_F, f_F, items_tup, items_lst, rng_i, ok_noX, bind_nm, bind_tp, bind_cons, bind_nil, wipe_nil, wipe_cons, ok_bnd, ok_ret, ok_opt, ok_ask, ok_ite, ok_asB, ok_stk, oko_some, oko_none, oko_map, oko_if, boolO_bl, rd_succ, rd_fz, rd_ow, d_fz, d_ow, ow_succ, ow_zero, List.set_cons_zero, List.set_cons_succ, bin_add, bin_sub, bin_mul, bin_fdiv, bin_mod, bin_pow, add_ii, add_ll, add_tt, sub_ii, mul_ii, fdiv_ii, mod_ii, pow_ii, neg_i, eqD_ii, eqD_bb, cmp_eq, cmp_ne, cmp_lt, cmp_le, cmp_gt, cmp_ge, isc_nn, isc_bb, isc_in, isc_tn, isc_ln, blt_len_scr, blt_len_tup, blt_len_lst, blt_tuple_lst, blt_tuple_tup, blt_list_lst, blt_list_tup, blt_all, blt_any, blt_max2, blt_min2, blt_int_b, blt_int_i, blt_repr, blt_isi, ix_tup, ix_lst, ix_scr, ty_one, ty_non_int, ty_non_bool, ty_non_str, ty_non_tuple, ty_non_list, ty_bl_int, ty_bl_bool, ty_bl_str, ty_bl_tuple, ty_bl_list, ty_int_int, ty_int_bool, ty_int_str, ty_int_tuple, ty_int_list, ty_str_int, ty_str_bool, ty_str_str, ty_str_tuple, ty_str_list, ty_tup_int, ty_tup_bool, ty_tup_str, ty_tup_tuple, ty_tup_list, ty_lst_int, ty_lst_bool, ty_lst_str, ty_lst_tuple, ty_lst_list, decide_eq_true_eq, Bool.not_true, Bool.not_false, if_true, if_false, ite_true, ite_false, Bool.false_eq_true, Bool.true_eq_false, Option.map_some, true_and, and_true, reduceCtorEq, List.length_cons, List.length_nil, q0]
  rw [s_ite]
  simp only [ok_newc, upt_tup, upt_lst, frm_tup, frm_lst, rev_tup, rev_lst, trg_i, s_nil, s_ret, s_rtv, s_set, s_unp, s_par, s_app, s_expr, s_frz, cont_nx, cont_ret, fin_ret, fin_nx, frz_nil, frz_two, frz_succ, frz_z, frz_zn, List.getElem?_cons_zero, List.getElem?_cons_succ, setAll_cons, setAll_nil, e_var, e_cst, e_bin, e_neg, e_cmp, e_chn, e_isc, e_and, e_or, e_not, e_ite, e_tup, e_lst, e_newc, e_idx, e_from, e_upto, e_rev, e_call, e_blt, e_mth, e_trng, e_comp, es_nil, es_cons, rs_nil, rs_cons, vs_nil, vs_cons, c_no, c_yes, it_val, it_rng, it_enum, it_zip, c_F, f_F, items_tup, items_lst, rng_i, ok_noX, bind_nm, bind_tp, bind_cons, bind_nil, wipe_nil, wipe_cons, ok_bnd, ok_ret, ok_opt, ok_ask, ok_ite, ok_asB, ok_stk, oko_some, oko_none, oko_map, oko_if, boolO_bl, rd_succ, rd_fz, rd_ow, d_fz, d_ow, ow_succ, ow_zero, List.set_cons_zero, List.set_cons_succ, bin_add, bin_sub, bin_mul, bin_fdiv, bin_mod, bin_pow, add_ii, add_ll, add_tt, sub_ii, mul_ii, fdiv_ii, mod_ii, pow_ii, neg_i, eqD_ii, eqD_bb, cmp_eq, cmp_ne, cmp_lt, cmp_le, cmp_gt, cmp_ge, isc_nn, isc_bb, isc_in, isc_tn, isc_ln, blt_len_scr, blt_len_tup, blt_len_lst, blt_tuple_lst, blt_tuple_tup, blt_list_lst, blt_list_tup, blt_all, blt_any, blt_max2, blt_min2, blt_int_b, blt_int_i, blt_repr, blt_isi, ix_tup, ix_lst, ix_scr, ty_one, ty_non_int, ty_non_bool, ty_non_str, ty_non_tuple, ty_non_list, ty_bl_int, ty_bl_bool, ty_bl_str, ty_bl_tuple, ty_bl_list, ty_int_int, ty_int_bool, ty_int_str, ty_int_tuple, ty_int_list, ty_str_int, ty_str_bool, ty_str_str, ty_str_tuple, ty_str_list, ty_tup_int, ty_tup_bool, ty_tup_str, ty_tup_tuple, ty_tup_list, ty_lst_int, ty_lst_bool, ty_lst_str, ty_lst_tuple, ty_lst_list, decide_eq_true_eq, Bool.not_true, Bool.not_false, if_true, if_false, ite_true, ite_false, Bool.false_eq_true, Bool.true_eq_false, Option.map_some, true_and, and_true, reduceCtorEq, List.length_cons, List.length_nil]
  by_cases q1 : (tb == 1) = true
  · simp only [ok_newc, upt_tup, upt_lst, frm_tup, frm_lst, rev_tup, rev_lst, trg_i, s_nil, s_ret, s_rtv, s_set, s_unp, s_par, s_app, s_expr, s_frz, cont_nx, cont_ret, fin_ret, fin_nx, frz_nil, frz_two, frz_succ, frz_z, frz_zn, List.getElem?_cons_zero, List.getElem?_cons_succ, setAll_cons, setAll_nil, e_var, e_cst, e_bin, e_neg, e_cmp, e_chn, e_isc, e_and, e_or, e_not, e_ite, e_tup, e_lst, e_newc, e_idx, e_from, e_upto, e_rev, e_call, e_blt, e_mth, e_trng, e_comp, es_nil, es_cons, rs_nil, rs_cons, vs_nil, vs_cons, c_no, c_yes, it_val, it_rng, it_enum, it_zip, c_F, f_F, items_tup, items_lst, rng_i, ok_noX, bind_nm, bind_tp, bind_cons, bind_nil, wipe_nil, wipe_cons, ok_bnd, ok_ret, ok_opt, ok_ask, ok_ite, ok_asB, ok_stk, oko_some, oko_none, oko_map, oko_if, boolO_bl, rd_succ, rd_fz, rd_ow, d_fz, d_ow, ow_succ, ow_zero, List.set_cons_zero, List.set_cons_succ, bin_add, bin_sub, bin_mul, bin_fdiv, bin_mod, bin_pow, add_ii, add_ll, add_tt, sub_ii, mul_ii, fdiv_ii, mod_ii, pow_ii, neg_i, eqD_ii, eqD_bb, cmp_eq, cmp_ne, cmp_lt, cmp_le, cmp_gt, cmp_ge, isc_nn, isc_bb, isc_in, isc_tn, isc_ln, blt_len_scr, blt_len_tup, blt_len_lst, blt_tuple_lst, blt_tuple_tup, blt_list_lst, blt_list_tup, blt_all, blt_any, blt_max2, blt_min2, blt_int_b, blt_int_i, blt_repr, blt_isi, ix_tup, ix_lst, ix_scr, ty_one, ty_non_int, ty_non_bool, ty_non_str, ty_non_tuple, ty_non_list, ty_bl_int, ty_bl_bool, ty_bl_str, ty_bl_tuple, ty_bl_list, ty_int_int, ty_int_bool, ty_int_str, ty_int_tuple, ty_int_list, ty_str_int, ty_str_bool, ty_str_str, ty_str_tuple, ty_str_list, ty_tup_int, ty_tup_bool, ty_tup_str, ty_tup_tuple, ty_tup_list, ty_lst_int, ty_lst_bool, ty_lst_str, ty_lst_tuple, ty_lst_list, decide_eq_true_eq, Bool.not_true, Bool.not_false, if_true, if_false, ite_true, ite_false, Bool.false_eq_true, Bool.true_eq_false, Option.map_some, true_and, and_true, reduceCtorEq, List.length_cons, List.length_nil, q1]
    exact ⟨by omega, fin _ (by rw [List.length_append]; omega) (add_ok (cut1 _ _) (cut1 _ _))⟩
  simp only [ok_newc, upt_tup, upt_lst, frm_tup, frm_lst, rev_tup, rev_lst, trg_i, s_nil, s_ret, s_rtv, s_set, s_unp, s_par, s_app, s_expr, s_frz, cont_nx, cont_ret, fin_ret, fin_nx, frz_nil, frz_two, frz_succ, frz_z, frz_zn, List.getElem?_cons_zero, List.getElem?_cons_succ, setAll_cons, setAll_nil, e_var, e_cst, e_bin, e_neg, e_cmp, e_chn, e_isc, e_and, e_or, e_not, e_ite, e_tup, e_lst, e_newc, e_idx, e_from, e_upto, e_rev, e_call, e_blt, e_mth, e_trng, e_comp, es_nil, es_cons, rs_nil, rs_cons, vs_nil, vs_cons, c_no, c_yes, it_val, it_rng, it_enum, it_zip, c_F, f_F, items_tup, items_lst, rng_i, ok_noX, bind_nm, bind_tp, bind_cons, bind_nil, wipe_nil, wipe_cons, ok_bnd, ok_ret, ok_opt, ok_ask, ok_ite, ok_asB, ok_stk, oko_some, oko_none, oko_map, oko_if, boolO_bl, rd_succ, rd_fz, rd_ow, d_fz, d_ow, ow_succ, ow_zero, List.set_cons_zero, List.set_cons_succ, bin_add, bin_sub, bin_mul, bin_fdiv, bin_mod, bin_pow, add_ii, add_ll, add_tt, sub_ii, mul_ii, fdiv_ii, mod_ii, pow_ii, neg_i, eqD_ii, eqD_bb, cmp_eq, cmp_ne, cmp_lt, cmp_le, cmp_gt, cmp_ge, isc_nn, isc_bb, isc_in, isc_tn, isc_ln, blt_len_scr, blt_len_tup, blt_len_lst, blt_tuple_lst, blt_tuple_tup, blt_list_lst, blt_list_tup, blt_all, blt_any, blt_max2, blt_min2, blt_int_b, blt_int_i, blt_repr, blt_isi, ix_tup, ix_lst, ix_scr, ty_one, ty_non_int, ty_non_bool, ty_non_str, ty_non_tuple, ty_non_list, ty_bl_int, ty_bl_bool, ty_bl_str, ty_bl_tuple, ty_bl_list, ty_int_int, ty_int_bool, ty_int_str, ty_int_tuple, ty_int_list, ty_str_int, ty_str_bool, ty_str_str, ty_str_tuple, ty_str_list, ty_tup_int, ty_tup_bool, ty_tup_str, ty_tup_tuple, ty_tup_list, ty_lst_int, ty_lst_bool, ty_lst_str, ty_lst_tuple, ty_lst_list, decide_eq_true_eq, Bool.not_true, Bool.not_false, if_true, if_false, ite_true, ite_false, Bool.false_eq_true, Bool.true_eq_false, Option.map_some, true_and, and_true, reduceCtorEq, List.length_cons, List.length_nil, q1]
  rw [s_ite]
  simp only [ok_newc, upt_tup, upt_lst, frm_tup, frm_lst, rev_tup, rev_lst, trg_i, s_nil, s_ret, s_rtv, s_set, s_unp, s_par, s_app, s_expr, s_frz, cont_nx, cont_ret, fin_ret, fin_nx, frz_nil, frz_two, frz_succ, frz_z, frz_zn, List.getElem?_cons_zero, List.getElem?_cons_succ, setAll_cons, setAll_nil, e_var, e_cst, e_bin, e_neg, e_cmp, e_chn, e_isc, e_and, e_or, e_not, e_ite, e_tup, e_lst, e_newc, e_idx, e_from, e_upto, e_rev, e_call, e_blt, e_mth, e_trng, e_comp, es_nil, es_cons, rs_nil, rs_cons, vs_nil, vs_cons, c_no, c_yes, it_val, it_rng, it_enum, it_zip, c_F, f_F, items_tup, items_lst, rng_i, ok_noX, bind_nm, bind_tp, bind_cons, bind_nil, wipe_nil, wipe_cons, ok_bnd, ok_ret, ok_opt, ok_ask, ok_ite, ok_asB, ok_stk, oko_some, oko_none, oko_map, oko_if, boolO_bl, rd_succ, rd_fz, rd_ow, d_fz, d_ow, ow_succ, ow_zero, List.set_cons_zero, List.set_cons_succ, bin_add, bin_sub, bin_mul, bin_fdiv, bin_mod, bin_pow, add_ii, add_ll, add_tt, sub_ii, mul_ii, fdiv_ii, mod_ii, pow_ii, neg_i, eqD_ii, eqD_bb, cmp_eq, cmp_ne, cmp_lt, cmp_le, cmp_gt, cmp_ge, isc_nn, isc_bb, isc_in, isc_tn, isc_ln, blt_len_scr, blt_len_tup, blt_len_lst, blt_tuple_lst, blt_tuple_tup, blt_list_lst, blt_list_tup, blt_all, blt_any, blt_max2, blt_min2, blt_int_b, blt_int_i, blt_repr, blt_isi, ix_tup, ix_lst, ix_scr, ty_one, ty_non_int, ty_non_bool, ty_non_str, ty_non_tuple, ty_non_list, ty_bl_int, ty_bl_bool, ty_bl_str, ty_bl_tuple, ty_bl_list, ty_int_int, ty_int_bool, ty_int_str, ty_int_tuple, ty_int_list, ty_str_int, ty_str_bool, ty_str_str, ty_str_tuple, ty_str_list, ty_tup_int, ty_tup_bool, ty_tup_str, ty_tup_tuple, ty_tup_list, ty_lst_int, ty_lst_bool, ty_lst_str, ty_lst_tuple, ty_lst_list, decide_eq_true_eq, Bool.not_true, Bool.not_false, if_true, if_false, ite_true, ite_false, Bool.false_eq_true, Bool.true_eq_false, Option.map_some, true_and, and_true, reduceCtorEq, List.length_cons, List.length_nil]
  by_cases q2 : (tb == 2) = true
  · simp only [ok_newc, upt_tup, upt_lst, frm_tup, frm_lst, rev_tup, rev_lst, trg_i, s_nil, s_ret, s_rtv, s_set, s_unp, s_par, s_app, s_expr, s_frz, cont_nx, cont_ret, fin_ret, fin_nx, frz_nil, frz_two, frz_succ, frz_z, frz_zn, List.getElem?_cons_zero, List.getElem?_cons_succ, setAll_cons, setAll_nil, e_var, e_cst, e_bin, e_neg, e_cmp, e_chn, e_isc, e_and, e_or, e_not, e_ite, e_tup, e_lst, e_newc, e_idx, e_from, e_upto, e_rev, e_call, e_blt, e_mth, e_trng, e_comp, es_nil, es_cons, rs_nil, rs_cons, vs_nil, vs_cons, c_no, c_yes, it_val, it_rng, it_enum, it_zip, c_F, f_F, items_tup, items_lst, rng_i, ok_noX, bind_nm, bind_tp, bind_cons, bind_nil, wipe_nil, wipe_cons, ok_bnd, ok_ret, ok_opt, ok_ask, ok_ite, ok_asB, ok_stk, oko_some, oko_none, oko_map, oko_if, boolO_bl, rd_succ, rd_fz, rd_ow, d_fz, d_ow, ow_succ, ow_zero, List.set_cons_zero, List.set_cons_succ, bin_add, bin_sub, bin_mul, bin_fdiv, bin_mod, bin_pow, add_ii, add_ll, add_tt, sub_ii, mul_ii, fdiv_ii, mod_ii, pow_ii, neg_i, eqD_ii, eqD_bb, cmp_eq, cmp_ne, cmp_lt, cmp_le, cmp_gt, cmp_ge, isc_nn, isc_bb, isc_in, isc_tn, isc_ln, blt_len_scr, blt_len_tup, blt_len_lst, blt_tuple_lst, blt_tuple_tup, blt_list_lst, blt_list_tup, blt_all, blt_any, blt_max2, blt_min2, blt_int_b, blt_int_i, blt_repr, blt_isi, ix_tup, ix_lst, ix_scr, ty_one, ty_non_int, ty_non_bool, ty_non_str, ty_non_tuple, ty_non_list, ty_bl_int, ty_bl_bool, ty_bl_str, ty_bl_tuple, ty_bl_list, ty_int_int, ty_int_bool, ty_int_str, ty_int_tuple, ty_int_list, ty_str_int, ty_str_bool, ty_str_str, ty_str_tuple, ty_str_list, ty_tup_int, ty_tup_bool, ty_tup_str, ty_tup_tuple, ty_tup_list, ty_lst_int, ty_lst_bool, ty_lst_str, ty_lst_tuple, ty_lst_list, decide_eq_true_eq, Bool.not_true, Bool.not_false, if_true, if_false, ite_true, ite_false, Bool.false_eq_true, Bool.true_eq_false, Option.map_some, true_and, and_true, reduceCtorEq, List.length_cons, List.length_nil, q2]
    exact ⟨by omega, fin _ (by rw [List.length_append]; omega) (add_ok (cut1 _ _) (cut1 _ _))⟩
  simp only [ok_newc, upt_tup, upt_lst, frm_tup, frm_lst, rev_tup, rev_lst, trg_i, s_nil, s_ret, s_rtv, s_set, s_unp, s_par, s_app, s_expr, s_frz, cont_nx, cont_ret, fin_ret, fin_nx, frz_nil, frz_two, frz_succ, frz_z, frz_zn, List.getElem?_cons_zero, List.getElem?_cons_succ, setAll_cons, setAll_nil, e_var, e_cst, e_bin, e_neg, e_cmp, e_chn, e_isc, e_and, e_or, e_not, e_ite, e_tup, e_lst, e_newc, e_idx, e_from, e_upto, e_rev, e_call, e_blt, e_mth, e_trng, e_comp, es_nil, es_cons, rs_nil, rs_cons, vs_nil, vs_cons, c_no, c_yes, it_val, it_rng, it_enum, it_zip, c_F, f_F, items_tup, items_lst, rng_i, ok_noX, bind_nm, bind_tp, bind_cons, bind_nil, wipe_nil, wipe_cons, ok_bnd, ok_ret, ok_opt, ok_ask, ok_ite, ok_asB, ok_stk, oko_some, oko_none, oko_map, oko_if, boolO_bl, rd_succ, rd_fz, rd_ow, d_fz, d_ow, ow_succ, ow_zero, List.set_cons_zero, List.set_cons_succ, bin_add, bin_sub, bin_mul, bin_fdiv, bin_mod, bin_pow, add_ii, add_ll, add_tt, sub_ii, mul_ii, fdiv_ii, mod_ii, pow_ii, neg_i, eqD_ii, eqD_bb, cmp_eq, cmp_ne, cmp_lt, cmp_le, cmp_gt, cmp_ge, isc_nn, isc_bb, isc_in, isc_tn, isc_ln, blt_len_scr, blt_len_tup, blt_len_lst, blt_tuple_lst, blt_tuple_tup, blt_list_lst, blt_list_tup, blt_all, blt_any, blt_max2, blt_min2, blt_int_b, blt_int_i, blt_repr, blt_isi, ix_tup, ix_lst, ix_scr, ty_one, ty_non_int, ty_non_bool, ty_non_str, ty_non_tuple, ty_non_list, ty_bl_int, ty_bl_bool, ty_bl_str, ty_bl_tuple, ty_bl_list, ty_int_int, ty_int_bool, ty_int_str, ty_int_tuple, ty_int_list, ty_str_int, ty_str_bool, ty_str_str, ty_str_tuple, ty_str_list, ty_tup_int, ty_tup_bool, ty_tup_str, ty_tup_tuple, ty_tup_list, ty_lst_int, ty_lst_bool, ty_lst_str, ty_lst_tuple, ty_lst_list, decide_eq_true_eq, Bool.not_true, Bool.not_false, if_true, if_false, ite_true, ite_false, Bool.false_eq_true, Bool.true_eq_false, Option.map_some, true_and, and_true, reduceCtorEq, List.length_cons, List.length_nil, q2]
  rw [s_ite]
  simp only [ok_newc, upt_tup, upt_lst, frm_tup, frm_lst, rev_tup, rev_lst, trg_i, s_nil, s_ret, s_rtv, s_set, s_unp, s_par, s_app, s_expr, s_frz, cont_nx, cont_ret, fin_ret, fin_nx, frz_nil, frz_two, frz_succ, frz_z, frz_zn, List.getElem?_cons_zero, List.getElem?_cons_succ, setAll_cons, setAll_nil, e_var, e_cst, e_bin, e_neg, e_cmp, e_chn, e_isc, e_and, e_or, e_not, e_ite, e_tup, e_lst, e_newc, e_idx, e_from, e_upto, e_rev, e_call, e_blt, e_mth, e_trng, e_comp, es_nil, es_cons, rs_nil, rs_cons, vs_nil, vs_cons, c_no, c_yes, it_val, it_rng, it_enum, it_zip, c_F, f_F, items_tup, items_lst, rng_i, ok_noX, bind_nm, bind_tp, bind_cons, bind_nil, wipe_nil, wipe_cons, ok_bnd, ok_ret, ok_opt, ok_ask, ok_ite, ok_asB, ok_stk, oko_some, oko_none, oko_map, oko_if, boolO_bl, rd_succ, rd_fz, rd_ow, d_fz, d_ow, ow_succ, ow_zero, List.set_cons_zero, List.set_cons_succ, bin_add, bin_sub, bin_mul, bin_fdiv, bin_mod, bin_pow, add_ii, add_ll, add_tt, sub_ii, mul_ii, fdiv_ii, mod_ii, pow_ii, neg_i, eqD_ii, eqD_bb, cmp_eq, cmp_ne, cmp_lt, cmp_le, cmp_gt, cmp_ge, isc_nn, isc_bb, isc_in, isc_tn, isc_ln, blt_len_scr, blt_len_tup, blt_len_lst, blt_tuple_lst, blt_tuple_tup, blt_list_lst, blt_list_tup, blt_all, blt_any, blt_max2, blt_min2, blt_int_b, blt_int_i, blt_repr, blt_isi, ix_tup, ix_lst, ix_scr, ty_one, ty_non_int, ty_non_bool, ty_non_str, ty_non_tuple, ty_non_list, ty_bl_int, ty_bl_bool, ty_bl_str, ty_bl_tuple, ty_bl_list, ty_int_int, ty_int_bool, ty_int_str, ty_int_tuple, ty_int_list, ty_str_int, ty_str_bool, ty_str_str, ty_str_tuple, ty_str_list, ty_tup_int, ty_tup_bool, ty_tup_str, ty_tup_tuple, ty_tup_list, ty_lst_int, ty_lst_bool, ty_lst_str, ty_lst_tuple, ty_lst_list, decide_eq_true_eq, Bool.not_true, Bool.not_false, if_true, if_false, ite_true, ite_false, Bool.false_eq_true, Bool.true_eq_false, Option.map_some, true_and, and_true, reduceCtorEq, List.length_cons, List.length_nil]
  by_cases q3 : (tb == 3) = true
  · simp only [ok_newc, upt_tup, upt_lst, frm_tup, frm_lst, rev_tup, rev_lst, trg_i, s_nil, s_ret, s_rtv, s_set, s_unp, s_par, s_app, s_expr, s_frz, cont_nx, cont_ret, fin_ret, fin_nx, frz_nil, frz_two, frz_succ, frz_z, frz_zn, List.getElem?_cons_zero, List.getElem?_cons_succ, setAll_cons, setAll_nil, e_var, e_cst, e_bin, e_neg, e_cmp, e_chn, e_isc, e_and, e_or, e_not, e_ite, e_tup, e_lst, e_newc, e_idx, e_from, e_upto, e_rev, e_call, e_blt, e_mth, e_trng, e_comp, es_nil, es_cons, rs_nil, rs_cons, vs_nil, vs_cons, c_no, c_yes, it_val, it_rng, it_enum, it_zip, c_F, f_F, items_tup, items_lst, rng_i, ok_noX, bind_nm, bind_tp, bind_cons, bind_nil, wipe_nil, wipe_cons, ok_bnd, ok_ret, ok_opt, ok_ask, ok_ite, ok_asB, ok_stk, oko_some, oko_none, oko_map, oko_if, boolO_bl, rd_succ, rd_fz, rd_ow, d_fz, d_ow, ow_succ, ow_zero, List.set_cons_zero, List.set_cons_succ, bin_add, bin_sub, bin_mul, bin_fdiv, bin_mod, bin_pow, add_ii, add_ll, add_tt, sub_ii, mul_ii, fdiv_ii, mod_ii, pow_ii, neg_i, eqD_ii, eqD_bb, cmp_eq, cmp_ne, cmp_lt, cmp_le, cmp_gt, cmp_ge, isc_nn, isc_bb, isc_in, isc_tn, isc_ln, blt_len_scr, blt_len_tup, blt_len_lst, blt_tuple_lst, blt_tuple_tup, blt_list_lst, blt_list_tup, blt_all, blt_any, blt_max2, blt_min2, blt_int_b, blt_int_i, blt_repr, blt_isi, ix_tup, ix_lst, ix_scr, ty_one, ty_non_int, ty_non_bool, ty_non_str, ty_non_tuple, ty_non_list, ty_bl_int, ty_bl_bool, ty_bl_str, ty_bl_tuple, ty_bl_list, ty_int_int, ty_int_bool, ty_int_str, ty_int_tuple, ty_int_list, ty_str_int, ty_str_bool, ty_str_str, ty_str_tuple, ty_str_list, ty_tup_int, ty_tup_bool, ty_tup_str, ty_tup_tuple, ty_tup_list, ty_lst_int, ty_lst_bool, ty_lst_str, ty_lst_tuple, ty_lst_list, decide_eq_true_eq, Bool.not_true, Bool.not_false, if_true, if_false, ite_true, ite_false, Bool.false_eq_true, Bool.true_eq_false, Option.map_some, true_and, and_true, reduceCtorEq, List.length_cons, List.length_nil, q3]
    refine odd _ 3 S (by omega) fun z hz => ?_
    simp only [ok_newc, upt_tup, upt_lst, frm_tup, frm_lst, rev_tup, rev_lst, trg_i, s_nil, s_ret, s_rtv, s_set, s_unp, s_par, s_app, s_expr, s_frz, cont_nx, cont_ret, fin_ret, fin_nx, frz_nil, frz_two, frz_succ, frz_z, frz_zn, List.getElem?_cons_zero, List.getElem?_cons_succ, setAll_cons, setAll_nil, e_var, e_cst, e_bin, e_neg, e_cmp, e_chn, e_isc, e_and, e_or, e_not, e_ite, e_tup, e_lst, e_newc, e_idx, e_from, e_upto, e_rev, e_call, e_blt, e_mth, e_trng, e_comp, es_nil, es_cons, rs_nil, rs_cons, vs_nil, vs_cons, c_no, c_yes, it_val, it_rng, it_enum, it_zip, c_F, f_F, items_tup, items_lst, rng_i, ok_noX, bind_nm, bind_tp, bind_cons, bind_nil, wipe_nil, wipe_cons, ok_bnd, ok_ret, ok_opt, ok_ask, ok_ite, ok_asB, ok_stk, oko_some, oko_none, oko_map, oko_if, boolO_bl, rd_succ, rd_fz, rd_ow, d_fz, d_ow, ow_succ, ow_zero, List.set_cons_zero, List.set_cons_succ, bin_add, bin_sub, bin_mul, bin_fdiv, bin_mod, bin_pow, add_ii, add_ll, add_tt, sub_ii, mul_ii, fdiv_ii, mod_ii, pow_ii, neg_i, eqD_ii, eqD_bb, cmp_eq, cmp_ne, cmp_lt, cmp_le, cmp_gt, cmp_ge, isc_nn, isc_bb, isc_in, isc_tn, isc_ln, blt_len_scr, blt_len_tup, blt_len_lst, blt_tuple_lst, blt_tuple_tup, blt_list_lst, blt_list_tup, blt_all, blt_any, blt_max2, blt_min2, blt_int_b, blt_int_i, blt_repr, blt_isi, ix_tup, ix_lst, ix_scr, ty_one, ty_non_int, ty_non_bool, ty_non_str, ty_non_tuple, ty_non_list, ty_bl_int, ty_bl_bool, ty_bl_str, ty_bl_tuple, ty_bl_list, ty_int_int, ty_int_bool, ty_int_str, ty_int_tuple, ty_int_list, ty_str_int, ty_str_bool, ty_str_str, ty_str_tuple, ty_str_list, ty_tup_int, ty_tup_bool, ty_tup_str, ty_tup_tuple, ty_tup_list, ty_lst_int, ty_lst_bool, ty_lst_str, ty_lst_tuple, ty_lst_list, decide_eq_true_eq, Bool.not_true, Bool.not_false, if_true, if_false, ite_true, ite_false, Bool.false_eq_true, Bool.true_eq_false, Option.map_some, true_and, and_true, reduceCtorEq, List.length_cons, List.length_nil]
    refine ⟨by decide, by omega, ?_⟩
    rw [List.length_append]
    exact ⟨by show _ + (0 + 1) + _ ≤ _; omega, fin _ (by rw [List.length_append, List.length_append]; show _ + (0 + 1) + _ ≤ _; omega) (add_ok (add_ok (cut1 _ _) fun y hy => by rw [List.mem_singleton] at hy; rw [hy]; exact hz) (cut1 _ _))⟩
  simp only [ok_newc, upt_tup, upt_lst, frm_tup, frm_lst, rev_tup, rev_lst, trg_i, s_nil, s_ret, s_rtv, s_set, s_unp, s_par, s_app, s_expr, s_frz, cont_nx, cont_ret, fin_ret, fin_nx, frz_nil, frz_two, frz_succ, frz_z, frz_zn, List.getElem?_cons_zero, List.getElem?_cons_succ, setAll_cons, setAll_nil, e_var, e_cst, e_bin, e_neg, e_cmp, e_chn, e_isc, e_and, e_or, e_not, e_ite, e_tup, e_lst, e_newc, e_idx, e_from, e_upto, e_rev, e_call, e_blt, e_mth, e_trng, e_comp, es_nil, es_cons, rs_nil, rs_cons, vs_nil, vs_cons, c_no, c_yes, it_val, it_rng, it_enum, it_zip, c_F, f_F, items_tup, items_lst, rng_i, ok_noX, bind_nm, bind_tp, bind_cons, bind_nil, wipe_nil, wipe_cons, ok_bnd, ok_ret, ok_opt, ok_ask, ok_ite, ok_asB, ok_stk, oko_some, oko_none, oko_map, oko_if, boolO_bl, rd_succ, rd_fz, rd_ow, d_fz, d_ow, ow_succ, ow_zero, List.set_cons_zero, List.set_cons_succ, bin_add, bin_sub, bin_mul, bin_fdiv, bin_mod, bin_pow, add_ii, add_ll, add_tt, sub_ii, mul_ii, fdiv_ii, mod_ii, pow_ii, neg_i, eqD_ii, eqD_bb, cmp_eq, cmp_ne, cmp_lt, cmp_le, cmp_gt, cmp_ge, isc_nn, isc_bb, isc_in, isc_tn, isc_ln, blt_len_scr, blt_len_tup, blt_len_lst, blt_tuple_lst, blt_tuple_tup, blt_list_lst, blt_list_tup, blt_all, blt_any, blt_max2, blt_min2, blt_int_b, blt_int_i, blt_repr, blt_isi, ix_tup, ix_lst, ix_scr, ty_one, ty_non_int, ty_non_bool, ty_non_str, ty_non_tuple, ty_non_list, ty_bl_int, ty_bl_bool, ty_bl_str, ty_bl_tuple, ty_bl_list, ty_int_int, ty_int_bool, ty_int_str, ty_int_tuple, ty_int_list, ty_str_int, ty_str_bool, ty_str_str, ty_str_tuple, ty_str_list, ty_tup_int, ty_tup_bool, ty_tup_str, ty_tup_tuple, ty_tup_list, ty_lst_int, ty_lst_bool, ty_lst_str, ty_lst_tuple, ty_lst_list, decide_eq_true_eq, Bool.not_true, Bool.not_false, if_true, if_false, ite_true, ite_false, Bool.false_eq_true, Bool.true_eq_false, Option.map_some, true_and, and_true, reduceCtorEq, List.length_cons, List.length_nil, q3]
  rw [s_ite]
  simp only [ok_newc, upt_tup, upt_lst, frm_tup, frm_lst, rev_tup, rev_lst, trg_i, s_nil, s_ret, s_rtv, s_set, s_unp, s_par, s_app, s_expr, s_frz, cont_nx, cont_ret, fin_ret, fin_nx, frz_nil, frz_two, frz_succ, frz_z, frz_zn, List.getElem?_cons_zero, List.getElem?_cons_succ, setAll_cons, setAll_nil, e_var, e_cst, e_bin, e_neg, e_cmp, e_chn, e_isc, e_and, e_or, e_not, e_ite, e_tup, e_lst, e_newc, e_idx, e_from, e_upto, e_rev, e_call, e_blt, e_mth, e_trng, e_comp, es_nil, es_cons, rs_nil, rs_cons, vs_nil, vs_cons, c_no, c_yes, it_val, it_rng, it_enum, it_zip, c_F, f_F, items_tup, items_lst, rng_i, ok_noX, bind_nm, bind_tp, bind_cons, bind_nil, wipe_nil, wipe_cons, ok_bnd, ok_ret, ok_opt, ok_ask, ok_ite, ok_asB, ok_stk, oko_some, oko_none, oko_map, oko_if, boolO_bl, rd_succ, rd_fz, rd_ow, d_fz, d_ow, ow_succ, ow_zero, List.set_cons_zero, List.set_cons_succ, bin_add, bin_sub, bin_mul, bin_fdiv, bin_mod, bin_pow, add_ii, add_ll, add_tt, sub_ii, mul_ii, fdiv_ii, mod_ii, pow_ii, neg_i, eqD_ii, eqD_bb, cmp_eq, cmp_ne, cmp_lt, cmp_le, cmp_gt, cmp_ge, isc_nn, isc_bb, isc_in, isc_tn, isc_ln, blt_len_scr, blt_len_tup, blt_len_lst, blt_tuple_lst, blt_tuple_tup, blt_list_lst, blt_list_tup, blt_all, blt_any, blt_max2, blt_min2, blt_int_b, blt_int_i, blt_repr, blt_isi, ix_tup, ix_lst, ix_scr, ty_one, ty_non_int, ty_non_bool, ty_non_str, ty_non_tuple, ty_non_list, ty_bl_int, ty_bl_bool, ty_bl_str, ty_bl_tuple, ty_bl_list, ty_int_int, ty_int_bool, ty_int_str, ty_int_tuple, ty_int_list, ty_str_int, ty_str_bool, ty_str_str, ty_str_tuple, ty_str_list, ty_tup_int, ty_tup_bool, ty_tup_str, ty_tup_tuple, ty_tup_list, ty_lst_int, ty_lst_bool, ty_lst_str, ty_lst_tuple, ty_lst_list, decide_eq_true_eq, Bool.not_true, Bool.not_false, if_true, if_false, ite_true, ite_false, Bool.false_eq_true, Bool.true_eq_false, Option.map_some, true_and, and_true, reduceCtorEq, List.length_cons, List.length_nil]
  by_cases q4 : (4 : Int) < tb
  · simp only [ok_newc, upt_tup, upt_lst, frm_tup, frm_lst, rev_tup, rev_lst, trg_i, s_nil, s_ret, s_rtv, s_set, s_unp, s_par, s_app, s_expr, s_frz, cont_nx, cont_ret, fin_ret, fin_nx, frz_nil, frz_two, frz_succ, frz_z, frz_zn, List.getElem?_cons_zero, List.getElem?_cons_succ, setAll_cons, setAll_nil, e_var, e_cst, e_bin, e_neg, e_cmp, e_chn, e_isc, e_and, e_or, e_not, e_ite, e_tup, e_lst, e_newc, e_idx, e_from, e_upto, e_rev, e_call, e_blt, e_mth, e_trng, e_comp, es_nil, es_cons, rs_nil, rs_cons, vs_nil, vs_cons, c_no, c_yes, it_val, it_rng, it_enum, it_zip, c_F, f_F, items_tup, items_lst, rng_i, ok_noX, bind_nm, bind_tp, bind_cons, bind_nil, wipe_nil, wipe_cons, ok_bnd, ok_ret, ok_opt, ok_ask, ok_ite, ok_asB, ok_stk, oko_some, oko_none, oko_map, oko_if, boolO_bl, rd_succ, rd_fz, rd_ow, d_fz, d_ow, ow_succ, ow_zero, List.set_cons_zero, List.set_cons_succ, bin_add, bin_sub, bin_mul, bin_fdiv, bin_mod, bin_pow, add_ii, add_ll, add_tt, sub_ii, mul_ii, fdiv_ii, mod_ii, pow_ii, neg_i, eqD_ii, eqD_bb, cmp_eq, cmp_ne, cmp_lt, cmp_le, cmp_gt, cmp_ge, isc_nn, isc_bb, isc_in, isc_tn, isc_ln, blt_len_scr, blt_len_tup, blt_len_lst, blt_tuple_lst, blt_tuple_tup, blt_list_lst, blt_list_tup, blt_all, blt_any, blt_max2, blt_min2, blt_int_b, blt_int_i, blt_repr, blt_isi, ix_tup, ix_lst, ix_scr, ty_one, ty_non_int, ty_non_bool, ty_non_str, ty_non_tuple, ty_non_list, ty_bl_int, ty_bl_bool, ty_bl_str, ty_bl_tuple, ty_bl_list, ty_int_int, ty_int_bool, ty_int_str, ty_int_tuple, ty_int_list, ty_str_int, ty_str_bool, ty_str_str, ty_str_tuple, ty_str_list, ty_tup_int, ty_tup_bool, ty_tup_str, ty_tup_tuple, ty_tup_list, ty_lst_int, ty_lst_bool, ty_lst_str, ty_lst_tuple, ty_lst_list, decide_eq_true_eq, Bool.not_true, Bool.not_false, if_true, if_false, ite_true, ite_false, Bool.false_eq_true, Bool.true_eq_false, Option.map_some, true_and, and_true, reduceCtorEq, List.length_cons, List.length_nil, q4]
    rw [s_stx]
    simp only [ok_newc, upt_tup, upt_lst, frm_tup, frm_lst, rev_tup, rev_lst, trg_i, s_nil, s_ret, s_rtv, s_set, s_unp, s_par, s_app, s_expr, s_frz, cont_nx, cont_ret, fin_ret, fin_nx, frz_nil, frz_two, frz_succ, frz_z, frz_zn, List.getElem?_cons_zero, List.getElem?_cons_succ, setAll_cons, setAll_nil, e_var, e_cst, e_bin, e_neg, e_cmp, e_chn, e_isc, e_and, e_or, e_not, e_ite, e_tup, e_lst, e_newc, e_idx, e_from, e_upto, e_rev, e_call, e_blt, e_mth, e_trng, e_comp, es_nil, es_cons, rs_nil, rs_cons, vs_nil, vs_cons, c_no, c_yes, it_val, it_rng, it_enum, it_zip, c_F, f_F, items_tup, items_lst, rng_i, ok_noX, bind_nm, bind_tp, bind_cons, bind_nil, wipe_nil, wipe_cons, ok_bnd, ok_ret, ok_opt, ok_ask, ok_ite, ok_asB, ok_stk, oko_some, oko_none, oko_map, oko_if, boolO_bl, rd_succ, rd_fz, rd_ow, d_fz, d_ow, ow_succ, ow_zero, List.set_cons_zero, List.set_cons_succ, bin_add, bin_sub, bin_mul, bin_fdiv, bin_mod, bin_pow, add_ii, add_ll, add_tt, sub_ii, mul_ii, fdiv_ii, mod_ii, pow_ii, neg_i, eqD_ii, eqD_bb, cmp_eq, cmp_ne, cmp_lt, cmp_le, cmp_gt, cmp_ge, isc_nn, isc_bb, isc_in, isc_tn, isc_ln, blt_len_scr, blt_len_tup, blt_len_lst, blt_tuple_lst, blt_tuple_tup, blt_list_lst, blt_list_tup, blt_all, blt_any, blt_max2, blt_min2, blt_int_b, blt_int_i, blt_repr, blt_isi, ix_tup, ix_lst, ix_scr, ty_one, ty_non_int, ty_non_bool, ty_non_str, ty_non_tuple, ty_non_list, ty_bl_int, ty_bl_bool, ty_bl_str, ty_bl_tuple, ty_bl_list, ty_int_int, ty_int_bool, ty_int_str, ty_int_tuple, ty_int_list, ty_str_int, ty_str_bool, ty_str_str, ty_str_tuple, ty_str_list, ty_tup_int, ty_tup_bool, ty_tup_str, ty_tup_tuple, ty_tup_list, ty_lst_int, ty_lst_bool, ty_lst_str, ty_lst_tuple, ty_lst_list, decide_eq_true_eq, Bool.not_true, Bool.not_false, if_true, if_false, ite_true, ite_false, Bool.false_eq_true, Bool.true_eq_false, Option.map_some, true_and, and_true, reduceCtorEq, List.length_cons, List.length_nil]
    refine at_lt ha.1 ha.2 fun z hz => ?_
    have e4 : cutD (ps.map D.int) (some 4) none = (ps.drop 4).map D.int := cut_from (k := 4) (by omega)
    rw [e4]
    refine (rec h9 z S (x5 z hz)).mono ?_
    rintro r S' ⟨rfl, hr⟩
    refine ok_of (st_ow (xs := xs) rfl (ixN_of ha.1 ha.2)) ?_
    simp only [ok_newc, upt_tup, upt_lst, frm_tup, frm_lst, rev_tup, rev_lst, trg_i, s_nil, s_ret, s_rtv, s_set, s_unp, s_par, s_app, s_expr, s_frz, cont_nx, cont_ret, fin_ret, fin_nx, frz_nil, frz_two, frz_succ, frz_z, frz_zn, List.getElem?_cons_zero, List.getElem?_cons_succ, setAll_cons, setAll_nil, e_var, e_cst, e_bin, e_neg, e_cmp, e_chn, e_isc, e_and, e_or, e_not, e_ite, e_tup, e_lst, e_newc, e_idx, e_from, e_upto, e_rev, e_call, e_blt, e_mth, e_trng, e_comp, es_nil, es_cons, rs_nil, rs_cons, vs_nil, vs_cons, c_no, c_yes, it_val, it_rng, it_enum, it_zip, c_F, f_F, items_tup, items_lst, rng_i, ok_noX, bind_nm, bind_tp, bind_cons, bind_nil, wipe_nil, wipe_cons, ok_bnd, ok_ret, ok_opt, ok_ask, ok_ite, ok_asB, ok_stk, oko_some, oko_none, oko_map, oko_if, boolO_bl, rd_succ, rd_fz, rd_ow, d_fz, d_ow, ow_succ, ow_zero, List.set_cons_zero, List.set_cons_succ, bin_add, bin_sub, bin_mul, bin_fdiv, bin_mod, bin_pow, add_ii, add_ll, add_tt, sub_ii, mul_ii, fdiv_ii, mod_ii, pow_ii, neg_i, eqD_ii, eqD_bb, cmp_eq, cmp_ne, cmp_lt, cmp_le, cmp_gt, cmp_ge, isc_nn, isc_bb, isc_in, isc_tn, isc_ln, blt_len_scr, blt_len_tup, blt_len_lst, blt_tuple_lst, blt_tuple_tup, blt_list_lst, blt_list_tup, blt_all, blt_any, blt_max2, blt_min2, blt_int_b, blt_int_i, blt_repr, blt_isi, ix_tup, ix_lst, ix_scr, ty_one, ty_non_int, ty_non_bool, ty_non_str, ty_non_tuple, ty_non_list, ty_bl_int, ty_bl_bool, ty_bl_str, ty_bl_tuple, ty_bl_list, ty_int_int, ty_int_bool, ty_int_str, ty_int_tuple, ty_int_list, ty_str_int, ty_str_bool, ty_str_str, ty_str_tuple, ty_str_list, ty_tup_int, ty_tup_bool, ty_tup_str, ty_tup_tuple, ty_tup_list, ty_lst_int, ty_lst_bool, ty_lst_str, ty_lst_tuple, ty_lst_list, decide_eq_true_eq, Bool.not_true, Bool.not_false, if_true, if_false, ite_true, ite_false, Bool.false_eq_true, Bool.true_eq_false, Option.map_some, true_and, and_true, reduceCtorEq, List.length_cons, List.length_nil]
    refine fin _ (by rw [List.length_set]; omega) fun y hy => ?_
    rcases List.mem_or_eq_of_mem_set hy with hy | hy
    · exact x5' y hy
    · rw [hy]
      exact hr
  · simp only [ok_newc, upt_tup, upt_lst, frm_tup, frm_lst, rev_tup, rev_lst, trg_i, s_nil, s_ret, s_rtv, s_set, s_unp, s_par, s_app, s_expr, s_frz, cont_nx, cont_ret, fin_ret, fin_nx, frz_nil, frz_two, frz_succ, frz_z, frz_zn, List.getElem?_cons_zero, List.getElem?_cons_succ, setAll_cons, setAll_nil, e_var, e_cst, e_bin, e_neg, e_cmp, e_chn, e_isc, e_and, e_or, e_not, e_ite, e_tup, e_lst, e_newc, e_idx, e_from, e_upto, e_rev, e_call, e_blt, e_mth, e_trng, e_comp, es_nil, es_cons, rs_nil, rs_cons, vs_nil, vs_cons, c_no, c_yes, it_val, it_rng, it_enum, it_zip, c_F, f_F, items_tup, items_lst, rng_i, ok_noX, bind_nm, bind_tp, bind_cons, bind_nil, wipe_nil, wipe_cons, ok_bnd, ok_ret, ok_opt, ok_ask, ok_ite, ok_asB, ok_stk, oko_some, oko_none, oko_map, oko_if, boolO_bl, rd_succ, rd_fz, rd_ow, d_fz, d_ow, ow_succ, ow_zero, List.set_cons_zero, List.set_cons_succ, bin_add, bin_sub, bin_mul, bin_fdiv, bin_mod, bin_pow, add_ii, add_ll, add_tt, sub_ii, mul_ii, fdiv_ii, mod_ii, pow_ii, neg_i, eqD_ii, eqD_bb, cmp_eq, cmp_ne, cmp_lt, cmp_le, cmp_gt, cmp_ge, isc_nn, isc_bb, isc_in, isc_tn, isc_ln, blt_len_scr, blt_len_tup, blt_len_lst, blt_tuple_lst, blt_tuple_tup, blt_list_lst, blt_list_tup, blt_all, blt_any, blt_max2, blt_min2, blt_int_b, blt_int_i, blt_repr, blt_isi, ix_tup, ix_lst, ix_scr, ty_one, ty_non_int, ty_non_bool, ty_non_str, ty_non_tuple, ty_non_list, ty_bl_int, ty_bl_bool, ty_bl_str, ty_bl_tuple, ty_bl_list, ty_int_int, ty_int_bool, ty_int_str, ty_int_tuple, ty_int_list, ty_str_int, ty_str_bool, ty_str_str, ty_str_tuple, ty_str_list, ty_tup_int, ty_tup_bool, ty_tup_str, ty_tup_tuple, ty_tup_list, ty_lst_int, ty_lst_bool, ty_lst_str, ty_lst_tuple, ty_lst_list, decide_eq_true_eq, Bool.not_true, Bool.not_false, if_true, if_false, ite_true, ite_false, Bool.false_eq_true, Bool.true_eq_false, Option.map_some, true_and, and_true, reduceCtorEq, List.length_cons, List.length_nil, q4]
    exact fin xs (by omega) x5'
/-- a thing spoilt is plain still -/
theorem sp_spoilt {od sl : Nat} (hs : P sl = some (d__law_spoilt (c__law_odd := od) (c__law_spoilt := sl))) (ho : P od = some d__law_odd) (hm : 20 ≤ m) (hm2 : m ≤ 100000) : ∀ (k : Nat) (ps : List Int) (d : D) (S : Store), 3 ≤ ps.length → ps.length ≤ 4 * k + 8 → D.ok m d = true →
    Ok (run P (n + k + 1 + 1) sl [d, .lst (ps.map D.int)] S) fun r S' => S' = S ∧ D.ok (m + 1) r.d = true
  | 0, ps, d, S, h3, h8, hd => spoilt_step hs ho hm hm2 h3 hd fun h9 => by omega
  | k + 1, ps, d, S, h3, h8, hd => spoilt_step hs ho hm hm2 h3 hd fun h9 d' S' hd' => sp_spoilt hs ho hm hm2 k (ps.drop 4) d' S' (by rw [List.length_drop]; omega) (by rw [List.length_drop]; omega) hd'
end
end Mini
namespace K01
open PySem PySem.Spec PyProof.Rows L2 Mini
def top (i : Nat) : Stmt := PySem.Challenge.pw_keeperworth_k01_kinds_known.main.body.getD i (.Pass ⟨0, 0, 0, 0⟩)
def f1 : FDef := d_is_within
def f2 : FDef := d_is_map 1
def f3 : FDef := d_is_way 2 1
def f4 : FDef := d_is_mood 3
def f5 : FDef := d_is_kind 4
def f7 : FDef := d__law_cell_at
def f8 : FDef := d__law_draws
def f9 : FDef := d__law_spoilt 14 9
def f10 : FDef := d__law_from
def f11 : FDef := d__law_bag 8 7
def f12 : FDef := d__law_bags 11
def f13 : FDef := d__law_take
def f14 : FDef := d__law_odd
def f15 : FDef := d__law_tree
def f16 : FDef := d__law_shelf
def f17 : FDef := d__law_told_kinds 16 15
def f18 : FDef := d__law_a_kind 13 17
def f19 : FDef := d__law_is_way 10
def f20 : FDef := d__law_is_kind 19
def d_law (c_is_kind : Nat) (c__law_told_kinds : Nat) (c__law_bags : Nat) (c__law_odd : Nat) (c__law_is_kind : Nat) (c__law_tree : Nat) (c__law_spoilt : Nat) (c__law_a_kind : Nat) : FDef := ⟨["script", "bag", "kind", "once", "things", "way", "odds", "odd", "thing"], 1, (.cons (.for_ (.nm 1) (.val (.call c__law_bags (.cons (.var 0) (.cons (.cst (.int 10)) .nil)))) (.cons (.set 2 (.call c__law_a_kind (.cons (.var 1) (.cons (.cst (.int 6)) .nil)))) (.cons (.set 3 (.call c__law_spoilt (.cons (.var 2) (.cons (.from_ (.idx (.var 1) (.cst (.int 0))) (.bin .mod (.idx (.var 1) (.cst (.int 1))) (.cst (.int 200)))) .nil)))) (.cons (.frz [3] (.set 4 (.lst (.cons (.var 2) (.cons (.var 3) (.cons (.call c__law_spoilt (.cons (.var 3) (.cons (.from_ (.idx (.var 1) (.cst (.int 0))) (.bin .add (.bin .mod (.idx (.var 1) (.cst (.int 1))) (.cst (.int 170))) (.cst (.int 10)))) .nil))) (.cons (.blt .list (.cons (.var 2) .nil)) .nil))))))) (.cons (.set 4 (.bin .add (.var 4) (.lst (.cons (.bin .add (.var 2) (.var 2)) (.cons (.from_ (.var 2) (.cst (.int 1))) (.cons (.rev (.var 2)) .nil)))))) (.cons (.set 5 (.tup (.cons (.cst (.int 0)) (.cons (.cst (.int 0)) (.cons (.tup (.cons (.cst (.int 0)) .nil)) (.cons (.tup (.cons (.cst (.int 0)) .nil)) .nil)))))) (.cons (.set 6 (.lst (.cons (.var 5) (.cons (.tup (.cons (.cst (.int 0)) (.cons (.cst (.int 1)) (.cons (.tup (.cons (.cst (.int 0)) .nil)) (.cons (.tup (.cons (.cst (.int 0)) .nil)) .nil))))) (.cons (.tup (.cons (.cst (.int 0)) (.cons (.cst (.int 0)) (.cons (.tup (.cons (.cst (.int 0)) (.cons (.cst (.int 0)) .nil))) (.cons (.tup (.cons (.cst (.int 0)) .nil)) .nil))))) (.cons (.tup (.cons (.cst (.int 0)) (.cons (.cst (.int 0)) (.cons (.lst (.cons (.cst (.int 0)) .nil)) (.cons (.tup (.cons (.cst (.int 0)) .nil)) .nil))))) (.cons (.tup (.cons (.cst (.int 0)) (.cons (.cst (.int 0)) (.cons (.tup (.cons (.cst (.int 0)) .nil)) .nil)))) .nil))))))) (.cons (.for_ (.nm 7) (.val (.bin .add (.var 6) (.lst (.cons (.tup (.cons (.cst (.bl true)) (.cons (.cst (.int 0)) (.cons (.tup (.cons (.cst (.int 0)) .nil)) (.cons (.tup (.cons (.cst (.int 0)) .nil)) .nil))))) .nil)))) (.cons (.set 4 (.bin .add (.var 4) (.lst (.cons (.tup (.cons (.tup (.cons (.var 7) .nil)) .nil)) (.cons (.tup (.cons (.tup (.cons (.var 5) (.cons (.var 7) .nil))) .nil)) (.cons (.tup (.cons (.var 7) .nil)) .nil)))))) .nil)) (.cons (.set 4 (.bin .add (.var 4) (.lst (.cons (.tup (.cons (.bin .mul (.tup (.cons (.var 5) .nil)) (.cst (.int 3))) .nil)) (.cons (.tup (.cons (.bin .mul (.tup (.cons (.var 5) .nil)) (.cst (.int 4))) .nil)) (.cons (.bin .mul (.tup (.cons (.tup .nil) .nil)) (.cst (.int 6))) (.cons (.bin .mul (.tup (.cons (.tup .nil) .nil)) (.cst (.int 7))) .nil))))))) (.cons (.set 4 (.bin .add (.var 4) (.lst (.cons (.tup (.cons (.cst .non) .nil)) (.cons (.tup (.cons (.lst (.cons (.var 5) .nil)) .nil)) (.cons (.call c__law_tree (.cons (.cst (.int 5)) .nil)) (.cons (.call c__law_tree (.cons (.cst (.int 6)) .nil)) .nil))))))) (.cons (.for_ (.nm 8) (.val (.bin .add (.var 4) (.lst (.cons (.call c__law_odd (.cons (.from_ (.idx (.var 1) (.cst (.int 0))) (.bin .mod (.idx (.var 1) (.cst (.int 1))) (.cst (.int 300)))) .nil)) (.cons (.call c__law_odd (.cons (.from_ (.idx (.var 1) (.cst (.int 0))) (.bin .add (.bin .mod (.idx (.var 1) (.cst (.int 1))) (.cst (.int 250))) (.cst (.int 40)))) .nil)) .nil))))) (.cons (.ite (.cmp .ne (.blt .repr (.cons (.call c_is_kind (.cons (.var 8) .nil)) .nil)) (.blt .repr (.cons (.call c__law_is_kind (.cons (.var 8) .nil)) .nil))) (.cons (.ret (.cst (.bl false))) .nil) .nil) .nil)) .nil))))))))))) (.cons (.for_ (.nm 2) (.val (.call c__law_told_kinds .nil)) (.cons (.ite (.isc true (.call c_is_kind (.cons (.var 2) .nil)) (.bl true)) (.cons (.ret (.cst (.bl false))) .nil) .nil) .nil)) (.cons (.ret (.isc false (.call c_is_kind (.cons (.tup .nil) .nil)) (.bl false))) .nil)))⟩
def f21 : FDef := d_law 5 17 12 14 20 15 9 18
def prog : Nat → Option FDef
  | 1 => some f1
  | 2 => some f2
  | 3 => some f3
  | 4 => some f4
  | 5 => some f5
  | 7 => some f7
  | 8 => some f8
  | 9 => some f9
  | 10 => some f10
  | 11 => some f11
  | 12 => some f12
  | 13 => some f13
  | 14 => some f14
  | 15 => some f15
  | 16 => some f16
  | 17 => some f17
  | 18 => some f18
  | 19 => some f19
  | 20 => some f20
  | 21 => some f21
  | _ => none
def tc : TC := ⟨[("is_within", 1), ("is_map", 2), ("is_way", 3), ("is_mood", 4), ("is_kind", 5), ("_law_cell_at", 7), ("_law_draws", 8), ("_law_spoilt", 9), ("_law_from", 10), ("_law_bag", 11), ("_law_bags", 12), ("_law_take", 13), ("_law_odd", 14), ("_law_tree", 15), ("_law_shelf", 16), ("_law_told_kinds", 17), ("_law_a_kind", 18), ("_law_is_way", 19), ("_law_is_kind", 20), ("law", 21)], ["all", "bool", "int", "isinstance", "len", "list", "max", "min", "range", "repr", "tuple"]⟩
theorem ck1 : dC tc f1 (top 1) = true := by decide +kernel
theorem ck2 : dC tc f2 (top 2) = true := by decide +kernel
theorem ck3 : dC tc f3 (top 3) = true := by decide +kernel
theorem ck4 : dC tc f4 (top 4) = true := by decide +kernel
theorem ck5 : dC tc f5 (top 5) = true := by decide +kernel
theorem ck7 : dC tc f7 (top 7) = true := by decide +kernel
theorem ck8 : dC tc f8 (top 8) = true := by decide +kernel
theorem ck9 : dC tc f9 (top 9) = true := by decide +kernel
theorem ck10 : dC tc f10 (top 10) = true := by decide +kernel
theorem ck11 : dC tc f11 (top 11) = true := by decide +kernel
theorem ck12 : dC tc f12 (top 12) = true := by decide +kernel
theorem ck13 : dC tc f13 (top 13) = true := by decide +kernel
theorem ck14 : dC tc f14 (top 14) = true := by decide +kernel
theorem ck15 : dC tc f15 (top 15) = true := by decide +kernel
theorem ck16 : dC tc f16 (top 16) = true := by decide +kernel
theorem ck17 : dC tc f17 (top 17) = true := by decide +kernel
theorem ck18 : dC tc f18 (top 18) = true := by decide +kernel
theorem ck19 : dC tc f19 (top 19) = true := by decide +kernel
theorem ck20 : dC tc f20 (top 20) = true := by decide +kernel
theorem ck21 : dC tc f21 (top 21) = true := by decide +kernel
theorem bd1 : BindsC "is_within" (top 1) (f1.N.take f1.ar) := fun _ _ _ _ _ _ us hl => match us, hl with | [_, _, _], _ => rfl
theorem bd2 : BindsC "is_map" (top 2) (f2.N.take f2.ar) := fun _ _ _ _ _ _ us hl => match us, hl with | [_, _], _ => rfl
theorem bd3 : BindsC "is_way" (top 3) (f3.N.take f3.ar) := fun _ _ _ _ _ _ us hl => match us, hl with | [_, _], _ => rfl
theorem bd4 : BindsC "is_mood" (top 4) (f4.N.take f4.ar) := fun _ _ _ _ _ _ us hl => match us, hl with | [_, _], _ => rfl
theorem bd5 : BindsC "is_kind" (top 5) (f5.N.take f5.ar) := fun _ _ _ _ _ _ us hl => match us, hl with | [_], _ => rfl
theorem bd7 : BindsC "_law_cell_at" (top 7) (f7.N.take f7.ar) := fun _ _ _ _ _ _ us hl => match us, hl with | [_, _], _ => rfl
theorem bd8 : BindsC "_law_draws" (top 8) (f8.N.take f8.ar) := fun _ _ _ _ _ _ us hl => match us, hl with | [_, _, _], _ => rfl
theorem bd9 : BindsC "_law_spoilt" (top 9) (f9.N.take f9.ar) := fun _ _ _ _ _ _ us hl => match us, hl with | [_, _], _ => rfl
theorem bd10 : BindsC "_law_from" (top 10) (f10.N.take f10.ar) := fun _ _ _ _ _ _ us hl => match us, hl with | [_, _, _], _ => rfl
theorem bd11 : BindsC "_law_bag" (top 11) (f11.N.take f11.ar) := fun _ _ _ _ _ _ us hl => match us, hl with | [_, _], _ => rfl
theorem bd12 : BindsC "_law_bags" (top 12) (f12.N.take f12.ar) := fun _ _ _ _ _ _ us hl => match us, hl with | [_, _], _ => rfl
theorem bd13 : BindsC "_law_take" (top 13) (f13.N.take f13.ar) := fun _ _ _ _ _ _ us hl => match us, hl with | [_, _], _ => rfl
theorem bd14 : BindsC "_law_odd" (top 14) (f14.N.take f14.ar) := fun _ _ _ _ _ _ us hl => match us, hl with | [_], _ => rfl
theorem bd15 : BindsC "_law_tree" (top 15) (f15.N.take f15.ar) := fun _ _ _ _ _ _ us hl => match us, hl with | [_], _ => rfl
theorem bd16 : BindsC "_law_shelf" (top 16) (f16.N.take f16.ar) := fun _ _ _ _ _ _ us hl => match us, hl with | [_], _ => rfl
theorem bd17 : BindsC "_law_told_kinds" (top 17) (f17.N.take f17.ar) := fun _ _ _ _ _ _ us hl => match us, hl with | [], _ => rfl
theorem bd18 : BindsC "_law_a_kind" (top 18) (f18.N.take f18.ar) := fun _ _ _ _ _ _ us hl => match us, hl with | [_, _], _ => rfl
theorem bd19 : BindsC "_law_is_way" (top 19) (f19.N.take f19.ar) := fun _ _ _ _ _ _ us hl => match us, hl with | [_, _], _ => rfl
theorem bd20 : BindsC "_law_is_kind" (top 20) (f20.N.take f20.ar) := fun _ _ _ _ _ _ us hl => match us, hl with | [_], _ => rfl
theorem bd21 : BindsC "law" (top 21) (f21.N.take f21.ar) := fun _ _ _ _ _ _ us hl => match us, hl with | [_], _ => rfl
theorem ck : ∀ p ∈ tc.fns, ∃ fd, prog p.2 = some fd ∧ dC tc fd (top p.2) = true ∧ BindsC p.1 (top p.2) (fd.N.take fd.ar) :=
  all_cons ⟨f1, rfl, ck1, bd1⟩ (all_cons ⟨f2, rfl, ck2, bd2⟩ (all_cons ⟨f3, rfl, ck3, bd3⟩ (all_cons ⟨f4, rfl, ck4, bd4⟩ (all_cons ⟨f5, rfl, ck5, bd5⟩ (all_cons ⟨f7, rfl, ck7, bd7⟩ (all_cons ⟨f8, rfl, ck8, bd8⟩ (all_cons ⟨f9, rfl, ck9, bd9⟩ (all_cons ⟨f10, rfl, ck10, bd10⟩ (all_cons ⟨f11, rfl, ck11, bd11⟩ (all_cons ⟨f12, rfl, ck12, bd12⟩ (all_cons ⟨f13, rfl, ck13, bd13⟩ (all_cons ⟨f14, rfl, ck14, bd14⟩ (all_cons ⟨f15, rfl, ck15, bd15⟩ (all_cons ⟨f16, rfl, ck16, bd16⟩ (all_cons ⟨f17, rfl, ck17, bd17⟩ (all_cons ⟨f18, rfl, ck18, bd18⟩ (all_cons ⟨f19, rfl, ck19, bd19⟩ (all_cons ⟨f20, rfl, ck20, bd20⟩ (all_cons ⟨f21, rfl, ck21, bd21⟩ (all_nil))))))))))))))))))))
end K01
namespace K01
open PySem L2 Mini
def lastK : Sms := (.cons (.for_ (.nm 8) (.val (.bin .add (.var 4) (.lst (.cons (.call 14 (.cons (.from_ (.idx (.var 1) (.cst (.int 0))) (.bin .mod (.idx (.var 1) (.cst (.int 1))) (.cst (.int 300)))) .nil)) (.cons (.call 14 (.cons (.from_ (.idx (.var 1) (.cst (.int 0))) (.bin .add (.bin .mod (.idx (.var 1) (.cst (.int 1))) (.cst (.int 250))) (.cst (.int 40)))) .nil)) .nil))))) (.cons (.ite (.cmp .ne (.blt .repr (.cons (.call 5 (.cons (.var 8) .nil)) .nil)) (.blt .repr (.cons (.call 20 (.cons (.var 8) .nil)) .nil))) (.cons (.ret (.cst (.bl false))) .nil) .nil) .nil)) .nil)
def midK : Sms := (.cons (.frz [3] (.set 4 (.lst (.cons (.var 2) (.cons (.var 3) (.cons (.call 9 (.cons (.var 3) (.cons (.from_ (.idx (.var 1) (.cst (.int 0))) (.bin .add (.bin .mod (.idx (.var 1) (.cst (.int 1))) (.cst (.int 170))) (.cst (.int 10)))) .nil))) (.cons (.blt .list (.cons (.var 2) .nil)) .nil))))))) (.cons (.set 4 (.bin .add (.var 4) (.lst (.cons (.bin .add (.var 2) (.var 2)) (.cons (.from_ (.var 2) (.cst (.int 1))) (.cons (.rev (.var 2)) .nil)))))) (.cons (.set 5 (.tup (.cons (.cst (.int 0)) (.cons (.cst (.int 0)) (.cons (.tup (.cons (.cst (.int 0)) .nil)) (.cons (.tup (.cons (.cst (.int 0)) .nil)) .nil)))))) (.cons (.set 6 (.lst (.cons (.var 5) (.cons (.tup (.cons (.cst (.int 0)) (.cons (.cst (.int 1)) (.cons (.tup (.cons (.cst (.int 0)) .nil)) (.cons (.tup (.cons (.cst (.int 0)) .nil)) .nil))))) (.cons (.tup (.cons (.cst (.int 0)) (.cons (.cst (.int 0)) (.cons (.tup (.cons (.cst (.int 0)) (.cons (.cst (.int 0)) .nil))) (.cons (.tup (.cons (.cst (.int 0)) .nil)) .nil))))) (.cons (.tup (.cons (.cst (.int 0)) (.cons (.cst (.int 0)) (.cons (.lst (.cons (.cst (.int 0)) .nil)) (.cons (.tup (.cons (.cst (.int 0)) .nil)) .nil))))) (.cons (.tup (.cons (.cst (.int 0)) (.cons (.cst (.int 0)) (.cons (.tup (.cons (.cst (.int 0)) .nil)) .nil)))) .nil))))))) (.cons (.for_ (.nm 7) (.val (.bin .add (.var 6) (.lst (.cons (.tup (.cons (.cst (.bl true)) (.cons (.cst (.int 0)) (.cons (.tup (.cons (.cst (.int 0)) .nil)) (.cons (.tup (.cons (.cst (.int 0)) .nil)) .nil))))) .nil)))) (.cons (.set 4 (.bin .add (.var 4) (.lst (.cons (.tup (.cons (.tup (.cons (.var 7) .nil)) .nil)) (.cons (.tup (.cons (.tup (.cons (.var 5) (.cons (.var 7) .nil))) .nil)) (.cons (.tup (.cons (.var 7) .nil)) .nil)))))) .nil)) (.cons (.set 4 (.bin .add (.var 4) (.lst (.cons (.tup (.cons (.bin .mul (.tup (.cons (.var 5) .nil)) (.cst (.int 3))) .nil)) (.cons (.tup (.cons (.bin .mul (.tup (.cons (.var 5) .nil)) (.cst (.int 4))) .nil)) (.cons (.bin .mul (.tup (.cons (.tup .nil) .nil)) (.cst (.int 6))) (.cons (.bin .mul (.tup (.cons (.tup .nil) .nil)) (.cst (.int 7))) .nil))))))) (.cons (.set 4 (.bin .add (.var 4) (.lst (.cons (.tup (.cons (.cst .non) .nil)) (.cons (.tup (.cons (.lst (.cons (.var 5) .nil)) .nil)) (.cons (.call 15 (.cons (.cst (.int 5)) .nil)) (.cons (.call 15 (.cons (.cst (.int 6)) .nil)) .nil))))))) lastK)))))))
def tailK : Sms := (.cons (.for_ (.nm 2) (.val (.call 17 .nil)) (.cons (.ite (.isc true (.call 5 (.cons (.var 2) .nil)) (.bl true)) (.cons (.ret (.cst (.bl false))) .nil) .nil) .nil)) (.cons (.ret (.isc false (.call 5 (.cons (.tup .nil) .nil)) (.bl false))) .nil))
theorem law_body : f21.body = .cons (.for_ (.nm 1) (.val (.call 12 (.cons (.var 0) (.cons (.cst (.int 10)) .nil)))) (.cons (.set 2 (.call 18 (.cons (.var 1) (.cons (.cst (.int 6)) .nil)))) (.cons (.set 3 (.call 9 (.cons (.var 2) (.cons (.from_ (.idx (.var 1) (.cst (.int 0))) (.bin .mod (.idx (.var 1) (.cst (.int 1))) (.cst (.int 200)))) .nil)))) midK))) tailK := by kernel_rfl
def told : List D := match run prog 10 17 [] [] with
  | .ok (.ow xs) _ => xs
  | _ => []
theorem told_ok : told.all (fun d => isK d && (match d with | .tup xs => Nat.ble 1 xs.length && Nat.ble xs.length 12 | _ => false) && D.ok 12 d) = true := by decide +kernel
theorem told_len : Nat.ble 1 told.length = true := by decide +kernel
theorem told_run (n : Nat) (S : Store) : run prog (n + 4) 17 [] S = .ok (.ow told) S := by kernel_rfl
def tree (k : Int) : D := match run prog 10 15 [.int k] [] with
  | .ok r _ => r.d
  | _ => .non
theorem tree5_ok : D.ok 20 (tree 5) = true := by decide +kernel
theorem tree6_ok : D.ok 20 (tree 6) = true := by decide +kernel
theorem tree5_run (n : Nat) (S : Store) : run prog (n + 4) 15 [.int 5] S = .ok (.fz (tree 5)) S := by kernel_rfl
theorem tree6_run (n : Nat) (S : Store) : run prog (n + 4) 15 [.int 6] S = .ok (.fz (tree 6)) S := by kernel_rfl
theorem empty_run (n : Nat) (S : Store) : run prog (n + 5) 5 [.tup []] S = .ok (.fz (.bl false)) S := sp_is_kind (m := 0) (g := 4) (y := 3) (w := 1) (wm := 2) rfl rfl rfl rfl rfl rfl (Nat.zero_le _)
end K01
namespace Mini
open PySem L2 K01
theorem rep_eq (b : Bool) : eqD (.str (if b = true then sTrue else sFalse)) (.str (if b = true then sTrue else sFalse)) = some true := by
  cases b <;> kernel_rfl
theorem cut_fromI {ps : List Int} {k : Int} (h0 : 0 ≤ k) (h : k ≤ ps.length) : cutD (ps.map D.int) (some k) none = (ps.drop k.toNat).map D.int := by
  have := cut_from (ps := ps) (k := k.toNat) (by omega)
  rwa [Int.toNat_of_nonneg h0] at this
theorem both (d : D) (h : D.ok 60 d = true) (n : Nat) (S : Store) : run prog (n + 5) 5 [d] S = .ok (.fz (.bl (isK d))) S ∧ run prog (n + 5) 20 [d] S = .ok (.fz (.bl (isK d))) S :=
  ⟨sp_is_kind (m := 60) (g := 4) (y := 3) (w := 1) (wm := 2) rfl rfl rfl rfl rfl h (by decide), sp_law_is_kind (n := n + 2) (m := 60) (g := 19) (w := 10) rfl rfl rfl h (by decide)⟩
theorem odd_at (ps : List Int) (S : Store) (h : 2 ≤ ps.length) : Ok (run prog 130 14 [.lst (ps.map D.int)] S) fun r S' => S' = S ∧ ∃ d, r = .fz d ∧ D.ok 20 d = true := sp_odd (P := prog) (f := 14) (n := 129) rfl h
theorem last_ok {things : List D} {b : Nat} {S : Store} {e0 e2 e3 e5 e6 e7 e8 : Option Rv} {R : Fl × Env → Store → Prop} (hl : things.length ≤ 1000) (ht : ∀ x ∈ things, D.ok 60 x = true) (hb : BagOk S b)
    (hR : ∀ e8, R (.nx, [e0, some (.fz (.cell b)), e2, e3, some (.ow things), e5, e6, e7, e8]) S) :
    Ok (execSs (run prog 130) lastK [e0, some (.fz (.cell b)), e2, e3, some (.ow things), e5, e6, e7, e8] S) R := by
  obtain ⟨ms, c, hS, hms⟩ := hb
  have q1 : 0 ≤ c % 300 ∧ c % 300 < 300 := ⟨Int.emod_nonneg _ (by decide), Int.emod_lt_of_pos _ (by decide)⟩
  have q2 : 0 ≤ c % 250 ∧ c % 250 < 250 := ⟨Int.emod_nonneg _ (by decide), Int.emod_lt_of_pos _ (by decide)⟩
  have c1 := cut_fromI (ps := ms) (k := c % 300) q1.1 (by omega)
  have c2 := cut_fromI (ps := ms) (k := c % 250 + 40) (by omega) (by omega)
  unfold lastK
  rw [s_for]
  simp only [ok_newc, upt_tup, upt_lst, frm_tup, frm_lst, rev_tup, rev_lst, trg_i, s_nil, s_ret, s_rtv, s_set, s_unp, s_par, s_app, s_expr, s_frz, cont_nx, cont_ret, fin_ret, fin_nx, frz_nil, frz_two, frz_succ, frz_z, frz_zn, List.getElem?_cons_zero, List.getElem?_cons_succ, setAll_cons, setAll_nil, e_var, e_cst, e_bin, e_neg, e_cmp, e_chn, e_isc, e_and, e_or, e_not, e_ite, e_tup, e_lst, e_newc, e_idx, e_from, e_upto, e_rev, e_call, e_blt, e_mth, e_trng, e_comp, es_nil, es_cons, rs_nil, rs_cons, vs_nil, vs_cons, c_no, c_yes, it_val, it_rng, it_enum, it_zip, c_F, f_F, items_tup, items_lst, rng_i, ok_noX, bind_nm, bind_tp, bind_cons, bind_nil, wipe_nil, wipe_cons, ok_bnd, ok_ret, ok_opt, ok_ask, ok_ite, ok_asB, ok_stk, oko_some, oko_none, oko_map, oko_if, boolO_bl, rd_succ, rd_fz, rd_ow, d_fz, d_ow, ow_succ, ow_zero, List.set_cons_zero, List.set_cons_succ, bin_add, bin_sub, bin_mul, bin_fdiv, bin_mod, bin_pow, add_ii, add_ll, add_tt, sub_ii, mul_ii, fdiv_ii, mod_ii, pow_ii, neg_i, eqD_ii, eqD_bb, cmp_eq, cmp_ne, cmp_lt, cmp_le, cmp_gt, cmp_ge, isc_nn, isc_bb, isc_in, isc_tn, isc_ln, blt_len_scr, blt_len_tup, blt_len_lst, blt_tuple_lst, blt_tuple_tup, blt_list_lst, blt_list_tup, blt_all, blt_any, blt_max2, blt_min2, blt_int_b, blt_int_i, blt_repr, blt_isi, Mini.ix_tup, Mini.ix_lst, Mini.ix_scr, ty_one, ty_non_int, ty_non_bool, ty_non_str, ty_non_tuple, ty_non_list, ty_bl_int, ty_bl_bool, ty_bl_str, ty_bl_tuple, ty_bl_list, ty_int_int, ty_int_bool, ty_int_str, ty_int_tuple, ty_int_list, ty_str_int, ty_str_bool, ty_str_str, ty_str_tuple, ty_str_list, ty_tup_int, ty_tup_bool, ty_tup_str, ty_tup_tuple, ty_tup_list, ty_lst_int, ty_lst_bool, ty_lst_str, ty_lst_tuple, ty_lst_list, decide_eq_true_eq, Bool.not_true, Bool.not_false, if_true, if_false, ite_true, ite_false, Bool.false_eq_true, Bool.true_eq_false, Option.map_some, true_and, and_true, reduceCtorEq, List.length_cons, List.length_nil, ix_cell hS, at2_0, at2_1, c1, c2]
  have o1 := odd_at (ms.drop (c % 300).toNat) S (by rw [List.length_drop]; omega)
  constructor
  · decide
  refine Ok.mono o1 ?_
  rintro r S1 ⟨rfl, d1, rfl, hd1⟩
  simp only [ok_newc, upt_tup, upt_lst, frm_tup, frm_lst, rev_tup, rev_lst, trg_i, s_nil, s_ret, s_rtv, s_set, s_unp, s_par, s_app, s_expr, s_frz, cont_nx, cont_ret, fin_ret, fin_nx, frz_nil, frz_two, frz_succ, frz_z, frz_zn, List.getElem?_cons_zero, List.getElem?_cons_succ, setAll_cons, setAll_nil, e_var, e_cst, e_bin, e_neg, e_cmp, e_chn, e_isc, e_and, e_or, e_not, e_ite, e_tup, e_lst, e_newc, e_idx, e_from, e_upto, e_rev, e_call, e_blt, e_mth, e_trng, e_comp, es_nil, es_cons, rs_nil, rs_cons, vs_nil, vs_cons, c_no, c_yes, it_val, it_rng, it_enum, it_zip, c_F, f_F, items_tup, items_lst, rng_i, ok_noX, bind_nm, bind_tp, bind_cons, bind_nil, wipe_nil, wipe_cons, ok_bnd, ok_ret, ok_opt, ok_ask, ok_ite, ok_asB, ok_stk, oko_some, oko_none, oko_map, oko_if, boolO_bl, rd_succ, rd_fz, rd_ow, d_fz, d_ow, ow_succ, ow_zero, List.set_cons_zero, List.set_cons_succ, bin_add, bin_sub, bin_mul, bin_fdiv, bin_mod, bin_pow, add_ii, add_ll, add_tt, sub_ii, mul_ii, fdiv_ii, mod_ii, pow_ii, neg_i, eqD_ii, eqD_bb, cmp_eq, cmp_ne, cmp_lt, cmp_le, cmp_gt, cmp_ge, isc_nn, isc_bb, isc_in, isc_tn, isc_ln, blt_len_scr, blt_len_tup, blt_len_lst, blt_tuple_lst, blt_tuple_tup, blt_list_lst, blt_list_tup, blt_all, blt_any, blt_max2, blt_min2, blt_int_b, blt_int_i, blt_repr, blt_isi, Mini.ix_tup, Mini.ix_lst, Mini.ix_scr, ty_one, ty_non_int, ty_non_bool, ty_non_str, ty_non_tuple, ty_non_list, ty_bl_int, ty_bl_bool, ty_bl_str, ty_bl_tuple, ty_bl_list, ty_int_int, ty_int_bool, ty_int_str, ty_int_tuple, ty_int_list, ty_str_int, ty_str_bool, ty_str_str, ty_str_tuple, ty_str_list, ty_tup_int, ty_tup_bool, ty_tup_str, ty_tup_tuple, ty_tup_list, ty_lst_int, ty_lst_bool, ty_lst_str, ty_lst_tuple, ty_lst_list, decide_eq_true_eq, Bool.not_true, Bool.not_false, if_true, if_false, ite_true, ite_false, Bool.false_eq_true, Bool.true_eq_false, Option.map_some, true_and, and_true, reduceCtorEq, List.length_cons, List.length_nil, ix_cell hS, at2_0, at2_1, c1, c2]
  have o2 := odd_at (ms.drop (c % 250 + 40).toNat) S1 (by rw [List.length_drop]; omega)
  constructor
  · decide
  refine Ok.mono o2 ?_
  rintro r S2 ⟨rfl, d2, rfl, hd2⟩
  simp only [ok_newc, upt_tup, upt_lst, frm_tup, frm_lst, rev_tup, rev_lst, trg_i, s_nil, s_ret, s_rtv, s_set, s_unp, s_par, s_app, s_expr, s_frz, cont_nx, cont_ret, fin_ret, fin_nx, frz_nil, frz_two, frz_succ, frz_z, frz_zn, List.getElem?_cons_zero, List.getElem?_cons_succ, setAll_cons, setAll_nil, e_var, e_cst, e_bin, e_neg, e_cmp, e_chn, e_isc, e_and, e_or, e_not, e_ite, e_tup, e_lst, e_newc, e_idx, e_from, e_upto, e_rev, e_call, e_blt, e_mth, e_trng, e_comp, es_nil, es_cons, rs_nil, rs_cons, vs_nil, vs_cons, c_no, c_yes, it_val, it_rng, it_enum, it_zip, c_F, f_F, items_tup, items_lst, rng_i, ok_noX, bind_nm, bind_tp, bind_cons, bind_nil, wipe_nil, wipe_cons, ok_bnd, ok_ret, ok_opt, ok_ask, ok_ite, ok_asB, ok_stk, oko_some, oko_none, oko_map, oko_if, boolO_bl, rd_succ, rd_fz, rd_ow, d_fz, d_ow, ow_succ, ow_zero, List.set_cons_zero, List.set_cons_succ, bin_add, bin_sub, bin_mul, bin_fdiv, bin_mod, bin_pow, add_ii, add_ll, add_tt, sub_ii, mul_ii, fdiv_ii, mod_ii, pow_ii, neg_i, eqD_ii, eqD_bb, cmp_eq, cmp_ne, cmp_lt, cmp_le, cmp_gt, cmp_ge, isc_nn, isc_bb, isc_in, isc_tn, isc_ln, blt_len_scr, blt_len_tup, blt_len_lst, blt_tuple_lst, blt_tuple_tup, blt_list_lst, blt_list_tup, blt_all, blt_any, blt_max2, blt_min2, blt_int_b, blt_int_i, blt_repr, blt_isi, Mini.ix_tup, Mini.ix_lst, Mini.ix_scr, ty_one, ty_non_int, ty_non_bool, ty_non_str, ty_non_tuple, ty_non_list, ty_bl_int, ty_bl_bool, ty_bl_str, ty_bl_tuple, ty_bl_list, ty_int_int, ty_int_bool, ty_int_str, ty_int_tuple, ty_int_list, ty_str_int, ty_str_bool, ty_str_str, ty_str_tuple, ty_str_list, ty_tup_int, ty_tup_bool, ty_tup_str, ty_tup_tuple, ty_tup_list, ty_lst_int, ty_lst_bool, ty_lst_str, ty_lst_tuple, ty_lst_list, decide_eq_true_eq, Bool.not_true, Bool.not_false, if_true, if_false, ite_true, ite_false, Bool.false_eq_true, Bool.true_eq_false, Option.map_some, true_and, and_true, reduceCtorEq, List.length_cons, List.length_nil]
  refine ⟨by decide, by rw [size16]; omega, ?_⟩
  refine for_ok (things ++ [d1, d2]) (fun i env S' => S' = S2 ∧ ∃ e8, env = [e0, some (.fz (.cell b)), e2, e3, some (.ow things), e5, e6, e7, e8]) ⟨rfl, _, rfl⟩ (fun i x env S' hx => ?_) (fun env S' => ?_)
  · rintro ⟨rfl, e8, rfl⟩
    have ox : D.ok 60 x = true := by
      rcases List.mem_append.mp (List.mem_of_getElem? hx) with h | h
      · exact ht x h
      · rcases List.mem_cons.mp h with rfl | h
        · exact D.ok_mono (by decide) hd1
        · rw [List.mem_singleton] at h
          rw [h]
          exact D.ok_mono (by decide) hd2
    simp only [ok_newc, upt_tup, upt_lst, frm_tup, frm_lst, rev_tup, rev_lst, trg_i, s_nil, s_ret, s_rtv, s_set, s_unp, s_par, s_app, s_expr, s_frz, cont_nx, cont_ret, fin_ret, fin_nx, frz_nil, frz_two, frz_succ, frz_z, frz_zn, List.getElem?_cons_zero, List.getElem?_cons_succ, setAll_cons, setAll_nil, e_var, e_cst, e_bin, e_neg, e_cmp, e_chn, e_isc, e_and, e_or, e_not, e_ite, e_tup, e_lst, e_newc, e_idx, e_from, e_upto, e_rev, e_call, e_blt, e_mth, e_trng, e_comp, es_nil, es_cons, rs_nil, rs_cons, vs_nil, vs_cons, c_no, c_yes, it_val, it_rng, it_enum, it_zip, c_F, f_F, items_tup, items_lst, rng_i, ok_noX, bind_nm, bind_tp, bind_cons, bind_nil, wipe_nil, wipe_cons, ok_bnd, ok_ret, ok_opt, ok_ask, ok_ite, ok_asB, ok_stk, oko_some, oko_none, oko_map, oko_if, boolO_bl, rd_succ, rd_fz, rd_ow, d_fz, d_ow, ow_succ, ow_zero, List.set_cons_zero, List.set_cons_succ, bin_add, bin_sub, bin_mul, bin_fdiv, bin_mod, bin_pow, add_ii, add_ll, add_tt, sub_ii, mul_ii, fdiv_ii, mod_ii, pow_ii, neg_i, eqD_ii, eqD_bb, cmp_eq, cmp_ne, cmp_lt, cmp_le, cmp_gt, cmp_ge, isc_nn, isc_bb, isc_in, isc_tn, isc_ln, blt_len_scr, blt_len_tup, blt_len_lst, blt_tuple_lst, blt_tuple_tup, blt_list_lst, blt_list_tup, blt_all, blt_any, blt_max2, blt_min2, blt_int_b, blt_int_i, blt_repr, blt_isi, Mini.ix_tup, Mini.ix_lst, Mini.ix_scr, ty_one, ty_non_int, ty_non_bool, ty_non_str, ty_non_tuple, ty_non_list, ty_bl_int, ty_bl_bool, ty_bl_str, ty_bl_tuple, ty_bl_list, ty_int_int, ty_int_bool, ty_int_str, ty_int_tuple, ty_int_list, ty_str_int, ty_str_bool, ty_str_str, ty_str_tuple, ty_str_list, ty_tup_int, ty_tup_bool, ty_tup_str, ty_tup_tuple, ty_tup_list, ty_lst_int, ty_lst_bool, ty_lst_str, ty_lst_tuple, ty_lst_list, decide_eq_true_eq, Bool.not_true, Bool.not_false, if_true, if_false, ite_true, ite_false, Bool.false_eq_true, Bool.true_eq_false, Option.map_some, true_and, and_true, reduceCtorEq, List.length_cons, List.length_nil]
    rw [s_ite]
    simp only [ok_newc, upt_tup, upt_lst, frm_tup, frm_lst, rev_tup, rev_lst, trg_i, s_nil, s_ret, s_rtv, s_set, s_unp, s_par, s_app, s_expr, s_frz, cont_nx, cont_ret, fin_ret, fin_nx, frz_nil, frz_two, frz_succ, frz_z, frz_zn, List.getElem?_cons_zero, List.getElem?_cons_succ, setAll_cons, setAll_nil, e_var, e_cst, e_bin, e_neg, e_cmp, e_chn, e_isc, e_and, e_or, e_not, e_ite, e_tup, e_lst, e_newc, e_idx, e_from, e_upto, e_rev, e_call, e_blt, e_mth, e_trng, e_comp, es_nil, es_cons, rs_nil, rs_cons, vs_nil, vs_cons, c_no, c_yes, it_val, it_rng, it_enum, it_zip, c_F, f_F, items_tup, items_lst, rng_i, ok_noX, bind_nm, bind_tp, bind_cons, bind_nil, wipe_nil, wipe_cons, ok_bnd, ok_ret, ok_opt, ok_ask, ok_ite, ok_asB, ok_stk, oko_some, oko_none, oko_map, oko_if, boolO_bl, rd_succ, rd_fz, rd_ow, d_fz, d_ow, ow_succ, ow_zero, List.set_cons_zero, List.set_cons_succ, bin_add, bin_sub, bin_mul, bin_fdiv, bin_mod, bin_pow, add_ii, add_ll, add_tt, sub_ii, mul_ii, fdiv_ii, mod_ii, pow_ii, neg_i, eqD_ii, eqD_bb, cmp_eq, cmp_ne, cmp_lt, cmp_le, cmp_gt, cmp_ge, isc_nn, isc_bb, isc_in, isc_tn, isc_ln, blt_len_scr, blt_len_tup, blt_len_lst, blt_tuple_lst, blt_tuple_tup, blt_list_lst, blt_list_tup, blt_all, blt_any, blt_max2, blt_min2, blt_int_b, blt_int_i, blt_repr, blt_isi, Mini.ix_tup, Mini.ix_lst, Mini.ix_scr, ty_one, ty_non_int, ty_non_bool, ty_non_str, ty_non_tuple, ty_non_list, ty_bl_int, ty_bl_bool, ty_bl_str, ty_bl_tuple, ty_bl_list, ty_int_int, ty_int_bool, ty_int_str, ty_int_tuple, ty_int_list, ty_str_int, ty_str_bool, ty_str_str, ty_str_tuple, ty_str_list, ty_tup_int, ty_tup_bool, ty_tup_str, ty_tup_tuple, ty_tup_list, ty_lst_int, ty_lst_bool, ty_lst_str, ty_lst_tuple, ty_lst_list, decide_eq_true_eq, Bool.not_true, Bool.not_false, if_true, if_false, ite_true, ite_false, Bool.false_eq_true, Bool.true_eq_false, Option.map_some, true_and, and_true, reduceCtorEq, List.length_cons, List.length_nil]
    refine ok_of (both x ox 125 S').1 ?_
    simp only [ok_newc, upt_tup, upt_lst, frm_tup, frm_lst, rev_tup, rev_lst, trg_i, s_nil, s_ret, s_rtv, s_set, s_unp, s_par, s_app, s_expr, s_frz, cont_nx, cont_ret, fin_ret, fin_nx, frz_nil, frz_two, frz_succ, frz_z, frz_zn, List.getElem?_cons_zero, List.getElem?_cons_succ, setAll_cons, setAll_nil, e_var, e_cst, e_bin, e_neg, e_cmp, e_chn, e_isc, e_and, e_or, e_not, e_ite, e_tup, e_lst, e_newc, e_idx, e_from, e_upto, e_rev, e_call, e_blt, e_mth, e_trng, e_comp, es_nil, es_cons, rs_nil, rs_cons, vs_nil, vs_cons, c_no, c_yes, it_val, it_rng, it_enum, it_zip, c_F, f_F, items_tup, items_lst, rng_i, ok_noX, bind_nm, bind_tp, bind_cons, bind_nil, wipe_nil, wipe_cons, ok_bnd, ok_ret, ok_opt, ok_ask, ok_ite, ok_asB, ok_stk, oko_some, oko_none, oko_map, oko_if, boolO_bl, rd_succ, rd_fz, rd_ow, d_fz, d_ow, ow_succ, ow_zero, List.set_cons_zero, List.set_cons_succ, bin_add, bin_sub, bin_mul, bin_fdiv, bin_mod, bin_pow, add_ii, add_ll, add_tt, sub_ii, mul_ii, fdiv_ii, mod_ii, pow_ii, neg_i, eqD_ii, eqD_bb, cmp_eq, cmp_ne, cmp_lt, cmp_le, cmp_gt, cmp_ge, isc_nn, isc_bb, isc_in, isc_tn, isc_ln, blt_len_scr, blt_len_tup, blt_len_lst, blt_tuple_lst, blt_tuple_tup, blt_list_lst, blt_list_tup, blt_all, blt_any, blt_max2, blt_min2, blt_int_b, blt_int_i, blt_repr, blt_isi, Mini.ix_tup, Mini.ix_lst, Mini.ix_scr, ty_one, ty_non_int, ty_non_bool, ty_non_str, ty_non_tuple, ty_non_list, ty_bl_int, ty_bl_bool, ty_bl_str, ty_bl_tuple, ty_bl_list, ty_int_int, ty_int_bool, ty_int_str, ty_int_tuple, ty_int_list, ty_str_int, ty_str_bool, ty_str_str, ty_str_tuple, ty_str_list, ty_tup_int, ty_tup_bool, ty_tup_str, ty_tup_tuple, ty_tup_list, ty_lst_int, ty_lst_bool, ty_lst_str, ty_lst_tuple, ty_lst_list, decide_eq_true_eq, Bool.not_true, Bool.not_false, if_true, if_false, ite_true, ite_false, Bool.false_eq_true, Bool.true_eq_false, Option.map_some, true_and, and_true, reduceCtorEq, List.length_cons, List.length_nil]
    refine ok_of (both x ox 125 S').2 ?_
    simp only [ok_newc, upt_tup, upt_lst, frm_tup, frm_lst, rev_tup, rev_lst, trg_i, s_nil, s_ret, s_rtv, s_set, s_unp, s_par, s_app, s_expr, s_frz, cont_nx, cont_ret, fin_ret, fin_nx, frz_nil, frz_two, frz_succ, frz_z, frz_zn, List.getElem?_cons_zero, List.getElem?_cons_succ, setAll_cons, setAll_nil, e_var, e_cst, e_bin, e_neg, e_cmp, e_chn, e_isc, e_and, e_or, e_not, e_ite, e_tup, e_lst, e_newc, e_idx, e_from, e_upto, e_rev, e_call, e_blt, e_mth, e_trng, e_comp, es_nil, es_cons, rs_nil, rs_cons, vs_nil, vs_cons, c_no, c_yes, it_val, it_rng, it_enum, it_zip, c_F, f_F, items_tup, items_lst, rng_i, ok_noX, bind_nm, bind_tp, bind_cons, bind_nil, wipe_nil, wipe_cons, ok_bnd, ok_ret, ok_opt, ok_ask, ok_ite, ok_asB, ok_stk, oko_some, oko_none, oko_map, oko_if, boolO_bl, rd_succ, rd_fz, rd_ow, d_fz, d_ow, ow_succ, ow_zero, List.set_cons_zero, List.set_cons_succ, bin_add, bin_sub, bin_mul, bin_fdiv, bin_mod, bin_pow, add_ii, add_ll, add_tt, sub_ii, mul_ii, fdiv_ii, mod_ii, pow_ii, neg_i, eqD_ii, eqD_bb, cmp_eq, cmp_ne, cmp_lt, cmp_le, cmp_gt, cmp_ge, isc_nn, isc_bb, isc_in, isc_tn, isc_ln, blt_len_scr, blt_len_tup, blt_len_lst, blt_tuple_lst, blt_tuple_tup, blt_list_lst, blt_list_tup, blt_all, blt_any, blt_max2, blt_min2, blt_int_b, blt_int_i, blt_repr, blt_isi, Mini.ix_tup, Mini.ix_lst, Mini.ix_scr, ty_one, ty_non_int, ty_non_bool, ty_non_str, ty_non_tuple, ty_non_list, ty_bl_int, ty_bl_bool, ty_bl_str, ty_bl_tuple, ty_bl_list, ty_int_int, ty_int_bool, ty_int_str, ty_int_tuple, ty_int_list, ty_str_int, ty_str_bool, ty_str_str, ty_str_tuple, ty_str_list, ty_tup_int, ty_tup_bool, ty_tup_str, ty_tup_tuple, ty_tup_list, ty_lst_int, ty_lst_bool, ty_lst_str, ty_lst_tuple, ty_lst_list, decide_eq_true_eq, Bool.not_true, Bool.not_false, if_true, if_false, ite_true, ite_false, Bool.false_eq_true, Bool.true_eq_false, Option.map_some, true_and, and_true, reduceCtorEq, List.length_cons, List.length_nil, rep_eq]
    exact ⟨_, rfl⟩
  · rintro ⟨rfl, e8, rfl⟩
    simp only [ok_newc, upt_tup, upt_lst, frm_tup, frm_lst, rev_tup, rev_lst, trg_i, s_nil, s_ret, s_rtv, s_set, s_unp, s_par, s_app, s_expr, s_frz, cont_nx, cont_ret, fin_ret, fin_nx, frz_nil, frz_two, frz_succ, frz_z, frz_zn, List.getElem?_cons_zero, List.getElem?_cons_succ, setAll_cons, setAll_nil, e_var, e_cst, e_bin, e_neg, e_cmp, e_chn, e_isc, e_and, e_or, e_not, e_ite, e_tup, e_lst, e_newc, e_idx, e_from, e_upto, e_rev, e_call, e_blt, e_mth, e_trng, e_comp, es_nil, es_cons, rs_nil, rs_cons, vs_nil, vs_cons, c_no, c_yes, it_val, it_rng, it_enum, it_zip, c_F, f_F, items_tup, items_lst, rng_i, ok_noX, bind_nm, bind_tp, bind_cons, bind_nil, wipe_nil, wipe_cons, ok_bnd, ok_ret, ok_opt, ok_ask, ok_ite, ok_asB, ok_stk, oko_some, oko_none, oko_map, oko_if, boolO_bl, rd_succ, rd_fz, rd_ow, d_fz, d_ow, ow_succ, ow_zero, List.set_cons_zero, List.set_cons_succ, bin_add, bin_sub, bin_mul, bin_fdiv, bin_mod, bin_pow, add_ii, add_ll, add_tt, sub_ii, mul_ii, fdiv_ii, mod_ii, pow_ii, neg_i, eqD_ii, eqD_bb, cmp_eq, cmp_ne, cmp_lt, cmp_le, cmp_gt, cmp_ge, isc_nn, isc_bb, isc_in, isc_tn, isc_ln, blt_len_scr, blt_len_tup, blt_len_lst, blt_tuple_lst, blt_tuple_tup, blt_list_lst, blt_list_tup, blt_all, blt_any, blt_max2, blt_min2, blt_int_b, blt_int_i, blt_repr, blt_isi, Mini.ix_tup, Mini.ix_lst, Mini.ix_scr, ty_one, ty_non_int, ty_non_bool, ty_non_str, ty_non_tuple, ty_non_list, ty_bl_int, ty_bl_bool, ty_bl_str, ty_bl_tuple, ty_bl_list, ty_int_int, ty_int_bool, ty_int_str, ty_int_tuple, ty_int_list, ty_str_int, ty_str_bool, ty_str_str, ty_str_tuple, ty_str_list, ty_tup_int, ty_tup_bool, ty_tup_str, ty_tup_tuple, ty_tup_list, ty_lst_int, ty_lst_bool, ty_lst_str, ty_lst_tuple, ty_lst_list, decide_eq_true_eq, Bool.not_true, Bool.not_false, if_true, if_false, ite_true, ite_false, Bool.false_eq_true, Bool.true_eq_false, Option.map_some, true_and, and_true, reduceCtorEq, List.length_cons, List.length_nil]
    exact hR e8
theorem tail_ok {e0 e1 e2 e3 e4 e5 e6 e7 e8 : Option Rv} {S : Store} : Ok (execSs (run prog 130) tailK [e0, e1, e2, e3, e4, e5, e6, e7, e8] S) (fin fun r S' => r = .fz (.bl true)) := by
  unfold tailK
  rw [s_for]
  simp only [ok_newc, upt_tup, upt_lst, frm_tup, frm_lst, rev_tup, rev_lst, trg_i, s_nil, s_ret, s_rtv, s_set, s_unp, s_par, s_app, s_expr, s_frz, cont_nx, cont_ret, fin_ret, fin_nx, frz_nil, frz_two, frz_succ, frz_z, frz_zn, List.getElem?_cons_zero, List.getElem?_cons_succ, setAll_cons, setAll_nil, e_var, e_cst, e_bin, e_neg, e_cmp, e_chn, e_isc, e_and, e_or, e_not, e_ite, e_tup, e_lst, e_newc, e_idx, e_from, e_upto, e_rev, e_call, e_blt, e_mth, e_trng, e_comp, es_nil, es_cons, rs_nil, rs_cons, vs_nil, vs_cons, c_no, c_yes, it_val, it_rng, it_enum, it_zip, c_F, f_F, items_tup, items_lst, rng_i, ok_noX, bind_nm, bind_tp, bind_cons, bind_nil, wipe_nil, wipe_cons, ok_bnd, ok_ret, ok_opt, ok_ask, ok_ite, ok_asB, ok_stk, oko_some, oko_none, oko_map, oko_if, boolO_bl, rd_succ, rd_fz, rd_ow, d_fz, d_ow, ow_succ, ow_zero, List.set_cons_zero, List.set_cons_succ, bin_add, bin_sub, bin_mul, bin_fdiv, bin_mod, bin_pow, add_ii, add_ll, add_tt, sub_ii, mul_ii, fdiv_ii, mod_ii, pow_ii, neg_i, eqD_ii, eqD_bb, cmp_eq, cmp_ne, cmp_lt, cmp_le, cmp_gt, cmp_ge, isc_nn, isc_bb, isc_in, isc_tn, isc_ln, blt_len_scr, blt_len_tup, blt_len_lst, blt_tuple_lst, blt_tuple_tup, blt_list_lst, blt_list_tup, blt_all, blt_any, blt_max2, blt_min2, blt_int_b, blt_int_i, blt_repr, blt_isi, Mini.ix_tup, Mini.ix_lst, Mini.ix_scr, ty_one, ty_non_int, ty_non_bool, ty_non_str, ty_non_tuple, ty_non_list, ty_bl_int, ty_bl_bool, ty_bl_str, ty_bl_tuple, ty_bl_list, ty_int_int, ty_int_bool, ty_int_str, ty_int_tuple, ty_int_list, ty_str_int, ty_str_bool, ty_str_str, ty_str_tuple, ty_str_list, ty_tup_int, ty_tup_bool, ty_tup_str, ty_tup_tuple, ty_tup_list, ty_lst_int, ty_lst_bool, ty_lst_str, ty_lst_tuple, ty_lst_list, decide_eq_true_eq, Bool.not_true, Bool.not_false, if_true, if_false, ite_true, ite_false, Bool.false_eq_true, Bool.true_eq_false, Option.map_some, true_and, and_true, reduceCtorEq, List.length_cons, List.length_nil]
  refine ok_of (told_run 126 S) ?_
  try simp only [ok_newc, upt_tup, upt_lst, frm_tup, frm_lst, rev_tup, rev_lst, trg_i, s_nil, s_ret, s_rtv, s_set, s_unp, s_par, s_app, s_expr, s_frz, cont_nx, cont_ret, fin_ret, fin_nx, frz_nil, frz_two, frz_succ, frz_z, frz_zn, List.getElem?_cons_zero, List.getElem?_cons_succ, setAll_cons, setAll_nil, e_var, e_cst, e_bin, e_neg, e_cmp, e_chn, e_isc, e_and, e_or, e_not, e_ite, e_tup, e_lst, e_newc, e_idx, e_from, e_upto, e_rev, e_call, e_blt, e_mth, e_trng, e_comp, es_nil, es_cons, rs_nil, rs_cons, vs_nil, vs_cons, c_no, c_yes, it_val, it_rng, it_enum, it_zip, c_F, f_F, items_tup, items_lst, rng_i, ok_noX, bind_nm, bind_tp, bind_cons, bind_nil, wipe_nil, wipe_cons, ok_bnd, ok_ret, ok_opt, ok_ask, ok_ite, ok_asB, ok_stk, oko_some, oko_none, oko_map, oko_if, boolO_bl, rd_succ, rd_fz, rd_ow, d_fz, d_ow, ow_succ, ow_zero, List.set_cons_zero, List.set_cons_succ, bin_add, bin_sub, bin_mul, bin_fdiv, bin_mod, bin_pow, add_ii, add_ll, add_tt, sub_ii, mul_ii, fdiv_ii, mod_ii, pow_ii, neg_i, eqD_ii, eqD_bb, cmp_eq, cmp_ne, cmp_lt, cmp_le, cmp_gt, cmp_ge, isc_nn, isc_bb, isc_in, isc_tn, isc_ln, blt_len_scr, blt_len_tup, blt_len_lst, blt_tuple_lst, blt_tuple_tup, blt_list_lst, blt_list_tup, blt_all, blt_any, blt_max2, blt_min2, blt_int_b, blt_int_i, blt_repr, blt_isi, Mini.ix_tup, Mini.ix_lst, Mini.ix_scr, ty_one, ty_non_int, ty_non_bool, ty_non_str, ty_non_tuple, ty_non_list, ty_bl_int, ty_bl_bool, ty_bl_str, ty_bl_tuple, ty_bl_list, ty_int_int, ty_int_bool, ty_int_str, ty_int_tuple, ty_int_list, ty_str_int, ty_str_bool, ty_str_str, ty_str_tuple, ty_str_list, ty_tup_int, ty_tup_bool, ty_tup_str, ty_tup_tuple, ty_tup_list, ty_lst_int, ty_lst_bool, ty_lst_str, ty_lst_tuple, ty_lst_list, decide_eq_true_eq, Bool.not_true, Bool.not_false, if_true, if_false, ite_true, ite_false, Bool.false_eq_true, Bool.true_eq_false, Option.map_some, true_and, and_true, reduceCtorEq, List.length_cons, List.length_nil]
  refine for_ok told (fun i env S' => S' = S ∧ ∃ e2, env = [e0, e1, e2, e3, e4, e5, e6, e7, e8]) ⟨rfl, _, rfl⟩ (fun i x env S' hx => ?_) (fun env S' => ?_)
  · rintro ⟨rfl, e2, rfl⟩
    have h := List.all_eq_true.mp told_ok x (List.mem_of_getElem? hx)
    rw [Bool.and_eq_true, Bool.and_eq_true] at h
    simp only [ok_newc, upt_tup, upt_lst, frm_tup, frm_lst, rev_tup, rev_lst, trg_i, s_nil, s_ret, s_rtv, s_set, s_unp, s_par, s_app, s_expr, s_frz, cont_nx, cont_ret, fin_ret, fin_nx, frz_nil, frz_two, frz_succ, frz_z, frz_zn, List.getElem?_cons_zero, List.getElem?_cons_succ, setAll_cons, setAll_nil, e_var, e_cst, e_bin, e_neg, e_cmp, e_chn, e_isc, e_and, e_or, e_not, e_ite, e_tup, e_lst, e_newc, e_idx, e_from, e_upto, e_rev, e_call, e_blt, e_mth, e_trng, e_comp, es_nil, es_cons, rs_nil, rs_cons, vs_nil, vs_cons, c_no, c_yes, it_val, it_rng, it_enum, it_zip, c_F, f_F, items_tup, items_lst, rng_i, ok_noX, bind_nm, bind_tp, bind_cons, bind_nil, wipe_nil, wipe_cons, ok_bnd, ok_ret, ok_opt, ok_ask, ok_ite, ok_asB, ok_stk, oko_some, oko_none, oko_map, oko_if, boolO_bl, rd_succ, rd_fz, rd_ow, d_fz, d_ow, ow_succ, ow_zero, List.set_cons_zero, List.set_cons_succ, bin_add, bin_sub, bin_mul, bin_fdiv, bin_mod, bin_pow, add_ii, add_ll, add_tt, sub_ii, mul_ii, fdiv_ii, mod_ii, pow_ii, neg_i, eqD_ii, eqD_bb, cmp_eq, cmp_ne, cmp_lt, cmp_le, cmp_gt, cmp_ge, isc_nn, isc_bb, isc_in, isc_tn, isc_ln, blt_len_scr, blt_len_tup, blt_len_lst, blt_tuple_lst, blt_tuple_tup, blt_list_lst, blt_list_tup, blt_all, blt_any, blt_max2, blt_min2, blt_int_b, blt_int_i, blt_repr, blt_isi, Mini.ix_tup, Mini.ix_lst, Mini.ix_scr, ty_one, ty_non_int, ty_non_bool, ty_non_str, ty_non_tuple, ty_non_list, ty_bl_int, ty_bl_bool, ty_bl_str, ty_bl_tuple, ty_bl_list, ty_int_int, ty_int_bool, ty_int_str, ty_int_tuple, ty_int_list, ty_str_int, ty_str_bool, ty_str_str, ty_str_tuple, ty_str_list, ty_tup_int, ty_tup_bool, ty_tup_str, ty_tup_tuple, ty_tup_list, ty_lst_int, ty_lst_bool, ty_lst_str, ty_lst_tuple, ty_lst_list, decide_eq_true_eq, Bool.not_true, Bool.not_false, if_true, if_false, ite_true, ite_false, Bool.false_eq_true, Bool.true_eq_false, Option.map_some, true_and, and_true, reduceCtorEq, List.length_cons, List.length_nil]
    rw [s_ite]
    simp only [ok_newc, upt_tup, upt_lst, frm_tup, frm_lst, rev_tup, rev_lst, trg_i, s_nil, s_ret, s_rtv, s_set, s_unp, s_par, s_app, s_expr, s_frz, cont_nx, cont_ret, fin_ret, fin_nx, frz_nil, frz_two, frz_succ, frz_z, frz_zn, List.getElem?_cons_zero, List.getElem?_cons_succ, setAll_cons, setAll_nil, e_var, e_cst, e_bin, e_neg, e_cmp, e_chn, e_isc, e_and, e_or, e_not, e_ite, e_tup, e_lst, e_newc, e_idx, e_from, e_upto, e_rev, e_call, e_blt, e_mth, e_trng, e_comp, es_nil, es_cons, rs_nil, rs_cons, vs_nil, vs_cons, c_no, c_yes, it_val, it_rng, it_enum, it_zip, c_F, f_F, items_tup, items_lst, rng_i, ok_noX, bind_nm, bind_tp, bind_cons, bind_nil, wipe_nil, wipe_cons, ok_bnd, ok_ret, ok_opt, ok_ask, ok_ite, ok_asB, ok_stk, oko_some, oko_none, oko_map, oko_if, boolO_bl, rd_succ, rd_fz, rd_ow, d_fz, d_ow, ow_succ, ow_zero, List.set_cons_zero, List.set_cons_succ, bin_add, bin_sub, bin_mul, bin_fdiv, bin_mod, bin_pow, add_ii, add_ll, add_tt, sub_ii, mul_ii, fdiv_ii, mod_ii, pow_ii, neg_i, eqD_ii, eqD_bb, cmp_eq, cmp_ne, cmp_lt, cmp_le, cmp_gt, cmp_ge, isc_nn, isc_bb, isc_in, isc_tn, isc_ln, blt_len_scr, blt_len_tup, blt_len_lst, blt_tuple_lst, blt_tuple_tup, blt_list_lst, blt_list_tup, blt_all, blt_any, blt_max2, blt_min2, blt_int_b, blt_int_i, blt_repr, blt_isi, Mini.ix_tup, Mini.ix_lst, Mini.ix_scr, ty_one, ty_non_int, ty_non_bool, ty_non_str, ty_non_tuple, ty_non_list, ty_bl_int, ty_bl_bool, ty_bl_str, ty_bl_tuple, ty_bl_list, ty_int_int, ty_int_bool, ty_int_str, ty_int_tuple, ty_int_list, ty_str_int, ty_str_bool, ty_str_str, ty_str_tuple, ty_str_list, ty_tup_int, ty_tup_bool, ty_tup_str, ty_tup_tuple, ty_tup_list, ty_lst_int, ty_lst_bool, ty_lst_str, ty_lst_tuple, ty_lst_list, decide_eq_true_eq, Bool.not_true, Bool.not_false, if_true, if_false, ite_true, ite_false, Bool.false_eq_true, Bool.true_eq_false, Option.map_some, true_and, and_true, reduceCtorEq, List.length_cons, List.length_nil]
    refine ok_of (both x (D.ok_mono (by decide) h.2) 125 S').1 ?_
    rw [h.1.1]
    simp only [ok_newc, upt_tup, upt_lst, frm_tup, frm_lst, rev_tup, rev_lst, trg_i, s_nil, s_ret, s_rtv, s_set, s_unp, s_par, s_app, s_expr, s_frz, cont_nx, cont_ret, fin_ret, fin_nx, frz_nil, frz_two, frz_succ, frz_z, frz_zn, List.getElem?_cons_zero, List.getElem?_cons_succ, setAll_cons, setAll_nil, e_var, e_cst, e_bin, e_neg, e_cmp, e_chn, e_isc, e_and, e_or, e_not, e_ite, e_tup, e_lst, e_newc, e_idx, e_from, e_upto, e_rev, e_call, e_blt, e_mth, e_trng, e_comp, es_nil, es_cons, rs_nil, rs_cons, vs_nil, vs_cons, c_no, c_yes, it_val, it_rng, it_enum, it_zip, c_F, f_F, items_tup, items_lst, rng_i, ok_noX, bind_nm, bind_tp, bind_cons, bind_nil, wipe_nil, wipe_cons, ok_bnd, ok_ret, ok_opt, ok_ask, ok_ite, ok_asB, ok_stk, oko_some, oko_none, oko_map, oko_if, boolO_bl, rd_succ, rd_fz, rd_ow, d_fz, d_ow, ow_succ, ow_zero, List.set_cons_zero, List.set_cons_succ, bin_add, bin_sub, bin_mul, bin_fdiv, bin_mod, bin_pow, add_ii, add_ll, add_tt, sub_ii, mul_ii, fdiv_ii, mod_ii, pow_ii, neg_i, eqD_ii, eqD_bb, cmp_eq, cmp_ne, cmp_lt, cmp_le, cmp_gt, cmp_ge, isc_nn, isc_bb, isc_in, isc_tn, isc_ln, blt_len_scr, blt_len_tup, blt_len_lst, blt_tuple_lst, blt_tuple_tup, blt_list_lst, blt_list_tup, blt_all, blt_any, blt_max2, blt_min2, blt_int_b, blt_int_i, blt_repr, blt_isi, Mini.ix_tup, Mini.ix_lst, Mini.ix_scr, ty_one, ty_non_int, ty_non_bool, ty_non_str, ty_non_tuple, ty_non_list, ty_bl_int, ty_bl_bool, ty_bl_str, ty_bl_tuple, ty_bl_list, ty_int_int, ty_int_bool, ty_int_str, ty_int_tuple, ty_int_list, ty_str_int, ty_str_bool, ty_str_str, ty_str_tuple, ty_str_list, ty_tup_int, ty_tup_bool, ty_tup_str, ty_tup_tuple, ty_tup_list, ty_lst_int, ty_lst_bool, ty_lst_str, ty_lst_tuple, ty_lst_list, decide_eq_true_eq, Bool.not_true, Bool.not_false, if_true, if_false, ite_true, ite_false, Bool.false_eq_true, Bool.true_eq_false, Option.map_some, true_and, and_true, reduceCtorEq, List.length_cons, List.length_nil]
    simp
  · rintro ⟨rfl, e2, rfl⟩
    simp only [ok_newc, upt_tup, upt_lst, frm_tup, frm_lst, rev_tup, rev_lst, trg_i, s_nil, s_ret, s_rtv, s_set, s_unp, s_par, s_app, s_expr, s_frz, cont_nx, cont_ret, fin_ret, fin_nx, frz_nil, frz_two, frz_succ, frz_z, frz_zn, List.getElem?_cons_zero, List.getElem?_cons_succ, setAll_cons, setAll_nil, e_var, e_cst, e_bin, e_neg, e_cmp, e_chn, e_isc, e_and, e_or, e_not, e_ite, e_tup, e_lst, e_newc, e_idx, e_from, e_upto, e_rev, e_call, e_blt, e_mth, e_trng, e_comp, es_nil, es_cons, rs_nil, rs_cons, vs_nil, vs_cons, c_no, c_yes, it_val, it_rng, it_enum, it_zip, c_F, f_F, items_tup, items_lst, rng_i, ok_noX, bind_nm, bind_tp, bind_cons, bind_nil, wipe_nil, wipe_cons, ok_bnd, ok_ret, ok_opt, ok_ask, ok_ite, ok_asB, ok_stk, oko_some, oko_none, oko_map, oko_if, boolO_bl, rd_succ, rd_fz, rd_ow, d_fz, d_ow, ow_succ, ow_zero, List.set_cons_zero, List.set_cons_succ, bin_add, bin_sub, bin_mul, bin_fdiv, bin_mod, bin_pow, add_ii, add_ll, add_tt, sub_ii, mul_ii, fdiv_ii, mod_ii, pow_ii, neg_i, eqD_ii, eqD_bb, cmp_eq, cmp_ne, cmp_lt, cmp_le, cmp_gt, cmp_ge, isc_nn, isc_bb, isc_in, isc_tn, isc_ln, blt_len_scr, blt_len_tup, blt_len_lst, blt_tuple_lst, blt_tuple_tup, blt_list_lst, blt_list_tup, blt_all, blt_any, blt_max2, blt_min2, blt_int_b, blt_int_i, blt_repr, blt_isi, Mini.ix_tup, Mini.ix_lst, Mini.ix_scr, ty_one, ty_non_int, ty_non_bool, ty_non_str, ty_non_tuple, ty_non_list, ty_bl_int, ty_bl_bool, ty_bl_str, ty_bl_tuple, ty_bl_list, ty_int_int, ty_int_bool, ty_int_str, ty_int_tuple, ty_int_list, ty_str_int, ty_str_bool, ty_str_str, ty_str_tuple, ty_str_list, ty_tup_int, ty_tup_bool, ty_tup_str, ty_tup_tuple, ty_tup_list, ty_lst_int, ty_lst_bool, ty_lst_str, ty_lst_tuple, ty_lst_list, decide_eq_true_eq, Bool.not_true, Bool.not_false, if_true, if_false, ite_true, ite_false, Bool.false_eq_true, Bool.true_eq_false, Option.map_some, true_and, and_true, reduceCtorEq, List.length_cons, List.length_nil]
    refine ⟨Nat.zero_le _, ok_of (empty_run 125 S') ?_⟩
    simp [ok_newc, upt_tup, upt_lst, frm_tup, frm_lst, rev_tup, rev_lst, trg_i, s_nil, s_ret, s_rtv, s_set, s_unp, s_par, s_app, s_expr, s_frz, cont_nx, cont_ret, fin_ret, fin_nx, frz_nil, frz_two, frz_succ, frz_z, frz_zn, List.getElem?_cons_zero, List.getElem?_cons_succ, setAll_cons, setAll_nil, e_var, e_cst, e_bin, e_neg, e_cmp, e_chn, e_isc, e_and, e_or, e_not, e_ite, e_tup, e_lst, e_newc, e_idx, e_from, e_upto, e_rev, e_call, e_blt, e_mth, e_trng, e_comp, es_nil, es_cons, rs_nil, rs_cons, vs_nil, vs_cons, c_no, c_yes, it_val, it_rng, it_enum, it_zip, c_F, f_F, items_tup, items_lst, rng_i, ok_noX, bind_nm, bind_tp, bind_cons, bind_nil, wipe_nil, wipe_cons, ok_bnd, ok_ret, ok_opt, ok_ask, ok_ite, ok_asB, ok_stk, oko_some, oko_none, oko_map, oko_if, boolO_bl, rd_succ, rd_fz, rd_ow, d_fz, d_ow, ow_succ, ow_zero, List.set_cons_zero, List.set_cons_succ, bin_add, bin_sub, bin_mul, bin_fdiv, bin_mod, bin_pow, add_ii, add_ll, add_tt, sub_ii, mul_ii, fdiv_ii, mod_ii, pow_ii, neg_i, eqD_ii, eqD_bb, cmp_eq, cmp_ne, cmp_lt, cmp_le, cmp_gt, cmp_ge, isc_nn, isc_bb, isc_in, isc_tn, isc_ln, blt_len_scr, blt_len_tup, blt_len_lst, blt_tuple_lst, blt_tuple_tup, blt_list_lst, blt_list_tup, blt_all, blt_any, blt_max2, blt_min2, blt_int_b, blt_int_i, blt_repr, blt_isi, Mini.ix_tup, Mini.ix_lst, Mini.ix_scr, ty_one, ty_non_int, ty_non_bool, ty_non_str, ty_non_tuple, ty_non_list, ty_bl_int, ty_bl_bool, ty_bl_str, ty_bl_tuple, ty_bl_list, ty_int_int, ty_int_bool, ty_int_str, ty_int_tuple, ty_int_list, ty_str_int, ty_str_bool, ty_str_str, ty_str_tuple, ty_str_list, ty_tup_int, ty_tup_bool, ty_tup_str, ty_tup_tuple, ty_tup_list, ty_lst_int, ty_lst_bool, ty_lst_str, ty_lst_tuple, ty_lst_list, decide_eq_true_eq, Bool.not_true, Bool.not_false, if_true, if_false, ite_true, ite_false, Bool.false_eq_true, Bool.true_eq_false, Option.map_some, true_and, and_true, reduceCtorEq, List.length_cons, List.length_nil]
end Mini
namespace Mini
open PySem L2 K01
theorem spoilt_at {m : Nat} (hm : 20 ≤ m) (hm2 : m ≤ 100000) (ps : List Int) (d : D) (S : Store) (h3 : 3 ≤ ps.length) (h8 : ps.length ≤ 400) (hd : D.ok m d = true) : Ok (run prog 130 9 [d, .lst (ps.map D.int)] S) fun r S' => S' = S ∧ D.ok (m + 1) r.d = true :=
  sp_spoilt (P := prog) (n := 30) (od := 14) (sl := 9) rfl rfl hm hm2 98 ps d S h3 h8 hd
theorem mul_ti {xs : List D} {k : Int} : mulD (.tup xs) (.int k) = if xs ≠ [] ∧ 2 ≤ k ∧ k ≤ 1000 ∧ xs.length ≤ 1000 then some (.fz (.tup (List.replicate k.toNat xs).flatten)) else none := rfl
theorem tree5_at (S : Store) : run prog 130 15 [.int 5] S = .ok (.fz (tree 5)) S := tree5_run 126 S
theorem tree6_at (S : Store) : run prog 130 15 [.int 6] S = .ok (.fz (tree 6)) S := tree6_run 126 S
theorem ok_cut {m : Nat} {xs : List D} {lo hi : Option Int} (h : D.ok m (.tup xs) = true) : D.ok m (.tup (cutD xs lo hi)) = true := by
  obtain ⟨h1, h2⟩ := ok_tup.mp h
  exact ok_tup.mpr ⟨Nat.le_trans cut_len h1, fun y hy => h2 y (cut_mem hy)⟩
theorem mid_ok {ks : List D} {r : Rv} {b : Nat} {S : Store} {e0 e4 e5 e6 e7 e8 : Option Rv} {R : Fl × Env → Store → Prop} (hk : D.ok 12 (.tup ks) = true) (hr : D.ok 21 r.d = true) (hb : BagOk S b)
    (hR : ∀ e2 e3 e4 e5 e6 e7 e8, R (.nx, [e0, some (.fz (.cell b)), e2, e3, e4, e5, e6, e7, e8]) S) :
    Ok (execSs (run prog 130) midK [e0, some (.fz (.cell b)), some (.fz (.tup ks)), some r, e4, e5, e6, e7, e8] S) R := by
  obtain ⟨ms, c, hS, hms⟩ := hb
  have hb : BagOk S b := ⟨ms, c, hS, hms⟩
  have q1 : 0 ≤ c % 170 ∧ c % 170 < 170 := ⟨Int.emod_nonneg _ (by decide), Int.emod_lt_of_pos _ (by decide)⟩
  have c1 := cut_fromI (ps := ms) (k := c % 170 + 10) (by omega) (by omega)
  obtain ⟨k1, k2⟩ := ok_tup.mp hk
  have g1 : D.ok 60 (.tup ks) = true := D.ok_mono (by decide) hk
  have g2 : D.ok 60 r.d = true := D.ok_mono (by decide) hr
  have g3 : D.ok 60 (.lst ks) = true := g1
  have g4 : D.ok 60 (.tup (ks ++ ks)) = true := ok_tup.mpr ⟨by rw [List.length_append]; omega, add_ok (fun x hx => D.ok_mono (by decide) (k2 x hx)) (fun x hx => D.ok_mono (by decide) (k2 x hx))⟩
  have g5 : D.ok 60 (.tup (cutD ks (some 1) none)) = true := ok_cut g1
  have g6 : D.ok 60 (.tup ks.reverse) = true := ok_tup.mpr ⟨by rw [List.length_reverse]; omega, fun x hx => D.ok_mono (by decide) (k2 x (List.mem_reverse.mp hx))⟩
  have g7 : D.ok 60 (tree 5) = true := D.ok_mono (by decide) tree5_ok
  have g8 : D.ok 60 (tree 6) = true := D.ok_mono (by decide) tree6_ok
  unfold midK
  simp only [ok_newc, upt_tup, upt_lst, frm_tup, frm_lst, rev_tup, rev_lst, trg_i, s_nil, s_ret, s_rtv, s_set, s_unp, s_par, s_app, s_expr, s_frz, cont_nx, cont_ret, fin_ret, fin_nx, frz_nil, frz_two, frz_succ, frz_z, frz_zn, List.getElem?_cons_zero, List.getElem?_cons_succ, setAll_cons, setAll_nil, e_var, e_cst, e_bin, e_neg, e_cmp, e_chn, e_isc, e_and, e_or, e_not, e_ite, e_tup, e_lst, e_newc, e_idx, e_from, e_upto, e_rev, e_call, e_blt, e_mth, e_trng, e_comp, es_nil, es_cons, rs_nil, rs_cons, vs_nil, vs_cons, c_no, c_yes, it_val, it_rng, it_enum, it_zip, c_F, f_F, items_tup, items_lst, rng_i, ok_noX, bind_nm, bind_tp, bind_cons, bind_nil, wipe_nil, wipe_cons, ok_bnd, ok_ret, ok_opt, ok_ask, ok_ite, ok_asB, ok_stk, oko_some, oko_none, oko_map, oko_if, boolO_bl, rd_succ, rd_fz, rd_ow, d_fz, d_ow, ow_succ, ow_zero, List.set_cons_zero, List.set_cons_succ, bin_add, bin_sub, bin_mul, bin_fdiv, bin_mod, bin_pow, add_ii, add_ll, add_tt, sub_ii, mul_ii, fdiv_ii, mod_ii, pow_ii, neg_i, eqD_ii, eqD_bb, cmp_eq, cmp_ne, cmp_lt, cmp_le, cmp_gt, cmp_ge, isc_nn, isc_bb, isc_in, isc_tn, isc_ln, blt_len_scr, blt_len_tup, blt_len_lst, blt_tuple_lst, blt_tuple_tup, blt_list_lst, blt_list_tup, blt_all, blt_any, blt_max2, blt_min2, blt_int_b, blt_int_i, blt_repr, blt_isi, Mini.ix_tup, Mini.ix_lst, Mini.ix_scr, ty_one, ty_non_int, ty_non_bool, ty_non_str, ty_non_tuple, ty_non_list, ty_bl_int, ty_bl_bool, ty_bl_str, ty_bl_tuple, ty_bl_list, ty_int_int, ty_int_bool, ty_int_str, ty_int_tuple, ty_int_list, ty_str_int, ty_str_bool, ty_str_str, ty_str_tuple, ty_str_list, ty_tup_int, ty_tup_bool, ty_tup_str, ty_tup_tuple, ty_tup_list, ty_lst_int, ty_lst_bool, ty_lst_str, ty_lst_tuple, ty_lst_list, decide_eq_true_eq, Bool.not_true, Bool.not_false, if_true, if_false, ite_true, ite_false, Bool.false_eq_true, Bool.true_eq_false, Option.map_some, true_and, and_true, reduceCtorEq, List.length_cons, List.length_nil, size16, Nat.reduceAdd, Nat.reduceLeDiff, ix_cell hS, at2_0, at2_1, c1]
  refine ⟨by decide, ?_⟩
  refine Ok.mono (spoilt_at (m := 21) (by decide) (by decide) _ _ S (by rw [List.length_drop]; omega) (by rw [List.length_drop]; omega) hr) ?_
  rintro r2 S2 ⟨rfl, hr2⟩
  have g9 : D.ok 60 r2.d = true := D.ok_mono (by decide) hr2
  rw [s_for]
  simp only [ok_newc, upt_tup, upt_lst, frm_tup, frm_lst, rev_tup, rev_lst, trg_i, s_nil, s_ret, s_rtv, s_set, s_unp, s_par, s_app, s_expr, s_frz, cont_nx, cont_ret, fin_ret, fin_nx, frz_nil, frz_two, frz_succ, frz_z, frz_zn, List.getElem?_cons_zero, List.getElem?_cons_succ, setAll_cons, setAll_nil, e_var, e_cst, e_bin, e_neg, e_cmp, e_chn, e_isc, e_and, e_or, e_not, e_ite, e_tup, e_lst, e_newc, e_idx, e_from, e_upto, e_rev, e_call, e_blt, e_mth, e_trng, e_comp, es_nil, es_cons, rs_nil, rs_cons, vs_nil, vs_cons, c_no, c_yes, it_val, it_rng, it_enum, it_zip, c_F, f_F, items_tup, items_lst, rng_i, ok_noX, bind_nm, bind_tp, bind_cons, bind_nil, wipe_nil, wipe_cons, ok_bnd, ok_ret, ok_opt, ok_ask, ok_ite, ok_asB, ok_stk, oko_some, oko_none, oko_map, oko_if, boolO_bl, rd_succ, rd_fz, rd_ow, d_fz, d_ow, ow_succ, ow_zero, List.set_cons_zero, List.set_cons_succ, bin_add, bin_sub, bin_mul, bin_fdiv, bin_mod, bin_pow, add_ii, add_ll, add_tt, sub_ii, mul_ii, fdiv_ii, mod_ii, pow_ii, neg_i, eqD_ii, eqD_bb, cmp_eq, cmp_ne, cmp_lt, cmp_le, cmp_gt, cmp_ge, isc_nn, isc_bb, isc_in, isc_tn, isc_ln, blt_len_scr, blt_len_tup, blt_len_lst, blt_tuple_lst, blt_tuple_tup, blt_list_lst, blt_list_tup, blt_all, blt_any, blt_max2, blt_min2, blt_int_b, blt_int_i, blt_repr, blt_isi, Mini.ix_tup, Mini.ix_lst, Mini.ix_scr, ty_one, ty_non_int, ty_non_bool, ty_non_str, ty_non_tuple, ty_non_list, ty_bl_int, ty_bl_bool, ty_bl_str, ty_bl_tuple, ty_bl_list, ty_int_int, ty_int_bool, ty_int_str, ty_int_tuple, ty_int_list, ty_str_int, ty_str_bool, ty_str_str, ty_str_tuple, ty_str_list, ty_tup_int, ty_tup_bool, ty_tup_str, ty_tup_tuple, ty_tup_list, ty_lst_int, ty_lst_bool, ty_lst_str, ty_lst_tuple, ty_lst_list, decide_eq_true_eq, Bool.not_true, Bool.not_false, if_true, if_false, ite_true, ite_false, Bool.false_eq_true, Bool.true_eq_false, Option.map_some, true_and, and_true, reduceCtorEq, List.length_cons, List.length_nil, size16, Nat.reduceAdd, Nat.reduceLeDiff, List.length_append, List.cons_append, List.nil_append, f_cons, f_nil, turn_nx, mul_ti]
  refine ⟨by omega, ⟨List.cons_ne_nil _ _, by decide, by decide⟩, ⟨List.cons_ne_nil _ _, by decide, by decide⟩, ⟨List.cons_ne_nil _ _, by decide, by decide⟩, ⟨List.cons_ne_nil _ _, by decide, by decide⟩, ?_⟩
  refine ok_of (tree5_at S2) ?_
  refine ok_of (tree6_at S2) ?_
  refine last_ok (Nat.le_of_ble_eq_true rfl) ?_ hb fun e8 => hR _ _ _ _ _ _ _
  repeat' refine List.forall_mem_cons.mpr ⟨?_, ?_⟩
  all_goals first
    | assumption
    | exact (fun x hx => nomatch hx)
    | rfl
theorem ok_kind {d : D} (h : KindD d) : ∃ ks, d = .tup ks ∧ D.ok 12 (.tup ks) = true := by
  obtain ⟨xs, rfl, _, _, h⟩ := h
  exact ⟨xs, rfl, h⟩
theorem told_kind : ∀ x ∈ told, KindD x := fun x hx => by
  have h := List.all_eq_true.mp told_ok x hx
  rw [Bool.and_eq_true, Bool.and_eq_true] at h
  obtain ⟨⟨_, h2⟩, h3⟩ := h
  cases x with
  | tup xs =>
    have h2 : (Nat.ble 1 xs.length && Nat.ble xs.length 12) = true := h2
    rw [Bool.and_eq_true] at h2
    exact ⟨xs, rfl, Nat.le_of_ble_eq_true h2.1, Nat.le_of_ble_eq_true h2.2, h3⟩
  | _ => cases h2
theorem kind_at {b : Nat} {S : Store} (hb : BagOk S b) : Ok (run prog 130 18 [.cell b, .int 6] S) fun r S' => (∃ d, r = .fz d ∧ KindD d) ∧ Bags S S' :=
  sp_a_kind (P := prog) (f := 18) (n := 128) (tk := 13) (td := 17) rfl rfl (told_run 125) told_kind (Nat.le_of_ble_eq_true told_len) hb (by decide) (by decide)
theorem bags_at {ns : List Int} {S : Store} : Ok (run prog 130 12 [.scr ns, .int 10] S) fun r S' => ∃ xs, r = .ow xs ∧ ∀ x ∈ xs, ∃ b, x = .cell b ∧ BagOk S' b :=
  sp_bags (P := prog) (f := 12) (n := 127) (bg := 11) (dr := 8) (ca := 7) rfl rfl rfl rfl (by decide) (by decide)
end Mini
namespace K01
open PySem L2 Mini
theorem law_pure : ∀ ns : List Int, ns.length ≤ 63 → (∀ z ∈ ns, Builtin.Int.intBits z ≤ 1048576) → ∃ S, run prog (130 + 1) 21 [.scr ns] [] = .ok (.fz (.bl true)) S := by
  intro ns _ _
  suffices Ok (run prog (130 + 1) 21 [.scr ns] []) (fun r S' => r = .fz (.bl true)) by
    obtain ⟨r, S, e, rfl⟩ := this.out
    exact ⟨S, e⟩
  refine ok_run (fd := f21) rfl rfl ?_
  rw [law_body]
  show Ok (execSs _ (.cons (.for_ _ _ _) _) [some (.fz (.scr ns)), none, none, none, none, none, none, none, none] []) _
  rw [s_for]
  simp only [ok_newc, upt_tup, upt_lst, frm_tup, frm_lst, rev_tup, rev_lst, trg_i, s_nil, s_ret, s_rtv, s_set, s_unp, s_par, s_app, s_expr, s_frz, cont_nx, cont_ret, fin_ret, fin_nx, frz_nil, frz_two, frz_succ, frz_z, frz_zn, List.getElem?_cons_zero, List.getElem?_cons_succ, setAll_cons, setAll_nil, e_var, e_cst, e_bin, e_neg, e_cmp, e_chn, e_isc, e_and, e_or, e_not, e_ite, e_tup, e_lst, e_newc, e_idx, e_from, e_upto, e_rev, e_call, e_blt, e_mth, e_trng, e_comp, es_nil, es_cons, rs_nil, rs_cons, vs_nil, vs_cons, c_no, c_yes, it_val, it_rng, it_enum, it_zip, c_F, f_F, items_tup, items_lst, rng_i, ok_noX, bind_nm, bind_tp, bind_cons, bind_nil, wipe_nil, wipe_cons, ok_bnd, ok_ret, ok_opt, ok_ask, ok_ite, ok_asB, ok_stk, oko_some, oko_none, oko_map, oko_if, boolO_bl, rd_succ, rd_fz, rd_ow, d_fz, d_ow, ow_succ, ow_zero, List.set_cons_zero, List.set_cons_succ, bin_add, bin_sub, bin_mul, bin_fdiv, bin_mod, bin_pow, add_ii, add_ll, add_tt, sub_ii, mul_ii, fdiv_ii, mod_ii, pow_ii, neg_i, eqD_ii, eqD_bb, cmp_eq, cmp_ne, cmp_lt, cmp_le, cmp_gt, cmp_ge, isc_nn, isc_bb, isc_in, isc_tn, isc_ln, blt_len_scr, blt_len_tup, blt_len_lst, blt_tuple_lst, blt_tuple_tup, blt_list_lst, blt_list_tup, blt_all, blt_any, blt_max2, blt_min2, blt_int_b, blt_int_i, blt_repr, blt_isi, Mini.ix_tup, Mini.ix_lst, Mini.ix_scr, ty_one, ty_non_int, ty_non_bool, ty_non_str, ty_non_tuple, ty_non_list, ty_bl_int, ty_bl_bool, ty_bl_str, ty_bl_tuple, ty_bl_list, ty_int_int, ty_int_bool, ty_int_str, ty_int_tuple, ty_int_list, ty_str_int, ty_str_bool, ty_str_str, ty_str_tuple, ty_str_list, ty_tup_int, ty_tup_bool, ty_tup_str, ty_tup_tuple, ty_tup_list, ty_lst_int, ty_lst_bool, ty_lst_str, ty_lst_tuple, ty_lst_list, decide_eq_true_eq, Bool.not_true, Bool.not_false, if_true, if_false, ite_true, ite_false, Bool.false_eq_true, Bool.true_eq_false, Option.map_some, true_and, and_true, reduceCtorEq, List.length_cons, List.length_nil]
  refine Ok.mono bags_at ?_
  rintro r S0 ⟨xs, rfl, hxs⟩
  try simp only [ok_newc, upt_tup, upt_lst, frm_tup, frm_lst, rev_tup, rev_lst, trg_i, s_nil, s_ret, s_rtv, s_set, s_unp, s_par, s_app, s_expr, s_frz, cont_nx, cont_ret, fin_ret, fin_nx, frz_nil, frz_two, frz_succ, frz_z, frz_zn, List.getElem?_cons_zero, List.getElem?_cons_succ, setAll_cons, setAll_nil, e_var, e_cst, e_bin, e_neg, e_cmp, e_chn, e_isc, e_and, e_or, e_not, e_ite, e_tup, e_lst, e_newc, e_idx, e_from, e_upto, e_rev, e_call, e_blt, e_mth, e_trng, e_comp, es_nil, es_cons, rs_nil, rs_cons, vs_nil, vs_cons, c_no, c_yes, it_val, it_rng, it_enum, it_zip, c_F, f_F, items_tup, items_lst, rng_i, ok_noX, bind_nm, bind_tp, bind_cons, bind_nil, wipe_nil, wipe_cons, ok_bnd, ok_ret, ok_opt, ok_ask, ok_ite, ok_asB, ok_stk, oko_some, oko_none, oko_map, oko_if, boolO_bl, rd_succ, rd_fz, rd_ow, d_fz, d_ow, ow_succ, ow_zero, List.set_cons_zero, List.set_cons_succ, bin_add, bin_sub, bin_mul, bin_fdiv, bin_mod, bin_pow, add_ii, add_ll, add_tt, sub_ii, mul_ii, fdiv_ii, mod_ii, pow_ii, neg_i, eqD_ii, eqD_bb, cmp_eq, cmp_ne, cmp_lt, cmp_le, cmp_gt, cmp_ge, isc_nn, isc_bb, isc_in, isc_tn, isc_ln, blt_len_scr, blt_len_tup, blt_len_lst, blt_tuple_lst, blt_tuple_tup, blt_list_lst, blt_list_tup, blt_all, blt_any, blt_max2, blt_min2, blt_int_b, blt_int_i, blt_repr, blt_isi, Mini.ix_tup, Mini.ix_lst, Mini.ix_scr, ty_one, ty_non_int, ty_non_bool, ty_non_str, ty_non_tuple, ty_non_list, ty_bl_int, ty_bl_bool, ty_bl_str, ty_bl_tuple, ty_bl_list, ty_int_int, ty_int_bool, ty_int_str, ty_int_tuple, ty_int_list, ty_str_int, ty_str_bool, ty_str_str, ty_str_tuple, ty_str_list, ty_tup_int, ty_tup_bool, ty_tup_str, ty_tup_tuple, ty_tup_list, ty_lst_int, ty_lst_bool, ty_lst_str, ty_lst_tuple, ty_lst_list, decide_eq_true_eq, Bool.not_true, Bool.not_false, if_true, if_false, ite_true, ite_false, Bool.false_eq_true, Bool.true_eq_false, Option.map_some, true_and, and_true, reduceCtorEq, List.length_cons, List.length_nil]
  refine for_ok xs (fun i env S' => (∀ x ∈ xs, ∃ b, x = .cell b ∧ BagOk S' b) ∧ ∃ e1 e2 e3 e4 e5 e6 e7 e8, env = [some (.fz (.scr ns)), e1, e2, e3, e4, e5, e6, e7, e8]) ⟨hxs, _, _, _, _, _, _, _, _, rfl⟩ (fun i x env S' hx => ?_) (fun env S' => ?_)
  · rintro ⟨hI, e1, e2, e3, e4, e5, e6, e7, e8, rfl⟩
    obtain ⟨b, rfl, hb⟩ := hI x (List.mem_of_getElem? hx)
    simp only [ok_newc, upt_tup, upt_lst, frm_tup, frm_lst, rev_tup, rev_lst, trg_i, s_nil, s_ret, s_rtv, s_set, s_unp, s_par, s_app, s_expr, s_frz, cont_nx, cont_ret, fin_ret, fin_nx, frz_nil, frz_two, frz_succ, frz_z, frz_zn, List.getElem?_cons_zero, List.getElem?_cons_succ, setAll_cons, setAll_nil, e_var, e_cst, e_bin, e_neg, e_cmp, e_chn, e_isc, e_and, e_or, e_not, e_ite, e_tup, e_lst, e_newc, e_idx, e_from, e_upto, e_rev, e_call, e_blt, e_mth, e_trng, e_comp, es_nil, es_cons, rs_nil, rs_cons, vs_nil, vs_cons, c_no, c_yes, it_val, it_rng, it_enum, it_zip, c_F, f_F, items_tup, items_lst, rng_i, ok_noX, bind_nm, bind_tp, bind_cons, bind_nil, wipe_nil, wipe_cons, ok_bnd, ok_ret, ok_opt, ok_ask, ok_ite, ok_asB, ok_stk, oko_some, oko_none, oko_map, oko_if, boolO_bl, rd_succ, rd_fz, rd_ow, d_fz, d_ow, ow_succ, ow_zero, List.set_cons_zero, List.set_cons_succ, bin_add, bin_sub, bin_mul, bin_fdiv, bin_mod, bin_pow, add_ii, add_ll, add_tt, sub_ii, mul_ii, fdiv_ii, mod_ii, pow_ii, neg_i, eqD_ii, eqD_bb, cmp_eq, cmp_ne, cmp_lt, cmp_le, cmp_gt, cmp_ge, isc_nn, isc_bb, isc_in, isc_tn, isc_ln, blt_len_scr, blt_len_tup, blt_len_lst, blt_tuple_lst, blt_tuple_tup, blt_list_lst, blt_list_tup, blt_all, blt_any, blt_max2, blt_min2, blt_int_b, blt_int_i, blt_repr, blt_isi, Mini.ix_tup, Mini.ix_lst, Mini.ix_scr, ty_one, ty_non_int, ty_non_bool, ty_non_str, ty_non_tuple, ty_non_list, ty_bl_int, ty_bl_bool, ty_bl_str, ty_bl_tuple, ty_bl_list, ty_int_int, ty_int_bool, ty_int_str, ty_int_tuple, ty_int_list, ty_str_int, ty_str_bool, ty_str_str, ty_str_tuple, ty_str_list, ty_tup_int, ty_tup_bool, ty_tup_str, ty_tup_tuple, ty_tup_list, ty_lst_int, ty_lst_bool, ty_lst_str, ty_lst_tuple, ty_lst_list, decide_eq_true_eq, Bool.not_true, Bool.not_false, if_true, if_false, ite_true, ite_false, Bool.false_eq_true, Bool.true_eq_false, Option.map_some, true_and, and_true, reduceCtorEq, List.length_cons, List.length_nil]
    refine Ok.mono (kind_at hb) ?_
    rintro r S1 ⟨⟨d, rfl, hd⟩, hB⟩
    obtain ⟨ks, rfl, hk⟩ := ok_kind hd
    have hb1 := hB.2 b hb
    obtain ⟨ms, c, hS, hms⟩ := id hb1
    have q1 : 0 ≤ c % 200 ∧ c % 200 < 200 := ⟨Int.emod_nonneg _ (by decide), Int.emod_lt_of_pos _ (by decide)⟩
    have c1 := cut_fromI (ps := ms) (k := c % 200) (by omega) (by omega)
    simp only [ok_newc, upt_tup, upt_lst, frm_tup, frm_lst, rev_tup, rev_lst, trg_i, s_nil, s_ret, s_rtv, s_set, s_unp, s_par, s_app, s_expr, s_frz, cont_nx, cont_ret, fin_ret, fin_nx, frz_nil, frz_two, frz_succ, frz_z, frz_zn, List.getElem?_cons_zero, List.getElem?_cons_succ, setAll_cons, setAll_nil, e_var, e_cst, e_bin, e_neg, e_cmp, e_chn, e_isc, e_and, e_or, e_not, e_ite, e_tup, e_lst, e_newc, e_idx, e_from, e_upto, e_rev, e_call, e_blt, e_mth, e_trng, e_comp, es_nil, es_cons, rs_nil, rs_cons, vs_nil, vs_cons, c_no, c_yes, it_val, it_rng, it_enum, it_zip, c_F, f_F, items_tup, items_lst, rng_i, ok_noX, bind_nm, bind_tp, bind_cons, bind_nil, wipe_nil, wipe_cons, ok_bnd, ok_ret, ok_opt, ok_ask, ok_ite, ok_asB, ok_stk, oko_some, oko_none, oko_map, oko_if, boolO_bl, rd_succ, rd_fz, rd_ow, d_fz, d_ow, ow_succ, ow_zero, List.set_cons_zero, List.set_cons_succ, bin_add, bin_sub, bin_mul, bin_fdiv, bin_mod, bin_pow, add_ii, add_ll, add_tt, sub_ii, mul_ii, fdiv_ii, mod_ii, pow_ii, neg_i, eqD_ii, eqD_bb, cmp_eq, cmp_ne, cmp_lt, cmp_le, cmp_gt, cmp_ge, isc_nn, isc_bb, isc_in, isc_tn, isc_ln, blt_len_scr, blt_len_tup, blt_len_lst, blt_tuple_lst, blt_tuple_tup, blt_list_lst, blt_list_tup, blt_all, blt_any, blt_max2, blt_min2, blt_int_b, blt_int_i, blt_repr, blt_isi, Mini.ix_tup, Mini.ix_lst, Mini.ix_scr, ty_one, ty_non_int, ty_non_bool, ty_non_str, ty_non_tuple, ty_non_list, ty_bl_int, ty_bl_bool, ty_bl_str, ty_bl_tuple, ty_bl_list, ty_int_int, ty_int_bool, ty_int_str, ty_int_tuple, ty_int_list, ty_str_int, ty_str_bool, ty_str_str, ty_str_tuple, ty_str_list, ty_tup_int, ty_tup_bool, ty_tup_str, ty_tup_tuple, ty_tup_list, ty_lst_int, ty_lst_bool, ty_lst_str, ty_lst_tuple, ty_lst_list, decide_eq_true_eq, Bool.not_true, Bool.not_false, if_true, if_false, ite_true, ite_false, Bool.false_eq_true, Bool.true_eq_false, Option.map_some, true_and, and_true, reduceCtorEq, List.length_cons, List.length_nil, ix_cell hS, at2_0, at2_1, c1]
    refine ⟨by decide, ?_⟩
    refine Ok.mono (spoilt_at (m := 20) (by decide) (by decide) _ _ S1 (by rw [List.length_drop]; omega) (by rw [List.length_drop]; omega) (D.ok_mono (by decide) hk)) ?_
    rintro r2 S2 ⟨rfl, hr2⟩
    refine mid_ok hk hr2 hb1 fun e2 e3 e4 e5 e6 e7 e8 => ?_
    refine ⟨fun x hx => ?_, _, _, _, _, _, _, _, _, rfl⟩
    obtain ⟨b', rfl, hb'⟩ := hI x hx
    exact ⟨b', rfl, hB.2 b' hb'⟩
  · rintro ⟨hI, e1, e2, e3, e4, e5, e6, e7, e8, rfl⟩
    rw [cont_nx]
    exact tail_ok (e0 := some (.fz (.scr ns))) (e1 := e1) (e2 := e2) (e3 := e3) (e4 := e4) (e5 := e5) (e6 := e6) (e7 := e7) (e8 := e8) (S := S')
end K01
namespace K01
open PySem PySem.Spec PyProof.Rows L2 Mini
abbrev R : PySem.W.OpenRow := PySem.W.OpenLaw.row PySem.Challenge.rw_keeperworth_k01_kinds_known
abbrev hk : PySem.W.Hook := He.hookD 4 (fasD tc) (fnsD tc top)
def ob (s : PySem.W.SharedT) : He.AlD := He.obsDG 4 (fasD tc) (fnsD tc top) (HandSHeadRun.getT s)
theorem ob_eq (s : PySem.W.SharedT) : ob s = hk.obs s.abs := He.obsDG_eq (HandSHeadRun.getT_eq s)
def loose0 : List Str := ["is_within", "is_map", "is_way", "is_mood", "is_kind", "_law_cell_at", "_law_draws", "_law_spoilt", "_law_from", "_law_bag", "_law_bags", "_law_take", "_law_odd", "_law_tree", "_law_shelf", "_law_told_kinds", "_law_a_kind", "_law_is_way", "_law_is_kind"]
def loose : List Str := loose0
theorem runs (w : World) : HandSHeadRun.RunEq R (PySem.W.view R.prog [21]) hk ob 1200 loose w := by
  intro os
  kernel_rfl
end K01
open PySem PySem.W PySem.Calls PyProof.Rows in
theorem PySem.Challenge.cw_keeperworth_k01_kinds_known_holds : PySem.Challenge.rw_keeperworth_k01_kinds_known.Holds := by
  w_on; o_law
  refine HandSHeadRun.head_any (r := K01.R) (q := view K01.R.prog [21]) (H := K01.hk) (ob := K01.ob) (M := 1200) (loose := K01.loose) (d := HandSHeadRun.topDef K01.R.prog 21) (kwd := []) K01.ob_eq
    (by kernel_rfl) (fun s => by kernel_rfl) K01.runs (by kernel_rfl) (by kernel_rfl) (by kernel_rfl) (by rfl) (by first | assumption | decide +kernel) (by decide +kernel) ⟨rfl, rfl, rfl, rfl, rfl, by decide +kernel⟩ ?hw ?hc
  case hw => w_witness2
  case hc =>
    exact Mini.walk_mini (l := PySem.Challenge.rw_keeperworth_k01_kinds_known) (k := 130) (iL := 21) (T := K01.tc) (prog := K01.prog) (top := K01.top) (fdL := K01.f21) (by first | rfl | kernel_rfl) (by kernel_rfl) (by kernel_rfl) ⟨rfl, by decide, by decide⟩ K01.ck (by kernel_rfl) rfl (by kernel_rfl) K01.law_pure
