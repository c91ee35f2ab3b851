import PyProof.Rows.All
import PyProof.EqLayable
import HandS.ForMost
import HandS.IsInst
import HandS.TupAny
import HandS.Flow
import HandS.Wide
import HandS.Defaults
import KE.KStateDown
import HandS.Head0
import HandS.Head1
import HandS.Head2
import HandS.HeadHook1
import HandS.HeadHook2
import PySem.Challenge.RW_tenanthall_k20_tokens_told

section
set_option Elab.async false
set_option linter.all false
/-! A small Python over plain data: values, a store, an IR, its evaluator. -/
namespace Mp
open PySem

inductive D where
  | non | bl (b : Bool) | int (i : Int) | str (s : Str) | tup (ds : List D) | lst (ds : List D) | obj (i : Nat) | fn (i : Nat)

/-- an object of the store -/
inductive Ob where
  | dct (kvs : List (Str × D))

abbrev Sto := List Ob
/-- an exception: which class, its fields -/
structure Ex where
  c : Nat
  fs : List (Str × D)

inductive Res (α : Type) where
  | ok (a : α) (M : Sto)
  | exc (x : Ex) (M : Sto)
  | stk

namespace Res
variable {α β γ : Type}
@[inline] def bind (r : Res α) (k : α → Sto → Res β) : Res β := match r with
  | .ok a M => k a M
  | .exc x M => .exc x M
  | .stk => .stk
@[simp] theorem bind_ok (a : α) (M : Sto) (k : α → Sto → Res β) : bind (.ok a M) k = k a M := id rfl
@[simp] theorem bind_exc (x : Ex) (M : Sto) (k : α → Sto → Res β) : bind (.exc x M) k = .exc x M := id rfl
@[simp] theorem bind_stk (k : α → Sto → Res β) : bind (.stk : Res α) k = .stk := id rfl
end Res

/-! ### data as the library's data -/
mutual
def py : D → PyData
  | .non => .none
  | .bl b => .bool b
  | .int i => .int i
  | .str s => .str s
  | .tup ds => .tuple (pys ds)
  | .lst ds => .list (pys ds)
  | .obj _ => .none
  | .fn _ => .none
def pys : List D → List PyData
  | [] => []
  | d :: ds => py d :: pys ds
end
mutual
/-- no object, no function within; texts of signs -/
def pure? : D → Bool
  | .tup ds => pures ds
  | .lst ds => pures ds
  | .obj _ => false
  | .fn _ => false
  | .str s => PyData.strOk s
  | _ => true
def pures : List D → Bool
  | [] => true
  | d :: ds => pure? d && pures ds
end
mutual
/-- how deep -/
def dep : D → Nat
  | .tup ds => deps ds + 1
  | .lst ds => deps ds + 1
  | _ => 0
def deps : List D → Nat
  | [] => 0
  | d :: ds => max (dep d) (deps ds)
end
mutual
/-- the text of repr is no longer than this -/
def wt : D → Nat
  | .str s => 10 * s.length + 2
  | .tup ds => wts ds + 3
  | .lst ds => wts ds + 3
  | .int _ => 2000
  | _ => 5
def wts : List D → Nat
  | [] => 0
  | d :: ds => wt d + 2 + wts ds
end
mutual
/-- ints that repr writes -/
def small? : D → Bool
  | .int i => decide (i.natAbs < 2 ^ 1900)
  | .tup ds => smalls ds
  | .lst ds => smalls ds
  | _ => true
def smalls : List D → Bool
  | [] => true
  | d :: ds => small? d && smalls ds
end

/-! ### operators -/
inductive Bop where
  | add | sub | mul | fdiv | mod | pow
  deriving DecidableEq
inductive Cop where
  | eq | ne | lt | le | gt | ge | is_ | isnot
  deriving DecidableEq
inductive Ty where
  | tuple | list | int | bool | str | dict
  deriving DecidableEq
inductive Blt where
  | len | repr | tuple | list | all | any | sum | min | max | abs
  deriving DecidableEq

def line : Nat := 16000000
def widthOk (i j : Int) : Bool := decide (i.natAbs < 2 ^ 4000) && decide (j.natAbs < 2 ^ 4000)

def binI (o : Bop) (i j : Int) : Option Int := match o with
  | .add => some (i + j)
  | .sub => some (i - j)
  | .mul => if widthOk i j then some (i * j) else none
  | .fdiv => if j = 0 then none else if j.natAbs < 1073741824 then some (i.fdiv j) else if 0 < j ∧ j.natAbs < 2 ^ 4000 then some (i / j) else none
  | .mod => if j = 0 then none else some (i.fmod j)
  | .pow => if 0 ≤ j ∧ j ≤ 1000 ∧ i.natAbs < 2 ^ 64 then some (i ^ j.toNat) else none
def binD (o : Bop) (x y : D) (M : Sto) : Res D := match x, y with
  | .int i, .int j => (match binI o i j with | some k => .ok (.int k) M | none => .stk)
  | .tup a, .tup b => (match o with | .add => if a.length + b.length ≤ line then .ok (.tup (a ++ b)) M else .stk | _ => .stk)
  | .lst a, .lst b => (match o with | .add => if a.length + b.length ≤ line then .ok (.lst (a ++ b)) M else .stk | _ => .stk)
  | .str a, .str b => (match o with | .add => if a.length + b.length ≤ line then .ok (.str (a ++ b)) M else .stk | _ => .stk)
  | _, _ => .stk
def eqOk (x y : D) : Bool := pure? x && pure? y && decide (dep x ≤ 60) && decide (dep y ≤ 60)
def isNonD : D → Bool
  | .non => true
  | _ => false
def strP (x y : D) : Option Bool := match x, y with
  | .str a, .str b => some (decide (a = b))
  | _, _ => none
def cmpD (o : Cop) (x y : D) (M : Sto) : Res D := match o with
  | .eq => (match strP x y with | some b => .ok (.bl b) M | none => if eqOk x y then .ok (.bl (PyData.eqv (py x) (py y))) M else .stk)
  | .ne => (match strP x y with | some b => .ok (.bl (!b)) M | none => if eqOk x y then .ok (.bl (!PyData.eqv (py x) (py y))) M else .stk)
  | .is_ => (match y with | .non => .ok (.bl (isNonD x)) M | _ => .stk)
  | .isnot => (match y with | .non => .ok (.bl (!isNonD x)) M | _ => .stk)
  | .lt => (match x, y with | .int i, .int j => .ok (.bl (decide (i < j))) M | _, _ => .stk)
  | .le => (match x, y with | .int i, .int j => .ok (.bl (decide (i ≤ j))) M | _, _ => .stk)
  | .gt => (match x, y with | .int i, .int j => .ok (.bl (decide (j < i))) M | _, _ => .stk)
  | .ge => (match x, y with | .int i, .int j => .ok (.bl (decide (j ≤ i))) M | _, _ => .stk)
def truO (x : D) : Option Bool := match x with
  | .non => some false
  | .bl b => some b
  | .int i => some (i != 0)
  | .str s => if s.length ≤ line then some (s.length != 0) else none
  | .tup ds => some (!ds.isEmpty)
  | .lst ds => some (!ds.isEmpty)
  | _ => none
def truD (x : D) (M : Sto) : Res Bool := match truO x with
  | some b => .ok b M
  | none => .stk
def dget (kvs : List (Str × D)) (k : Str) : Option D := (kvs.find? fun p => decide (p.1 = k)).map (·.2)
def dput (kvs : List (Str × D)) (k : Str) (v : D) : List (Str × D) := if (kvs.any fun p => decide (p.1 = k)) = true then kvs.map (fun p => if p.1 = k then (p.1, v) else p) else kvs ++ [(k, v)]
def dgtD (x y : D) (M : Sto) : Res D := match x, y with
  | .obj a, .str k => (match M[a]? with | some (.dct kvs) => (match dget kvs k with | some d => .ok d M | none => .stk) | none => .stk)
  | _, _ => .stk
def idxD (x y : D) (M : Sto) : Res D := match x, y with
  | .tup ds, .int i => (match L2.atI ds i with | some d => .ok d M | none => .stk)
  | .lst ds, .int i => (match L2.atI ds i with | some d => .ok d M | none => .stk)
  | _, _ => .stk
def cutD {α : Type} (xs : List α) (lo hi : Option Int) : List α := (xs.drop (HT.sIx xs.length 0 lo)).take (HT.sIx xs.length xs.length hi - HT.sIx xs.length 0 lo)
def slcD (x : D) (lo hi : Option Int) (M : Sto) : Res D := match x with
  | .tup ds => .ok (.tup (cutD ds lo hi)) M
  | .lst ds => .ok (.lst (cutD ds lo hi)) M
  | _ => .stk
def isiD (x : D) (t : Ty) : Bool := match x, t with
  | .tup _, .tuple => true
  | .lst _, .list => true
  | .int _, .int => true
  | .bl _, .int => true
  | .bl _, .bool => true
  | .str _, .str => true
  | .obj _, .dict => true
  | _, _ => false
def isiOk (x : D) : Bool := match x with | .fn _ => false | .obj _ => false | _ => true
def reprD (x : D) (M : Sto) : Res D := if pure? x && small? x && decide (dep x ≤ 60) && decide (wt x ≤ line) then .ok (.str (PyData.shown (py x))) M else .stk
def bools : List D → Option (List Bool)
  | [] => some []
  | .bl b :: r => (bools r).map (b :: ·)
  | _ => none
def intsD : List D → Option (List Int)
  | [] => some []
  | .int b :: r => (intsD r).map (b :: ·)
  | _ => none
def bltD (b : Blt) (xs : List D) (M : Sto) : Res D := match b, xs with
  | .len, [.tup ds] => .ok (.int ds.length) M
  | .len, [.lst ds] => .ok (.int ds.length) M
  | .len, [.str s] => if s.length ≤ line then .ok (.int s.length) M else .stk
  | .repr, [x] => reprD x M
  | .tuple, [.tup ds] => .ok (.tup ds) M
  | .tuple, [.lst ds] => .ok (.tup ds) M
  | .list, [.tup ds] => .ok (.lst ds) M
  | .list, [.lst ds] => .ok (.lst ds) M
  | .all, [.lst ds] => (match bools ds with | some bs => .ok (.bl (bs.all id)) M | none => .stk)
  | .any, [.lst ds] => (match bools ds with | some bs => .ok (.bl (bs.any id)) M | none => .stk)
  | .sum, [.lst ds] => (match intsD ds with | some bs => .ok (.int bs.sum) M | none => .stk)
  | .min, [.int i, .int j] => .ok (.int (if j < i then j else i)) M
  | .max, [.int i, .int j] => .ok (.int (if j > i then j else i)) M
  | .abs, [.int i] => .ok (.int (if i < 0 then -i else i)) M
  | _, _ => .stk

/-! ### the IR -/
inductive G where
  | nm (i : Nat)
  | tp (gs : List G)

mutual
inductive E where
  | cint (i : Int) | cstr (s : Str) | cbl (b : Bool) | cnon
  | var (i : Nat)
  | own (i : Nat)
  | glob (k : Nat)
  | fnv (f : Nat)
  | tup (es : Es) | lst (es : Es)
  | bin (o : Bop) (a b : E)
  | neg (a : E)
  | cmp (o : Cop) (a b : E)
  | andv (a b : E) | orv (a b : E) | one (a : E)
  | notv (a : E)
  | ife (t : T) (a b : E)
  | idx (a b : E)
  | dgt (a b : E)
  | slc (a : E) (lo hi : O)
  | call (f sh : Nat) (es ks : Es)
  | callv (i : Nat) (es : Es)
  | blt (b : Blt) (es : Es)
  | isi (e : E) (t : Ty)
  | comp (g : G) (own : List (Str × Nat)) (it : It) (t : Ts) (elt : E)
  | dsp (ks : List Str) (vs : Es)
inductive Es where
  | nil | cons (e : E) (r : Es)
inductive O where
  | non | som (e : E)
inductive T where
  | val (e : E)
  | cmp (o : Cop) (a b : E)
  | not (t : T)
  | and (a b : T) | or (a b : T) | one (a : T)
inductive Ts where
  | nil | one (t : T)
inductive It where
  | seq (e : E)
  | rng1 (e : E) | rng2 (a b : E)
end

inductive S where
  | asg (g : G) (e : E)
  | par (i j : Nat) (a b : E)
  | ownL (i : Nat) (es : Es)
  | app (i : Nat) (e : E)
  | aug (i : Nat) (o : Bop) (e : E)
  | setd (a k e : E)
  | expr (e : E)
  | ret (e : E) | retn
  | ifs (t : T) (a b : List S)
  | forr (g : G) (it : It) (b : List S)
  | whil (t : T) (b : List S)
  | pas | brk | cnt
  | frz (i : Nat) (s : S)

/-! ### evaluation -/
inductive Slot where
  | non | val (d : D) | own (ds : List D)
abbrev Env := List Slot

structure Cal where
  cal : Nat → List D → Sto → Res D
  gl : Nat → D
  arr : Nat → Nat → List D → List D → Option (List D)

mutual
def bindG : G → D → Env → Option Env
  | .nm i, d, env => if i < env.length then some (env.set i (.val d)) else none
  | .tp gs, d, env => match d with
    | .tup ds => bindGs gs ds env
    | _ => none
def bindGs : List G → List D → Env → Option Env
  | [], [], env => some env
  | g :: gs, d :: ds, env => (bindG g d env).bind fun env' => bindGs gs ds env'
  | _, _, _ => none
end

def peek (e : E) (env : Env) (M : Sto) (r : Res D) : Res D := match e with
  | .own i => (match env[i]? with | some (.own ds) => .ok (.lst ds) M | _ => .stk)
  | _ => r

def compL (step : D → Sto → Res (Option D)) : List D → List D → Sto → Res (List D)
  | [], acc, M => .ok acc M
  | d :: ds, acc, M => match step d M with
    | .ok (some y) M' => compL step ds (acc ++ [y]) M'
    | .ok none M' => compL step ds acc M'
    | _ => .stk

def wipeE (env : Env) : List (Str × Nat) → Env
  | [] => env
  | p :: ps => (wipeE env ps).set p.2 .non

def ownFree (env : Env) (own : List (Str × Nat)) : Bool := own.all fun p => match env[p.2]? with | some (.own _) => false | _ => true

def iota (lo : Int) : Nat → List D
  | 0 => []
  | n + 1 => .int lo :: iota (lo + 1) n
def rngOk (i : Int) : Bool := decide (-1000000000 ≤ i) && decide (i < 1000000000)
mutual
def evE (c : Cal) : E → Env → Sto → Res D
  | .cint i, _, M => .ok (.int i) M
  | .cstr s, _, M => .ok (.str s) M
  | .cbl b, _, M => .ok (.bl b) M
  | .cnon, _, M => .ok .non M
  | .var i, env, M => (match env[i]? with | some (.val d) => .ok d M | _ => .stk)
  | .own _, _, _ => .stk
  | .glob k, _, M => .ok (c.gl k) M
  | .fnv f, _, M => .ok (.fn f) M
  | .tup es, env, M => (evEs c es env M).bind fun ds M => .ok (.tup ds) M
  | .lst es, env, M => (evEs c es env M).bind fun ds M => .ok (.lst ds) M
  | .bin o a b, env, M => (evE c a env M).bind fun x M => (evE c b env M).bind fun y M => binD o x y M
  | .neg a, env, M => (evE c a env M).bind fun x M => (match x with | .int i => .ok (.int (-i)) M | _ => .stk)
  | .cmp o a b, env, M => (peek a env M (evE c a env M)).bind fun x M => (peek b env M (evE c b env M)).bind fun y M => cmpD o x y M
  | .andv a b, env, M => (evE c a env M).bind fun x M => (truD x M).bind fun t M => if t = true then evE c b env M else .ok x M
  | .orv a b, env, M => (evE c a env M).bind fun x M => (truD x M).bind fun t M => if t = true then .ok x M else evE c b env M
  | .one a, env, M => evE c a env M
  | .notv a, env, M => (evE c a env M).bind fun x M => (truD x M).bind fun t M => .ok (.bl (!t)) M
  | .ife t a b, env, M => (evT c t env M).bind fun t M => if t = true then evE c a env M else evE c b env M
  | .idx a b, env, M => (peek a env M (evE c a env M)).bind fun x M => (evE c b env M).bind fun y M => idxD x y M
  | .dgt a b, env, M => (evE c a env M).bind fun x M => (evE c b env M).bind fun y M => dgtD x y M
  | .slc a lo hi, env, M => (peek a env M (evE c a env M)).bind fun x M => (evO c lo env M).bind fun l M => (evO c hi env M).bind fun h M => slcD x l h M
  | .call f sh es ks, env, M => (evEs c es env M).bind fun xs M => (evEs c ks env M).bind fun zs M => (match c.arr f sh xs zs with | some ds => c.cal f ds M | none => .stk)
  | .callv i es, env, M => (match env[i]? with | some (.val (.fn f)) => (evEs c es env M).bind fun xs M => c.cal f xs M | _ => .stk)
  | .blt b es, env, M => (evPs c es env M).bind fun xs M => bltD b xs M
  | .isi e t, env, M => (peek e env M (evE c e env M)).bind fun x M => if isiOk x then .ok (.bl (isiD x t)) M else .stk
  | .comp g own it t elt, env, M => if ownFree env own = false then .stk else (evI c it env M).bind fun ds M =>
      (compL (fun d M => match bindG g d (wipeE env own) with
        | some env2 => (evTs c t env2 M).bind fun b M => if b = true then (evE c elt env2 M).bind fun y M => .ok (some y) M else .ok none M
        | none => .stk) ds [] M).bind fun ys M => .ok (.lst ys) M
  | .dsp ks vs, env, M => (evEs c vs env M).bind fun ys M => .ok (.obj M.length) (M ++ [.dct (ks.zip ys)])
def evEs (c : Cal) : Es → Env → Sto → Res (List D)
  | .nil, _, M => .ok [] M
  | .cons e r, env, M => (evE c e env M).bind fun x M => (evEs c r env M).bind fun xs M => .ok (x :: xs) M
def evPs (c : Cal) : Es → Env → Sto → Res (List D)
  | .nil, _, M => .ok [] M
  | .cons e r, env, M => (peek e env M (evE c e env M)).bind fun x M => (evPs c r env M).bind fun xs M => .ok (x :: xs) M
def evO (c : Cal) : O → Env → Sto → Res (Option Int)
  | .non, _, M => .ok none M
  | .som e, env, M => (evE c e env M).bind fun x M => (match x with | .int i => .ok (some i) M | _ => .stk)
def evT (c : Cal) : T → Env → Sto → Res Bool
  | .val e, env, M => (peek e env M (evE c e env M)).bind fun x M => truD x M
  | .cmp o a b, env, M => (peek a env M (evE c a env M)).bind fun x M => (peek b env M (evE c b env M)).bind fun y M => (cmpD o x y M).bind fun z M => (match z with | .bl k => .ok k M | _ => .stk)
  | .not t, env, M => (evT c t env M).bind fun b M => .ok (!b) M
  | .and a b, env, M => (evT c a env M).bind fun x M => if x = true then evT c b env M else .ok false M
  | .or a b, env, M => (evT c a env M).bind fun x M => if x = true then .ok true M else evT c b env M
  | .one a, env, M => evT c a env M
def evTs (c : Cal) : Ts → Env → Sto → Res Bool
  | .nil, _, M => .ok true M
  | .one t, env, M => evT c t env M
def evI (c : Cal) : It → Env → Sto → Res (List D)
  | .seq e, env, M => (evE c e env M).bind fun x M => (match x with | .tup ds => .ok ds M | .lst ds => .ok ds M | _ => .stk)
  | .rng1 a, env, M => (evE c a env M).bind fun x M => (match x with | .int n => if rngOk n && decide (n.toNat ≤ line) then .ok (iota 0 n.toNat) M else .stk | _ => .stk)
  | .rng2 a b, env, M => (evE c a env M).bind fun x M => (evE c b env M).bind fun y M => (match x, y with | .int i, .int j => if rngOk i && rngOk j && decide ((j - i).toNat ≤ line) then .ok (iota i (j - i).toNat) M else .stk | _, _ => .stk)
end

def AugOk (o : Bop) : Bool := match o with | .add => true | .sub => true | _ => false
inductive SRes where
  | next (env : Env) (M : Sto)
  | ret (d : D) (M : Sto)
  | brk (env : Env) (M : Sto)
  | cnt (env : Env) (M : Sto)
  | exc (x : Ex) (M : Sto)
  | stk
def SRes.of {α : Type} (r : Res α) (k : α → Sto → SRes) : SRes := match r with
  | .ok a M => k a M
  | .exc x M => .exc x M
  | .stk => .stk
@[simp] theorem SRes.of_ok {α : Type} (a : α) (M : Sto) (k : α → Sto → SRes) : SRes.of (.ok a M) k = k a M := id rfl
@[simp] theorem SRes.of_exc {α : Type} (a : Ex) (M : Sto) (k : α → Sto → SRes) : SRes.of (.exc a M) k = .exc a M := id rfl
@[simp] theorem SRes.of_stk {α : Type} (k : α → Sto → SRes) : SRes.of .stk k = .stk := id rfl
def SRes.andThen (r : SRes) (k : Env → Sto → SRes) : SRes := match r with
  | .next env M => k env M
  | r => r

def forL (step : D → Env → Sto → SRes) : List D → Env → Sto → SRes
  | [], env, M => .next env M
  | d :: ds, env, M => match step d env M with
    | .next env' M' => forL step ds env' M'
    | .cnt env' M' => forL step ds env' M'
    | .brk env' M' => .next env' M'
    | r => r

/-- n turns at most -/
def whileN (t : Env → Sto → Res Bool) (b : Env → Sto → SRes) : Nat → Env → Sto → Option SRes
  | 0, _, _ => none
  | n + 1, env, M => match t env M with
    | .ok true M' => (match b env M' with
      | .next env' M'' => whileN t b n env' M''
      | .cnt env' M'' => whileN t b n env' M''
      | .brk env' M'' => some (.next env' M'')
      | r => some r)
    | .ok false M' => some (.next env M')
    | .exc x M' => some (.exc x M')
    | .stk => some .stk
open Classical in
noncomputable def whileD (t : Env → Sto → Res Bool) (b : Env → Sto → SRes) (env : Env) (M : Sto) : SRes :=
  if h : ∃ r n, whileN t b n env M = some r then h.choose else .stk

mutual
noncomputable def evS (c : Cal) : S → Env → Sto → SRes
  | .asg g e, env, M => .of (evE c e env M) fun x M => (match bindG g x env with | some env' => .next env' M | none => .stk)
  | .par i j a b, env, M => .of (evE c a env M) fun x M => .of (evE c b env M) fun y M => .next ((env.set i (.val x)).set j (.val y)) M
  | .ownL i es, env, M => .of (evEs c es env M) fun xs M => if i < env.length then .next (env.set i (.own xs)) M else .stk
  | .app i e, env, M => (match env[i]? with | some (.own ds) => .of (evE c e env M) fun x M => if ds.length < line then .next (env.set i (.own (ds ++ [x]))) M else .stk | _ => .stk)
  | .aug i o e, env, M => (match env[i]? with | some (.val y) => .of (evE c e env M) fun x M => (match y, x with | .int i0, .int j0 => if AugOk o = true then .of (binD o (.int i0) (.int j0) M) fun z M => .next (env.set i (.val z)) M else .stk | _, _ => .stk) | _ => .stk)
  | .setd a k e, env, M => .of (evE c e env M) fun x M => .of (evE c a env M) fun o M => .of (evE c k env M) fun k M => (match o, k with
      | .obj n, .str s => (match M[n]? with | some (.dct kvs) => if kvs.length < 1000 then .next env (M.set n (.dct (dput kvs s x))) else .stk | none => .stk)
      | _, _ => .stk)
  | .expr e, env, M => .of (evE c e env M) fun _ M => .next env M
  | .ret e, env, M => .of (evE c e env M) fun x M => .ret x M
  | .retn, _, M => .ret .non M
  | .ifs t a b, env, M => .of (evT c t env M) fun t M => if t = true then evSs c a env M else evSs c b env M
  | .forr g it b, env, M => .of (evI c it env M) fun ds M => forL (fun d env M => match bindG g d env with | some env' => evSs c b env' M | none => .stk) ds env M
  | .whil t b, env, M => whileD (fun env M => evT c t env M) (fun env M => evSs c b env M) env M
  | .pas, env, M => .next env M
  | .brk, env, M => .brk env M
  | .cnt, env, M => .cnt env M
  | .frz i s, env, M => (match env[i]? with | some (.own ds) => evS c s (env.set i (.val (.lst ds))) M | _ => .stk)
noncomputable def evSs (c : Cal) : List S → Env → Sto → SRes
  | [], env, M => .next env M
  | s :: r, env, M => (evS c s env M).andThen fun env M => evSs c r env M
end

structure Fn where
  np : Nat
  nn : Nat
  body : List S
def fin (r : SRes) : Res D := match r with
  | .next _ M => .ok .non M
  | .ret d M => .ok d M
  | .exc x M => .exc x M
  | _ => .stk
def env0 (f : Fn) (args : List D) : Env := args.map .val ++ List.replicate (f.nn - args.length) .non
noncomputable def callF (fns : List Fn) (gl : Nat → D) (arr : Nat → Nat → List D → List D → Option (List D)) : Nat → Nat → List D → Sto → Res D
  | 0, _, _, _ => .stk
  | n + 1, f, args, M => match fns[f]? with
    | some fd => if args.length = fd.np then fin (evSs ⟨callF fns gl arr n, gl, arr⟩ fd.body (env0 fd args) M) else .stk
    | none => .stk
end Mp
end

section
set_option Elab.async false
set_option linter.all false
set_option maxRecDepth 100000
/-! What stands for plain data in the abstract heap; the relation of a frame's slots and the store. -/
namespace Mp
open PySem PySem.Spec L2

/-- what is fixed through a law -/
structure Cfg where
  P : Program
  w : World
  K : PySem.W.Frag
  mg : Str → Option Value
  base : Heap
  fA : Nat → Addr
  cA : Nat → Addr

mutual
inductive Rep (Γ : Cfg) (G : Hp) (ρ : List Addr) : V → D → Prop
  | non : Rep Γ G ρ .non .non
  | bl (b : Bool) : Rep Γ G ρ (.bl b) (.bl b)
  | int (i : Int) : Rep Γ G ρ (.int i) (.int i)
  | str (x : Str) : Rep Γ G ρ (.str x) (.str x)
  | tup {a : Addr} {xs : List V} {ds : List D} : SqT Γ.K G a xs → Reps Γ G ρ xs ds → Rep Γ G ρ (.ref a) (.tup ds)
  | lst {a : Addr} {xs : List V} {ds : List D} : SqL Γ.K G a xs → Reps Γ G ρ xs ds → Rep Γ G ρ (.ref a) (.lst ds)
  | obj {i : Nat} {a : Addr} : ρ[i]? = some a → Rep Γ G ρ (.ref a) (.obj i)
  | fn (i : Nat) : Rep Γ G ρ (.ref (Γ.fA i)) (.fn i)
inductive Reps (Γ : Cfg) (G : Hp) (ρ : List Addr) : List V → List D → Prop
  | nil : Reps Γ G ρ [] []
  | cons {v : V} {vs : List V} {d : D} {ds : List D} : Rep Γ G ρ v d → Reps Γ G ρ vs ds → Reps Γ G ρ (v :: vs) (d :: ds)
end

/-- the second heap has all that the first has -/
abbrev Sub (G G' : Hp) : Prop := Same G G'
def Pre (ρ ρ' : List Addr) : Prop := ∀ (i : Nat) (a : Addr), ρ[i]? = some a → ρ'[i]? = some a
theorem Pre.refl (ρ : List Addr) : Pre ρ ρ := fun _ _ h => h
theorem Pre.trans {a b c : List Addr} (h : Pre a b) (k : Pre b c) : Pre a c := fun i x e => k i x (h i x e)

theorem Rd.sub {G G' : Hp} {a : Addr} {u : HO} (s : Sub G G') (h : Rd G a u) : Rd G' a u := by
  rcases h with h | ⟨o, h⟩
  · exact .inl (s _ _ h)
  · exact .inr ⟨o, s _ _ h⟩
theorem SqT.sub {K : PySem.W.Frag} {G G' : Hp} {a : Addr} {xs : List V} (s : Sub G G') (h : SqT K G a xs) : SqT K G' a xs := by
  rcases h with h | h
  · exact .inl (Rd.sub s h)
  · exact .inr h
mutual
theorem Rep.mono {Γ : Cfg} {G G' : Hp} {ρ ρ' : List Addr} (s : Sub G G') (p : Pre ρ ρ') : ∀ {v : V} {d : D}, Rep Γ G ρ v d → Rep Γ G' ρ' v d
  | _, _, .non => .non
  | _, _, .bl b => .bl b
  | _, _, .int i => .int i
  | _, _, .str x => .str x
  | _, _, .tup h t => .tup (SqT.sub s h) (Reps.mono s p t)
  | _, _, .lst h t => .lst (s.seq h) (Reps.mono s p t)
  | _, _, .obj h => .obj (p _ _ h)
  | _, _, .fn i => .fn i
theorem Reps.mono {Γ : Cfg} {G G' : Hp} {ρ ρ' : List Addr} (s : Sub G G') (p : Pre ρ ρ') : ∀ {v : List V} {d : List D}, Reps Γ G ρ v d → Reps Γ G' ρ' v d
  | _, _, .nil => .nil
  | _, _, .cons h t => .cons (Rep.mono s p h) (Reps.mono s p t)
end
theorem Reps.len {Γ : Cfg} {G : Hp} {ρ : List Addr} : ∀ {v : List V} {d : List D}, Reps Γ G ρ v d → v.length = d.length
  | _, _, .nil => rfl
  | _, _, .cons _ t => congrArg Nat.succ (Reps.len t)
theorem Reps.get {Γ : Cfg} {G : Hp} {ρ : List Addr} : ∀ {v : List V} {d : List D} {i : Nat} {y : D}, Reps Γ G ρ v d → d[i]? = some y → ∃ x, v[i]? = some x ∧ Rep Γ G ρ x y
  | _, _, 0, _, .cons h _, e => by simp at e; subst e; exact ⟨_, rfl, h⟩
  | _, _, i + 1, y, .cons _ t, e => by
    obtain ⟨x, e1, e2⟩ := Reps.get (i := i) (y := y) t (by simpa using e)
    exact ⟨x, by simpa using e1, e2⟩
  | _, _, _, _, .nil, e => by simp at e
theorem Reps.append {Γ : Cfg} {G : Hp} {ρ : List Addr} : ∀ {v w : List V} {d e : List D}, Reps Γ G ρ v d → Reps Γ G ρ w e → Reps Γ G ρ (v ++ w) (d ++ e)
  | _, _, _, _, .nil, s => s
  | _, _, _, _, .cons h t, s => .cons h (Reps.append t s)
theorem Reps.drop {Γ : Cfg} {G : Hp} {ρ : List Addr} : ∀ {v : List V} {d : List D} (n : Nat), Reps Γ G ρ v d → Reps Γ G ρ (v.drop n) (d.drop n)
  | _, _, 0, h => h
  | _, _, _ + 1, .nil => .nil
  | _, _, n + 1, .cons _ t => Reps.drop n t
theorem Reps.take {Γ : Cfg} {G : Hp} {ρ : List Addr} : ∀ {v : List V} {d : List D} (n : Nat), Reps Γ G ρ v d → Reps Γ G ρ (v.take n) (d.take n)
  | _, _, 0, _ => .nil
  | _, _, _ + 1, .nil => .nil
  | _, _, n + 1, .cons h t => .cons h (Reps.take n t)

/-- off the store -/
def Off (ρ : List Addr) (G : Hp) : Prop := ∀ a ∈ ρ, G a = none

/-- an object of the store as it stands -/
def ObRel (Γ : Cfg) (G : Hp) (ρ : List Addr) (H : Hp) (a : Addr) : Ob → Prop
  | .dct kvs => ∃ us : List (Key × V), H a = some (.dK us) ∧ us.map (·.1) = kvs.map (fun p => (Sum.inr p.1 : Key)) ∧ Reps Γ G ρ (us.map (·.2)) (kvs.map (·.2))

/-- the heap without slots. G: what stands for good; ρ: the store's places -/
structure Core (Γ : Cfg) (G : Hp) (ρ : List Addr) (M : Sto) (H : Hp) : Prop where
  gh : Sub G H
  off : Off ρ G
  nd : ρ.Nodup
  len : ρ.length = M.length
  st : ∀ (i : Nat) (o : Ob) (a : Addr), M[i]? = some o → ρ[i]? = some a → ObRel Γ G ρ H a o

/-- a step: nothing that was tracked changes but the store -/
structure Adv (G : Hp) (ρ : List Addr) (H : Hp) (G' : Hp) (ρ' : List Addr) (H' : Hp) : Prop where
  gg : Sub G G'
  pp : Pre ρ ρ'
  new : ∀ a ∈ ρ', a ∉ ρ → H a = none
  keep : ∀ b o, b ∉ ρ → H b = some o → H' b = some o
  gnew : ∀ b, G b = none → H b ≠ none → G' b = none

theorem Pre.mem {ρ ρ' : List Addr} (p : Pre ρ ρ') {a : Addr} (h : a ∈ ρ) : a ∈ ρ' := by
  obtain ⟨i, e⟩ := List.getElem?_of_mem h
  exact List.mem_of_getElem? (p i a e)
section
variable {Γ : Cfg} {G G1 G2 G' : Hp} {ρ ρ1 ρ2 ρ' : List Addr} {H H1 H2 H' : Hp} {M M' : Sto}
theorem Adv.refl (G : Hp) (ρ : List Addr) (H : Hp) : Adv G ρ H G ρ H := ⟨Same.refl _, Pre.refl _, fun a h n => absurd h n, fun _ _ _ h => h, fun _ h _ => h⟩
theorem Core.there (b : Core Γ G ρ M H) {a : Addr} (h : a ∈ ρ) : ∃ o, H a = some o := by
  obtain ⟨i, e⟩ := List.getElem?_of_mem h
  have hi : i < M.length := by rw [← b.len]; exact (List.getElem?_eq_some_iff.mp e).1
  have r := b.st i M[i] a (List.getElem?_eq_getElem hi) e
  cases q : M[i] with
  | dct kvs =>
    rw [q] at r
    obtain ⟨us, e1, _⟩ := r
    exact ⟨_, e1⟩
theorem Adv.trans (a : Adv G ρ H G1 ρ1 H1) (c : Core Γ G1 ρ1 M H1) (b : Adv G1 ρ1 H1 G2 ρ2 H2) : Adv G ρ H G2 ρ2 H2 where
  gg := a.gg.trans b.gg
  pp := a.pp.trans b.pp
  new := fun x h n => by
    by_cases h1 : x ∈ ρ1
    · exact a.new x h1 n
    · cases e : H x with
      | none => rfl
      | some o =>
        have := a.keep x o n e
        rw [b.new x h h1] at this
        cases this
  keep := fun x o n e => by
    have e1 := a.keep x o n e
    by_cases h1 : x ∈ ρ1
    · rw [a.new x h1 n] at e; cases e
    · exact b.keep x o h1 e1
  gnew := fun x h n => by
    refine b.gnew x (a.gnew x h n) fun e => ?_
    by_cases h1 : x ∈ ρ
    · obtain ⟨o, q⟩ := c.there (a.pp.mem h1)
      rw [q] at e; cases e
    · cases q : H x with
      | none => exact n q
      | some o => rw [a.keep x o h1 q] at e; cases e
end

def SlotRel (Γ : Cfg) (H0 G : Hp) (ρ : List Addr) (H : Hp) (x : Option (Option V)) : Slot → Prop
  | .non => True
  | .val d => ∃ v, x = some (some v) ∧ Rep Γ G ρ v d
  | .own ds => ∃ (a : Addr) (vs : List V), x = some (some (.ref a)) ∧ G a = none ∧ a ∉ ρ ∧ H0 a = none ∧ H a = some (.lst vs) ∧ Reps Γ G ρ vs ds

/-- the frame's slots too; H0: the heap at the def's entry -/
structure Rel (Γ : Cfg) (H0 G : Hp) (ρ : List Addr) (M : Sto) (σ : L2.St) (env : Env) (H : Hp) : Prop extends Core Γ G ρ M H where
  slen : σ.length = env.length
  sl : ∀ (i : Nat) (s : Slot), env[i]? = some s → SlotRel Γ H0 G ρ H σ[i]? s
  dis : ∀ (i j : Nat) (a : Addr) (ds es : List D), env[i]? = some (.own ds) → env[j]? = some (.own es) → σ[i]? = some (some (.ref a)) → σ[j]? = some (some (.ref a)) → i = j
theorem SlotRel.adv {Γ : Cfg} {H0 G G' : Hp} {ρ ρ' : List Addr} {H H' : Hp} {x : Option (Option V)} {s : Slot} (a : Adv G ρ H G' ρ' H') (h : SlotRel Γ H0 G ρ H x s) : SlotRel Γ H0 G' ρ' H' x s := by
  cases s with
  | non => trivial
  | val d =>
    obtain ⟨v, e, r⟩ := h
    exact ⟨v, e, Rep.mono a.gg a.pp r⟩
  | own ds =>
    obtain ⟨b, vs, e, g, n, f, l, r⟩ := h
    refine ⟨b, vs, e, a.gnew b g (by rw [l]; simp), fun m => ?_, f, a.keep b _ n l, Reps.mono a.gg a.pp r⟩
    rw [a.new b m n] at l; cases l
theorem Rel.adv {Γ : Cfg} {H0 G G' : Hp} {ρ ρ' : List Addr} {M M' : Sto} {σ : L2.St} {env : Env} {H H' : Hp} (r : Rel Γ H0 G ρ M σ env H) (a : Adv G ρ H G' ρ' H') (c : Core Γ G' ρ' M' H') : Rel Γ H0 G' ρ' M' σ env H' :=
  ⟨c, r.slen, fun i s e => (r.sl i s e).adv a, r.dis⟩

/-- what a peeked value stands for: as it is read for good, or a list of the frame's own -/
def PRep (Γ : Cfg) (G : Hp) (ρ : List Addr) (H : Hp) (v : V) (d : D) : Prop :=
  Rep Γ G ρ v d ∨ ∃ (a : Addr) (vs : List V) (ds : List D), v = .ref a ∧ d = .lst ds ∧ H a = some (.lst vs) ∧ a ∉ ρ ∧ Reps Γ G ρ vs ds
section
variable {Γ : Cfg} {G G' : Hp} {ρ ρ' : List Addr} {H H' : Hp} {v : V} {d : D} {ds : List D}
theorem PRep.step (st : Adv G ρ H G' ρ' H') (h : PRep Γ G ρ H v d) : PRep Γ G' ρ' H' v d := by
  rcases h with h | ⟨a, vs, ds, rfl, rfl, e, n, r⟩
  · exact .inl (Rep.mono st.gg st.pp h)
  · refine .inr ⟨a, vs, ds, rfl, rfl, st.keep a _ n e, fun h => ?_, Reps.mono st.gg st.pp r⟩
    rw [st.new a h n] at e; cases e
theorem PRep.lst (s : Sub G H) (h : PRep Γ G ρ H v (.lst ds)) : ∃ a vs, v = .ref a ∧ SqL Γ.K H a vs ∧ Reps Γ G ρ vs ds := by
  rcases h with h | ⟨a, vs, ds', rfl, e, e1, n, r⟩
  · cases h with
    | lst h r => exact ⟨_, _, rfl, s.seq h, r⟩
  · cases e
    exact ⟨a, vs, rfl, .of e1, r⟩
theorem PRep.tup (s : Sub G H) (h : PRep Γ G ρ H v (.tup ds)) : ∃ a vs, v = .ref a ∧ SqT Γ.K H a vs ∧ Reps Γ G ρ vs ds := by
  rcases h with h | ⟨a, vs, ds', rfl, e, e1, n, r⟩
  · cases h with
    | tup h r => exact ⟨_, _, rfl, SqT.sub s h, r⟩
  · cases e
theorem PRep.rep (h : PRep Γ G ρ H v d) (n : ∀ ds, d ≠ .lst ds) : Rep Γ G ρ v d := by
  rcases h with h | ⟨a, vs, ds', rfl, e, _⟩
  · exact h
  · exact absurd e (n _)
end

mutual
theorem Rep.dp {Γ : Cfg} {G H : Hp} {ρ : List Addr} (s : Sub G H) : ∀ {v : V} {d : D}, Rep Γ G ρ v d → pure? d = true → Dp Γ.K H v (py d)
  | _, _, .non, _ => .non
  | _, _, .bl b, _ => .bl b
  | _, _, .int i, _ => .int i
  | _, _, .str x, _ => .str x
  | _, _, .tup h t, p => by rw [py]; exact .tup (SqT.sub s h) (Reps.dp s t (by rw [pure?] at p; exact p))
  | _, _, .lst h t, p => by rw [py]; exact .lst (s.seq h) (Reps.dp s t (by rw [pure?] at p; exact p))
  | _, _, .obj h, p => by rw [pure?] at p; cases p
  | _, _, .fn i, p => by rw [pure?] at p; cases p
theorem Reps.dp {Γ : Cfg} {G H : Hp} {ρ : List Addr} (s : Sub G H) : ∀ {v : List V} {d : List D}, Reps Γ G ρ v d → pures d = true → DpAll Γ.K H v (pys d)
  | _, _, .nil, _ => by rw [pys]; exact .nil
  | _, _, .cons h t, p => by
    rw [pures, Bool.and_eq_true] at p
    rw [pys]
    exact .cons (Rep.dp s h p.1) (Reps.dp s t p.2)
end
theorem PRep.dp {Γ : Cfg} {G H : Hp} {ρ : List Addr} {v : V} {d : D} (s : Sub G H) (h : PRep Γ G ρ H v d) (p : pure? d = true) : Dp Γ.K H v (py d) := by
  rcases h with h | ⟨a, vs, ds', rfl, rfl, e1, n, r⟩
  · exact Rep.dp s h p
  · rw [py]
    rw [pure?] at p
    exact .lst (.of e1) (Reps.dp s r p)
mutual
theorem depth_py : ∀ d : D, (py d).depth = dep d
  | .non => by simp [py, dep, PyData.depth]
  | .bl _ => by simp [py, dep, PyData.depth]
  | .int _ => by simp [py, dep, PyData.depth]
  | .str _ => by simp [py, dep, PyData.depth]
  | .tup ds => by simp [py, dep, PyData.depth, depth_pys ds]
  | .lst ds => by simp [py, dep, PyData.depth, depth_pys ds]
  | .obj _ => by simp [py, dep, PyData.depth]
  | .fn _ => by simp [py, dep, PyData.depth]
theorem depth_pys : ∀ d : List D, PyData.depthAll (pys d) = deps d
  | [] => by simp [pys, deps, PyData.depthAll]
  | d :: ds => by simp [pys, deps, PyData.depthAll, depth_py d, depth_pys ds]
end
end Mp
end

section
set_option Elab.async false
set_option linter.all false
set_option maxRecDepth 100000
/-! An evaluator's result as a reading. -/
namespace Mp
open PySem PySem.Spec L2

abbrev XW := Ex → Hp → List Addr → Hp → Prop
abbrev RR (β α : Type) := Hp → List Addr → Hp → β → α → Prop

def Post {α β : Type} (XE : XW) (R : RR β α) (Γ : Cfg) (G : Hp) (ρ : List Addr) (H : Hp) (r : Res α) (Q : β → Hp → Prop) : Prop := match r with
  | .ok a M' => ∀ G' ρ' H' b, Adv G ρ H G' ρ' H' → Core Γ G' ρ' M' H' → R G' ρ' H' b a → Q b H'
  | .exc x M' => ∀ G' ρ' H', Adv G ρ H G' ρ' H' → Core Γ G' ρ' M' H' → XE x G' ρ' H'
  | .stk => False

def tG {α β : Type} (XE : XW) (R : RR β α) (Γ : Cfg) (ev : Env → Sto → Res α) : L2.St → Hp → (β → Hp → Prop) → Prop := fun σ H Q =>
  ∃ H0 G ρ M env, Rel Γ H0 G ρ M σ env H ∧ Post XE R Γ G ρ H (ev env M) Q

abbrev RepS (Γ : Cfg) : RR V D := fun G ρ _ v d => Rep Γ G ρ v d
abbrev RepP (Γ : Cfg) : RR V D := fun G ρ H v d => PRep Γ G ρ H v d
abbrev RepLS (Γ : Cfg) : RR (List V) (List D) := fun G ρ _ v d => Reps Γ G ρ v d
inductive PReps (Γ : Cfg) (G : Hp) (ρ : List Addr) (H : Hp) : List V → List D → Prop
  | nil : PReps Γ G ρ H [] []
  | cons {v vs d ds} : PRep Γ G ρ H v d → PReps Γ G ρ H vs ds → PReps Γ G ρ H (v :: vs) (d :: ds)
abbrev RepLP (Γ : Cfg) : RR (List V) (List D) := fun G ρ H v d => PReps Γ G ρ H v d
abbrev RepEq (α : Type) : RR α α := fun _ _ _ b a => b = a

section
variable {Γ : Cfg} {H0 G G1 G2 G' : Hp} {ρ ρ1 ρ2 ρ' : List Addr} {σ : L2.St} {env : Env} {H H1 H2 H' : Hp} {M M1 M2 M' : Sto} {XE : XW} {α β γ δ ε ζ : Type} {R : RR β α} {R1 : RR δ γ} {R2 : RR ζ ε}

/-- what is told stays so through a step -/
def Pers {α β : Type} (R : RR β α) : Prop := ∀ {G ρ H G' ρ' H' b a}, Adv G ρ H G' ρ' H' → R G ρ H b a → R G' ρ' H' b a
theorem persS : Pers (RepS Γ) := fun st h => Rep.mono st.gg st.pp h
theorem persP : Pers (RepP Γ) := fun st h => PRep.step st h
theorem persLS : Pers (RepLS Γ) := fun st h => Reps.mono st.gg st.pp h
theorem persLP : Pers (RepLP Γ) := by
  intro G ρ H G' ρ' H' b a st h
  induction h with
  | nil => exact .nil
  | cons h _ ih => exact .cons (PRep.step st h) ih
theorem persEq : Pers (RepEq α) := fun _ h => h

theorem Post.step {r : Res α} {Q : β → Hp → Prop} (st : Adv G ρ H G1 ρ1 H1) (c : Core Γ G1 ρ1 M1 H1) (p : Post XE R Γ G ρ H r Q) : Post XE R Γ G1 ρ1 H1 r Q := by
  cases r with
  | ok a M' => exact fun G' ρ' H' b s2 c2 h => p G' ρ' H' b (st.trans c s2) c2 h
  | exc x M' => exact fun G' ρ' H' s2 c2 => p G' ρ' H' (st.trans c s2) c2
  | stk => exact p
theorem Post.bind {r : Res γ} {k : γ → Sto → Res α} {Q : β → Hp → Prop} (p : Post XE R Γ G ρ H (r.bind k) Q) :
    Post XE R1 Γ G ρ H r (fun b H1 => ∃ G1 ρ1 M1 a, Adv G ρ H G1 ρ1 H1 ∧ Core Γ G1 ρ1 M1 H1 ∧ R1 G1 ρ1 H1 b a ∧ Post XE R Γ G1 ρ1 H1 (k a M1) Q) := by
  cases r with
  | ok a M' => exact fun G' ρ' H' b st c h => ⟨G', ρ', M', a, st, c, h, Post.step st c p⟩
  | exc x M' => exact p
  | stk => exact p
theorem Post.mono {r : Res α} {Q Q' : β → Hp → Prop} (p : Post XE R Γ G ρ H r Q) (h : ∀ b H1, Q b H1 → Q' b H1) : Post XE R Γ G ρ H r Q' := by
  cases r with
  | ok a M' => exact fun G' ρ' H' b st c hr => h _ _ (p G' ρ' H' b st c hr)
  | exc x M' => exact p
  | stk => exact p
theorem Post.now {a : α} {Q : β → Hp → Prop} {b : β} (c : Core Γ G ρ M H) (p : Post XE R Γ G ρ H (.ok a M) Q) (h : R G ρ H b a) : Q b H := p G ρ H b (Adv.refl _ _ _) c h

theorem tG.bind {ev : Env → Sto → Res γ} {k : Env → γ → Sto → Res α} {Q : β → Hp → Prop} (h : tG XE R Γ (fun env M => (ev env M).bind (k env)) σ H Q) :
    tG XE R1 Γ ev σ H (fun b H1 => ∃ H0 G1 ρ1 M1 env a, Rel Γ H0 G1 ρ1 M1 σ env H1 ∧ R1 G1 ρ1 H1 b a ∧ Post XE R Γ G1 ρ1 H1 (k env a M1) Q) := by
  obtain ⟨H0, G, ρ, M, env, rel, p⟩ := h
  refine ⟨H0, G, ρ, M, env, rel, Post.mono (Post.bind (R1 := R1) p) ?_⟩
  rintro b H1 ⟨G1, ρ1, M1, a, st, c, h1, p1⟩
  exact ⟨H0, G1, ρ1, M1, env, a, rel.adv st c, h1, p1⟩
theorem tG.bind2 {ea : Env → Sto → Res γ} {eb : Env → Sto → Res ε} {k : Env → γ → ε → Sto → Res α} {Q : β → Hp → Prop} (p1 : Pers R1)
    (h : tG XE R Γ (fun env M => (ea env M).bind fun x M => (eb env M).bind fun y M => k env x y M) σ H Q) :
    tG XE R1 Γ ea σ H (fun b1 H1 => tG XE R2 Γ eb σ H1 (fun b2 H2 => ∃ H0 G ρ M env x y, Rel Γ H0 G ρ M σ env H2 ∧ R1 G ρ H2 b1 x ∧ R2 G ρ H2 b2 y ∧ Post XE R Γ G ρ H2 (k env x y M) Q)) := by
  obtain ⟨H0, G, ρ, M, env, rel, p⟩ := tG.bind (R1 := R1) h
  refine ⟨H0, G, ρ, M, env, rel, Post.mono p ?_⟩
  rintro b H1 ⟨H0', G1, ρ1, M1, env1, a, rel1, h1, q1⟩
  refine ⟨H0', G1, ρ1, M1, env1, rel1, Post.mono (Post.bind (R1 := R2) q1) ?_⟩
  rintro b2 H2 ⟨G2, ρ2, M2, a2, st2, c2, h2, q2⟩
  exact ⟨H0', G2, ρ2, M2, env1, a, a2, rel1.adv st2 c2, p1 st2 h1, h2, q2⟩
/-- a weaker end -/
theorem tG.mono {ev : Env → Sto → Res α} {Q Q' : β → Hp → Prop} (h : tG XE R Γ ev σ H Q) (hq : ∀ b H1, Q b H1 → Q' b H1) : tG XE R Γ ev σ H Q' := by
  obtain ⟨H0, G, ρ, M, env, rel, p⟩ := h
  exact ⟨H0, G, ρ, M, env, rel, Post.mono p hq⟩

/-! ### a new object that stands for good -/
theorem Core.fresh (b : Core Γ G ρ M H) {p : Addr} (h : H p = none) : p ∉ ρ ∧ G p = none := by
  refine ⟨fun m => ?_, b.gh.free h⟩
  obtain ⟨o, e⟩ := b.there m
  rw [h] at e; cases e
theorem ObRel.mono {a : Addr} {o : Ob} (s : Sub G G') (p : Pre ρ ρ') (e : H' a = H a) (h : ObRel Γ G ρ H a o) : ObRel Γ G' ρ' H' a o := by
  cases o with
  | dct kvs =>
    obtain ⟨us, e1, e2, r⟩ := h
    exact ⟨us, e.trans e1, e2, Reps.mono s p r⟩
theorem sub_upd {p : Addr} {o : HO} (h : G p = none) : Sub G (upd G p o) := fun b x e => by
  rw [upd_ne (ne_of_none e h)]
  exact e
theorem Core.alloc {p : Addr} {o : HO} (b : Core Γ G ρ M H) (h : H p = none) : Core Γ (upd G p o) ρ M (upd H p o) := by
  obtain ⟨hρ, hG⟩ := b.fresh h
  have sg : Sub G (upd G p o) := sub_upd hG
  refine ⟨fun q x e => ?_, fun a m => ?_, b.nd, b.len, fun i ob a e1 e2 => ?_⟩
  · by_cases hq : q = p
    · subst hq; rw [upd_same] at e ⊢; exact e
    · rw [upd_ne hq] at e ⊢; exact b.gh q x e
  · have : a ≠ p := fun z => hρ (z ▸ m)
    rw [upd_ne this]; exact b.off a m
  · have : a ≠ p := fun z => hρ (z ▸ List.mem_of_getElem? e2)
    exact ObRel.mono sg (Pre.refl _) (upd_ne this) (b.st i ob a e1 e2)
theorem Adv.alloc {p : Addr} {o : HO} (b : Core Γ G ρ M H) (h : H p = none) : Adv G ρ H (upd G p o) ρ (upd H p o) :=
  ⟨sub_upd (b.fresh h).2, Pre.refl _, fun a m n => absurd m n, fun q x n e => by rw [upd_ne (ne_of_none e h)]; exact e, fun q e n => by
    have : q ≠ p := fun z => n (z ▸ h)
    rw [upd_ne this]; exact e⟩
/-- a new object that nobody has frozen -/
theorem Core.laid {p : Addr} {o : HO} (b : Core Γ G ρ M H) (h : H p = none) : Core Γ G ρ M (upd H p o) := by
  obtain ⟨hρ, hG⟩ := b.fresh h
  refine ⟨fun q x e => ?_, b.off, b.nd, b.len, fun i ob a e1 e2 => ?_⟩
  · have : q ≠ p := fun z => by rw [z, hG] at e; cases e
    rw [upd_ne this]; exact b.gh q x e
  · have : a ≠ p := fun z => hρ (z ▸ List.mem_of_getElem? e2)
    exact ObRel.mono (Same.refl _) (Pre.refl _) (upd_ne this) (b.st i ob a e1 e2)
theorem Adv.laid {p : Addr} {o : HO} (h : H p = none) : Adv G ρ H G ρ (upd H p o) :=
  ⟨Same.refl _, Pre.refl _, fun a m n => absurd m n, fun q x n e => by rw [upd_ne (ne_of_none e h)]; exact e, fun q e n => e⟩
theorem Post.new {a : α} {Q : β → Hp → Prop} {b : β} {p : Addr} {o : HO} (c : Core Γ G ρ M H) (q : Post XE R Γ G ρ H (.ok a M) Q) (hp : H p = none) (h : R (upd G p o) ρ (upd H p o) b a) : Q b (upd H p o) :=
  q _ _ _ b (Adv.alloc c hp) (c.alloc hp) h
end
end Mp
end

section
set_option Elab.async false
set_option linter.all false
set_option maxRecDepth 100000
/-! The operators keep to the evaluator. -/
namespace Mp
open PySem PySem.Spec L2

def opB : Bop → Operator
  | .add => .Add | .sub => .Sub | .mul => .Mult | .fdiv => .FloorDiv | .mod => .Mod | .pow => .Pow
def opC : Cop → CmpOp
  | .eq => .Eq | .ne => .NotEq | .lt => .Lt | .le => .LtE | .gt => .Gt | .ge => .GtE | .is_ => .Is | .isnot => .IsNot

theorem line_le {n : Nat} (h : n ≤ line) : n ≤ sizeLine := by rw [sizeLine_eq]; unfold line at h; omega

section
variable {Γ : Cfg} {X : Cx} {XE : XW}
def BinS (Γ : Cfg) (XE : XW) (o : Bop) : R2 := fun x y H Q => ∃ G ρ M a b, Core Γ G ρ M H ∧ Rep Γ G ρ x a ∧ Rep Γ G ρ y b ∧ Post XE (RepS Γ) Γ G ρ H (binD o a b M) Q

theorem op_catL : OpR X (binaryOp .Add) (fun x y H Q => ∃ l b xs zs, x = .ref l ∧ y = .ref b ∧ SqL X.K H l xs ∧ SqL X.K H b zs ∧ xs.length + zs.length ≤ sizeLine ∧ ∀ p, H p = none → Q (.ref p) (upd H p (.lst (xs ++ zs)))) := by
  intro pins s σ H x y v u Q I rx ry h
  obtain ⟨l, b, xs, zs, rfl, rfl, hH, hB, hz, q⟩ := h
  cases rx
  cases ry
  obtain ⟨its, r, ⟨⟨c1, d1, a1, s1⟩, n, e, ec, ed, ea⟩, z⟩ := I.list hH
  obtain ⟨its2, r2, ⟨⟨c2, d2, a2, s2⟩, n2, e2, ec2, ed2, ea2⟩, z2⟩ := I.list hB
  simp only at ec ed ea ec2 ed2 ea2
  subst ec ea ec2 ea2
  have hl := r.length
  have hl2 := r2.length
  refine concat_meets ⟨_, e, rfl⟩ ⟨_, e2, rfl⟩ noFill_list_add seq_list_add PySem.F.slot_list_add PySem.F.entry_list_add (PySem.F.args_list_add_2 _ _) (PyProof.Rows.list_addW l b its.toArray its2.toArray n n2 d1 d2 s1 s2 (by rw [List.size_toArray, List.size_toArray]; omega)) ⟨e, e2, ?_⟩
  have ea : its.toArray ++ its2.toArray = (its ++ its2).toArray := by simp
  rw [ea]
  exact ⟨.ref _, _, I.lnew (t' := s.toks) (r.append r2) (by rw [List.length_append]; omega), rfl, q _ I.fresh⟩

theorem Reps.nilL {G : Hp} {ρ : List Addr} {ds : List D} (h : Reps Γ G ρ [] ds) : ds = [] := by cases h; rfl
theorem Reps.nilR {G : Hp} {ρ : List Addr} {vs : List V} (h : Reps Γ G ρ vs []) : vs = [] := by cases h; rfl

theorem op_bin (hK : X.K = Γ.K) (o : Bop) : OpR X (binaryOp (opB o)) (BinS Γ XE o) := by
  intro pins s σ' H x y v u Q I rx ry h
  obtain ⟨G, ρ, M, a, b, rel, ra, rb, p⟩ := h
  cases ra with
  | int i =>
    cases rb with
    | int j =>
      have fin : ∀ k, binI o i j = some k → Q (.int k) H := fun k e => by
        simp only [binD, e] at p
        exact Post.now rel p (.int k)
      cases o with
      | add => exact op_add pins s σ' H _ _ v u Q I rx ry ⟨i, j, rfl, rfl, fin _ rfl⟩
      | sub => exact op_sub pins s σ' H _ _ v u Q I rx ry ⟨i, j, rfl, rfl, fin _ rfl⟩
      | mul =>
        by_cases hw : widthOk i j = true
        · have hw' := hw
          simp only [widthOk, Bool.and_eq_true, decide_eq_true_eq] at hw'
          exact op_mulW pins s σ' H _ _ v u Q I rx ry ⟨i, j, rfl, rfl, wide_mul hw'.1 hw'.2 (by omega) (by omega) (by omega), fin _ (by simp [binI, hw])⟩
        · simp [binD, binI, hw, Post] at p
      | fdiv =>
        by_cases h0 : j = 0
        · simp [binD, binI, h0, Post] at p
        · by_cases h1 : j.natAbs < 1073741824
          · exact op_fdivN pins s σ' H _ _ v u Q I rx ry ⟨i, j, rfl, rfl, ⟨h0, h1⟩, fin _ (by simp only [binI, if_neg h0, if_pos h1])⟩
          · by_cases h2 : 0 < j ∧ j.natAbs < 2 ^ 4000
            · exact op_fdivW pins s σ' H _ _ v u Q I rx ry ⟨i, j, rfl, rfl, wide_div h2.1 h2.2 (by omega) (by omega), fin _ (by simp only [binI, if_neg h0, if_neg h1, if_pos h2])⟩
            · simp only [binD, binI, if_neg h0, if_neg h1, if_neg h2, Post] at p
      | mod =>
        by_cases h0 : j = 0
        · simp [binD, binI, h0, Post] at p
        · exact op_modN pins s σ' H _ _ v u Q I rx ry ⟨i, j, rfl, rfl, h0, fin _ (by simp only [binI, if_neg h0])⟩
      | pow =>
        by_cases h0 : 0 ≤ j ∧ j ≤ 1000 ∧ i.natAbs < 2 ^ 64
        · exact op_pow pins s σ' H _ _ v u Q I rx ry ⟨i, j, rfl, rfl, ⟨h0.1, by omega, h0.2.2⟩, fin _ (by simp only [binI, if_pos h0])⟩
        · simp only [binD, binI, if_neg h0, Post] at p
    | _ => exact p.elim
  | str i =>
    cases rb with
    | str j =>
      cases o with
      | add =>
        simp only [binD] at p
        by_cases hl : i.length + j.length ≤ line
        · rw [if_pos hl] at p
          exact op_add_str pins s σ' H _ _ v u Q I rx ry ⟨i, j, rfl, rfl, line_le hl, Post.now rel p (.str _)⟩
        · rw [if_neg hl] at p; exact p.elim
      | _ => exact p.elim
    | _ => exact p.elim
  | @tup ta xs ds hx rds =>
    cases rb with
    | @tup tb ys es hy res =>
      cases o with
      | add =>
        simp only [binD] at p
        by_cases hl : ds.length + es.length ≤ line
        · rw [if_pos hl] at p
          refine op_catA pins s σ' H _ _ v u Q I rx ry ⟨ta, tb, xs, ys, rfl, rfl, hK ▸ SqT.sub rel.gh hx, hK ▸ SqT.sub rel.gh hy, by rw [rds.len, res.len]; exact line_le hl, fun e => ?_, fun e e2 => ?_, fun e e2 q hq => ?_⟩
          · subst e
            have := rds.nilL; subst this
            exact Post.now rel p (.tup hy res)
          · subst e2
            have := res.nilL; subst this
            rw [List.append_nil] at p
            exact Post.now rel p (.tup hx rds)
          · have sg := sub_upd (o := HO.tup (xs ++ ys)) (rel.fresh hq).2
            exact Post.new rel p hq (.tup (.of upd_same) ((Reps.mono sg (Pre.refl _) rds).append (Reps.mono sg (Pre.refl _) res)))
        · rw [if_neg hl] at p; exact p.elim
      | _ => exact p.elim
    | _ => exact p.elim
  | @lst ta xs ds hx rds =>
    cases rb with
    | @lst tb ys es hy res =>
      cases o with
      | add =>
        simp only [binD] at p
        by_cases hl : ds.length + es.length ≤ line
        · rw [if_pos hl] at p
          refine op_catL pins s σ' H _ _ v u Q I rx ry ⟨ta, tb, xs, ys, rfl, rfl, hK ▸ rel.gh.seq hx, hK ▸ rel.gh.seq hy, by rw [rds.len, res.len]; exact line_le hl, fun q hq => ?_⟩
          have sg := sub_upd (o := HO.lst (xs ++ ys)) (rel.fresh hq).2
          exact Post.new rel p hq (.lst (.of upd_same) ((Reps.mono sg (Pre.refl _) rds).append (Reps.mono sg (Pre.refl _) res)))
        · rw [if_neg hl] at p; exact p.elim
      | _ => exact p.elim
    | _ => exact p.elim
  | _ => first | exact p.elim | (cases rb <;> exact p.elim)

def CmpS (Γ : Cfg) (XE : XW) (o : Cop) : R2 := fun x y H Q => ∃ G ρ M a b, Core Γ G ρ M H ∧ PRep Γ G ρ H x a ∧ PRep Γ G ρ H y b ∧ Post XE (RepS Γ) Γ G ρ H (cmpD o a b M) Q

theorem PRep.int {G : Hp} {ρ : List Addr} {H : Hp} {v : V} {i : Int} (h : PRep Γ G ρ H v (.int i)) : v = .int i := by
  rcases h with h | ⟨_, _, _, _, e, _⟩
  · cases h; rfl
  · cases e
theorem PRep.str {G : Hp} {ρ : List Addr} {H : Hp} {v : V} {i : Str} (h : PRep Γ G ρ H v (.str i)) : v = .str i := by
  rcases h with h | ⟨_, _, _, _, e, _⟩
  · cases h; rfl
  · cases e
theorem PRep.bl {G : Hp} {ρ : List Addr} {H : Hp} {v : V} {i : Bool} (h : PRep Γ G ρ H v (.bl i)) : v = .bl i := by
  rcases h with h | ⟨_, _, _, _, e, _⟩
  · cases h; rfl
  · cases e
theorem PRep.non {G : Hp} {ρ : List Addr} {H : Hp} {v : V} (h : PRep Γ G ρ H v .non) : v = .non := by
  rcases h with h | ⟨_, _, _, _, e, _⟩
  · cases h; rfl
  · cases e
theorem PRep.is_non {G : Hp} {ρ : List Addr} {H : Hp} {v : V} {d : D} (h : PRep Γ G ρ H v d) : decide (v = .non) = isNonD d := by
  rcases h with h | ⟨_, _, _, rfl, rfl, _⟩
  · cases h <;> simp [isNonD]
  · simp [isNonD]
mutual
theorem canLay_py : ∀ d : D, pure? d = true → (py d).canLay0 = true
  | .non, _ => by simp [py, PyData.canLay0]
  | .bl _, _ => by simp [py, PyData.canLay0]
  | .int _, _ => by simp [py, PyData.canLay0]
  | .str s, h => by rw [pure?] at h; simp [py, PyData.canLay0, h]
  | .tup ds, h => by rw [pure?] at h; simp [py, PyData.canLay0, canLay_pys ds h]
  | .lst ds, h => by rw [pure?] at h; simp [py, PyData.canLay0, canLay_pys ds h]
  | .obj _, h => by rw [pure?] at h; cases h
  | .fn _, h => by rw [pure?] at h; cases h
theorem canLay_pys : ∀ d : List D, pures d = true → PyData.canLayAll0 (pys d) = true
  | [], _ => by simp [pys, PyData.canLayAll0]
  | d :: ds, h => by
    rw [pures, Bool.and_eq_true] at h
    simp [pys, PyData.canLayAll0, canLay_py d h.1, canLay_pys ds h.2]
end
theorem isEq_ok {x y : D} (h : eqOk x y = true) : pure? x = true ∧ pure? y = true ∧ SeqAt.shaped (py x) = true ∧ SeqAt.shaped (py y) = true := by
  simp only [eqOk, Bool.and_eq_true, decide_eq_true_eq] at h
  obtain ⟨⟨⟨h1, h2⟩, h3⟩, h4⟩ := h
  refine ⟨h1, h2, ?_, ?_⟩
  · simp only [SeqAt.shaped, canLay_py x h1, depth_py, Bool.true_and, decide_eq_true_eq]; omega
  · simp only [SeqAt.shaped, canLay_py y h2, depth_py, Bool.true_and, decide_eq_true_eq]; omega
theorem strP_ok {x y : D} {b : Bool} (h : strP x y = some b) : ∃ s t, x = .str s ∧ y = .str t ∧ b = decide (s = t) := by
  unfold strP at h
  split at h
  · rename_i s t
    exact ⟨s, t, rfl, rfl, (Option.some.inj h).symm⟩
  · cases h
theorem op_cmp (hK : X.K = Γ.K) (hu : X.A.units + 64 < cLine) (o : Cop) : OpR X (compareOp (opC o)) (CmpS Γ XE o) := by
  intro pins s σ' H x y v u Q I rx ry h
  obtain ⟨G, ρ, M, a, b, rel, ra, rb, p⟩ := h
  cases o with
  | eq =>
    simp only [cmpD] at p
    cases es : strP a b with
    | some bb =>
      rw [es] at p
      obtain ⟨s1, s2, e1, e2, e3⟩ := strP_ok es
      subst e1 e2 e3
      have x1 := ra.str
      have y1 := rb.str
      subst x1 y1
      refine op_eq pins s σ' H _ _ v u Q I rx ry ⟨rfl, ?_⟩
      have e4 : decide (V.str s1 = V.str s2) = decide (s1 = s2) := by simp
      rw [e4]
      exact Post.now rel p (.bl _)
    | none =>
    rw [es] at p
    simp only at p
    by_cases he : eqOk a b = true
    · rw [if_pos he] at p
      obtain ⟨p1, p2, s1, s2⟩ := isEq_ok he
      exact op_eqD hu pins s σ' H _ _ v u Q I rx ry ⟨py a, py b, hK ▸ ra.dp rel.gh p1, hK ▸ rb.dp rel.gh p2, s1, s2, Post.now rel p (.bl _)⟩
    · rw [if_neg he] at p; exact p.elim
  | ne =>
    simp only [cmpD] at p
    cases es : strP a b with
    | some bb =>
      rw [es] at p
      obtain ⟨s1, s2, e1, e2, e3⟩ := strP_ok es
      subst e1 e2 e3
      have x1 := ra.str
      have y1 := rb.str
      subst x1 y1
      refine op_ne pins s σ' H _ _ v u Q I rx ry ⟨rfl, ?_⟩
      have e4 : decide (V.str s1 = V.str s2) = decide (s1 = s2) := by simp
      rw [e4]
      exact Post.now rel p (.bl _)
    | none =>
    rw [es] at p
    simp only at p
    by_cases he : eqOk a b = true
    · rw [if_pos he] at p
      obtain ⟨p1, p2, s1, s2⟩ := isEq_ok he
      exact op_neD hu pins s σ' H _ _ v u Q I rx ry ⟨py a, py b, hK ▸ ra.dp rel.gh p1, hK ▸ rb.dp rel.gh p2, s1, s2, Post.now rel p (.bl _)⟩
    · rw [if_neg he] at p; exact p.elim
  | is_ =>
    cases b with
    | non => exact op_isN pins s σ' H _ _ v u Q I rx ry ⟨rb.non, by rw [ra.is_non]; exact Post.now rel p (.bl _)⟩
    | _ => exact p.elim
  | isnot =>
    cases b with
    | non => exact op_notN pins s σ' H _ _ v u Q I rx ry ⟨rb.non, by
        rw [ra.is_non]
        exact Post.now rel p (.bl _)⟩
    | _ => exact p.elim
  | lt =>
    cases a with
    | int i =>
      cases b with
      | int j => exact op_lt pins s σ' H _ _ v u Q I rx ry ⟨i, j, ra.int, rb.int, Post.now rel p (.bl _)⟩
      | _ => exact p.elim
    | _ => exact p.elim
  | le =>
    cases a with
    | int i =>
      cases b with
      | int j => exact op_le pins s σ' H _ _ v u Q I rx ry ⟨i, j, ra.int, rb.int, Post.now rel p (.bl _)⟩
      | _ => exact p.elim
    | _ => exact p.elim
  | gt =>
    cases a with
    | int i =>
      cases b with
      | int j => exact op_gt pins s σ' H _ _ v u Q I rx ry ⟨i, j, ra.int, rb.int, Post.now rel p (.bl _)⟩
      | _ => exact p.elim
    | _ => exact p.elim
  | ge =>
    cases a with
    | int i =>
      cases b with
      | int j => exact op_ge pins s σ' H _ _ v u Q I rx ry ⟨i, j, ra.int, rb.int, Post.now rel p (.bl _)⟩
      | _ => exact p.elim
    | _ => exact p.elim
end
end Mp
end

section
set_option Elab.async false
set_option linter.all false
set_option maxRecDepth 100000
/-! Truth, subscripts, slices, built-ins keep to the evaluator. -/
namespace Mp
open PySem PySem.Spec L2
section
variable {Γ : Cfg} {X : Cx} {XE : XW} {G : Hp} {ρ : List Addr} {H : Hp} {M : Sto} {x y : V} {a b : D}

theorem tru_v {t : Bool} (s : Sub G H) (r : PRep Γ G ρ H x a) (e : truO a = some t) : TruV Γ.K x H t := by
  cases a with
  | non => rw [r.non]; cases e; rfl
  | bl b => rw [r.bl]; cases e; rfl
  | int i => rw [r.int]; cases e; rfl
  | str y =>
    rw [r.str]
    simp only [truO] at e
    by_cases hl : y.length ≤ line
    · rw [if_pos hl] at e
      cases e
      refine ⟨line_le hl, ?_⟩
      rw [Bool.eq_iff_iff]; simp
    · rw [if_neg hl] at e; cases e
  | tup ds =>
    obtain ⟨q, vs, rfl, hs, rs⟩ := r.tup s
    cases e
    exact .inr (.inl ⟨vs, hs, by cases rs <;> rfl⟩)
  | lst ds =>
    obtain ⟨q, vs, rfl, hs, rs⟩ := r.lst s
    cases e
    exact .inl ⟨vs, hs, by cases rs <;> rfl⟩
  | _ => cases e

theorem atI_reps {vs : List V} {ds : List D} {i : Int} {d : D} (r : Reps Γ G ρ vs ds) (h : L2.atI ds i = some d) : ∃ v, L2.atI vs i = some v ∧ Rep Γ G ρ v d := by
  unfold L2.atI at h ⊢
  rw [r.len]
  cases e : L2.ixN ds.length i with
  | none => rw [e] at h; cases h
  | some j =>
    rw [e] at h
    exact r.get h
theorem ix_of {Q : VK} (rel : Core Γ G ρ M H) (ra : PRep Γ G ρ H x a) (rb : Rep Γ G ρ y b) (p : Post XE (RepS Γ) Γ G ρ H (idxD a b M) Q) : rIx Γ.K x y H Q := by
  cases a with
  | tup ds =>
    cases rb with
    | int i =>
      obtain ⟨q, vs, rfl, hs, rs⟩ := ra.tup rel.gh
      simp only [idxD] at p
      cases e : L2.atI ds i with
      | none => rw [e] at p; exact p.elim
      | some d =>
        rw [e] at p
        obtain ⟨v, ev, rv⟩ := atI_reps rs e
        exact .inr (.inl ⟨q, vs, i, v, rfl, rfl, hs, ev, Post.now rel p rv⟩)
    | _ => exact p.elim
  | lst ds =>
    cases rb with
    | int i =>
      obtain ⟨q, vs, rfl, hs, rs⟩ := ra.lst rel.gh
      simp only [idxD] at p
      cases e : L2.atI ds i with
      | none => rw [e] at p; exact p.elim
      | some d =>
        rw [e] at p
        obtain ⟨v, ev, rv⟩ := atI_reps rs e
        exact .inl ⟨q, vs, i, v, rfl, rfl, hs, ev, Post.now rel p rv⟩
    | _ => exact p.elim
  | _ => exact p.elim

/-! ### dicts of the store -/
theorem dget_rep {k : Str} : ∀ {us : List (Key × V)} {kvs : List (Str × D)} {d : D}, us.map (·.1) = kvs.map (fun p => (Sum.inr p.1 : Key)) → Reps Γ G ρ (us.map (·.2)) (kvs.map (·.2)) → dget kvs k = some d → ∃ v, valV us (Sum.inr k) = some v ∧ Rep Γ G ρ v d
  | [], [], d, _, _, h => by simp [dget] at h
  | [], _ :: _, _, e, _, _ => by simp at e
  | _ :: _, [], _, e, _, _ => by simp at e
  | (k1, v) :: us, (s, w) :: kvs, d, e, r, h => by
    simp only [List.map_cons, List.cons.injEq] at e r
    obtain ⟨e1, e2⟩ := e
    cases r with
    | cons r1 r2 =>
      by_cases hs : s = k
      · subst hs
        have hd : w = d := by simpa [dget] using h
        subst hd
        exact ⟨v, by rw [valV_pos e1], r1⟩
      · have hk : ¬ k1 = Sum.inr k := by rw [e1]; simpa using hs
        obtain ⟨v', e3, r3⟩ := dget_rep (k := k) (d := d) e2 r2 (by simpa [dget, hs] using h)
        exact ⟨v', by rw [valV_neg hk]; exact e3, r3⟩
theorem dput_any {k : Str} : ∀ {us : List (Key × V)} {kvs : List (Str × D)}, us.map (·.1) = kvs.map (fun p => (Sum.inr p.1 : Key)) → (us.any fun p => decide (p.1 = Sum.inr k)) = (kvs.any fun p => decide (p.1 = k))
  | [], [], _ => rfl
  | [], _ :: _, e => by simp at e
  | _ :: _, [], e => by simp at e
  | (k1, v) :: us, (s, w) :: kvs, e => by
    simp only [List.map_cons, List.cons.injEq] at e
    obtain ⟨e1, e2⟩ := e
    rw [List.any_cons, List.any_cons, dput_any e2, e1]
    simp
theorem dput_map {k : Str} {v : V} {d : D} (rv : Rep Γ G ρ v d) : ∀ {us : List (Key × V)} {kvs : List (Str × D)}, us.map (·.1) = kvs.map (fun p => (Sum.inr p.1 : Key)) → Reps Γ G ρ (us.map (·.2)) (kvs.map (·.2)) →
    (us.map (fun kv => if kv.1 = Sum.inr k then (kv.1, v) else kv)).map (·.1) = (kvs.map (fun p => if p.1 = k then (p.1, d) else p)).map (fun p => (Sum.inr p.1 : Key)) ∧
      Reps Γ G ρ ((us.map (fun kv => if kv.1 = Sum.inr k then (kv.1, v) else kv)).map (·.2)) ((kvs.map (fun p => if p.1 = k then (p.1, d) else p)).map (·.2))
  | [], [], _, _ => ⟨rfl, .nil⟩
  | [], _ :: _, e, _ => by simp at e
  | _ :: _, [], e, _ => by simp at e
  | (k1, v1) :: us, (s, w) :: kvs, e, r => by
    simp only [List.map_cons, List.cons.injEq] at e r
    obtain ⟨e1, e2⟩ := e
    cases r with
    | cons r1 r2 =>
      obtain ⟨h1, h2⟩ := dput_map (k := k) rv e2 r2
      subst e1
      by_cases hs : s = k
      · subst hs
        simp only [List.map_cons, if_pos]
        exact ⟨by rw [h1], .cons rv h2⟩
      · have hk : ¬ (Sum.inr s : Key) = Sum.inr k := by simpa using hs
        simp only [List.map_cons, if_neg hs, if_neg hk]
        exact ⟨by rw [h1], .cons r1 h2⟩
theorem dput_rep {k : Str} {v : V} {d : D} {us : List (Key × V)} {kvs : List (Str × D)} (rv : Rep Γ G ρ v d) (e : us.map (·.1) = kvs.map (fun p => (Sum.inr p.1 : Key))) (r : Reps Γ G ρ (us.map (·.2)) (kvs.map (·.2))) :
    (putK us (Sum.inr k) v).map (·.1) = (dput kvs k d).map (fun p => (Sum.inr p.1 : Key)) ∧ Reps Γ G ρ ((putK us (Sum.inr k) v).map (·.2)) ((dput kvs k d).map (·.2)) := by
  unfold putK dput
  rw [dput_any e]
  split
  · exact dput_map rv e r
  · simp only [List.map_append, e]
    exact ⟨rfl, r.append (.cons rv .nil)⟩
theorem dgt_of {Q : VK} (rel : Core Γ G ρ M H) (ra : Rep Γ G ρ x a) (rb : Rep Γ G ρ y b) (p : Post XE (RepS Γ) Γ G ρ H (dgtD a b M) Q) : ∃ a v, x = .ref a ∧ DGet H a y (some v) ∧ Q v H := by
  cases ra with
  | @obj i q e =>
    cases rb with
    | str k =>
      simp only [dgtD] at p
      cases em : M[i]? with
      | none => rw [em] at p; exact p.elim
      | some o =>
        cases o with
        | dct kvs =>
          rw [em] at p
          simp only at p
          cases eg : dget kvs k with
          | none => rw [eg] at p; exact p.elim
          | some d =>
            rw [eg] at p
            obtain ⟨us, e1, e2, r⟩ := rel.st i _ q em e
            obtain ⟨v, ev, rv⟩ := dget_rep e2 r eg
            exact ⟨q, v, rfl, by rw [← ev]; exact DGet.k (k := Sum.inr k) e1, Post.now rel p rv⟩
    | _ => exact p.elim
  | _ => exact p.elim

/-! ### slices -/
theorem cut_reps {vs : List V} {ds : List D} (lo hi : Option Int) (r : Reps Γ G ρ vs ds) : Reps Γ G ρ (cutV vs lo hi) (cutD ds lo hi) := by
  unfold cutV cutD
  rw [r.len]
  exact (r.drop _).take _
theorem cut_whole {α : Type} {xs : List α} {lo hi : Option Int} (h : HT.sIx xs.length 0 lo = 0 ∧ HT.sIx xs.length xs.length hi = xs.length) : cutD xs lo hi = xs := by
  unfold cutD
  rw [h.1, h.2]
  simp
theorem slc_of {Q : VK} {lo hi : Option Int} (rel : Core Γ G ρ M H) (ra : PRep Γ G ρ H x a) (p : Post XE (RepS Γ) Γ G ρ H (slcD a lo hi M) Q) : rSlL Γ.K x lo hi H Q ∨ rSlA Γ.K x lo hi H Q := by
  cases a with
  | tup ds =>
    obtain ⟨q, vs, rfl, hs, rs⟩ := ra.tup rel.gh
    refine .inr ⟨q, vs, rfl, hs, fun h => ?_, fun h n hn => ?_⟩
    · rw [rs.len] at h
      have p' : Post XE (RepS Γ) Γ G ρ H (.ok (.tup (cutD ds lo hi)) M) Q := p
      rw [cut_whole h] at p'
      exact Post.now rel p' (ra.rep (fun _ z => by cases z))
    · have sg := sub_upd (o := HO.tup (cutV vs lo hi)) (rel.fresh hn).2
      exact Post.new (a := D.tup (cutD ds lo hi)) rel p hn (.tup (.of upd_same) (Reps.mono sg (Pre.refl _) (cut_reps lo hi rs)))
  | lst ds =>
    obtain ⟨q, vs, rfl, hs, rs⟩ := ra.lst rel.gh
    refine .inl ⟨q, vs, rfl, hs, fun n hn => ?_⟩
    have sg := sub_upd (o := HO.lst (cutV vs lo hi)) (rel.fresh hn).2
    exact Post.new (a := D.lst (cutD ds lo hi)) rel p hn (.lst (.of upd_same) (Reps.mono sg (Pre.refl _) (cut_reps lo hi rs)))
  | _ => exact p.elim

/-! ### isinstance -/
def tyN : Ty → String
  | .tuple => "tuple" | .list => "list" | .int => "int" | .bool => "bool" | .str => "str" | .dict => "dict"
def tyOf : D → String
  | .non => "NoneType" | .bl _ => "bool" | .int _ => "int" | .str _ => "str" | .tup _ => "tuple" | .lst _ => "list" | .obj _ => "dict" | .fn _ => "function"
theorem kit_all : ∀ (d : D) (t : Ty), isiOk d = true → kitB (tyOf d) (tyN t) = some (isiD d t) := by
  intro d t h
  cases d with
  | non => cases t <;> (simp only [tyOf, tyN, isiD]; decide +kernel)
  | bl b => cases t <;> (simp only [tyOf, tyN, isiD]; decide +kernel)
  | int b => cases t <;> (simp only [tyOf, tyN, isiD]; decide +kernel)
  | str b => cases t <;> (simp only [tyOf, tyN, isiD]; decide +kernel)
  | tup b => cases t <;> (simp only [tyOf, tyN, isiD]; decide +kernel)
  | lst b => cases t <;> (simp only [tyOf, tyN, isiD]; decide +kernel)
  | obj b => cases h
  | fn b => cases h
theorem tyx_tup {p : Addr} {vs : List V} (h : SqT Γ.K H p vs) : TyX Γ.K H (.ref p) (.type "tuple") := by
  rcases h with (h | ⟨o, h⟩) | ⟨o, its, n, hk, hc, _⟩
  · exact .base (.tup h)
  · exact .fTuple h
  · exact .kTuple hk hc
theorem tyx_lst {p : Addr} {vs : List V} (h : SqL Γ.K H p vs) : TyX Γ.K H (.ref p) (.type "list") := by
  rcases h with (h | ⟨o, h⟩) | ⟨o, its, n, hk, hc, _⟩
  · exact .base (.lst h)
  · exact .base (.frz h)
  · exact .kList hk hc
theorem tyx_of (s : Sub G H) (r : PRep Γ G ρ H x a) (h : isiOk a = true) : TyX Γ.K H x (.type (tyOf a)) := by
  cases a with
  | non => rw [r.non]; exact .base .non
  | bl b => rw [r.bl]; exact .base (.bl _)
  | int b => rw [r.int]; exact .base (.int _)
  | str b => rw [r.str]; exact .base (.str _)
  | tup ds =>
    obtain ⟨p, vs, rfl, hs, _⟩ := r.tup s
    exact tyx_tup hs
  | lst ds =>
    obtain ⟨p, vs, rfl, hs, _⟩ := r.lst s
    exact tyx_lst hs
  | obj b => cases h
  | fn b => cases h
end
end Mp
end

section
set_option Elab.async false
set_option linter.all false
set_option maxRecDepth 100000
/-! A def's promise where nothing is being shown by repr around it. -/
namespace Mp
open PySem PySem.Spec L2

/-- like the layer's promise of a def, but it may lean on A.guards (no repr is under way) -/
structure FnG (P : Program) (w : World) (K : PySem.W.Frag) (mg : Str → Option Value) (base : Heap) (CX : CXT) (k : Nat) (f : Addr) (fd : FuncData) (ps : List Str) (sp : Sp) : Prop where
  len : ∀ vs H Q E, sp vs H Q E → vs.length = ps.length
  run : ∀ (A : Around) (outer : List PySem.Env) (s : Shared) (H : Hp) (args : Args) (us : List Value) (vs : List V) (Q : VK) (E : XK),
    Room k A → A.guards = some [] → Env0 P w K mg base A outer s H → BindsTo s fd args (ps.zip us) → Vals vs us → sp vs H Q E →
    codeAny (model P w) A (.call (.ref f) args) (CR CX outer P w H s Q E) s
theorem FnG.up {P w K mg base CX j k f fd ps sp} (F : FnG P w K mg base CX j f fd ps sp) (h : j ≤ k) : FnG P w K mg base CX k f fd ps sp :=
  ⟨F.len, fun A outer s H args us vs Q E hr hg => F.run A outer s H args us vs Q E (hr.mono h) hg⟩
theorem FnG.less {P w K mg base CX k f fd ps} {sp sp' : Sp} (F : FnG P w K mg base CX k f fd ps sp) (h : ∀ vs H Q E, sp' vs H Q E → sp vs H Q E) : FnG P w K mg base CX k f fd ps sp' :=
  ⟨fun vs H Q E q => F.len vs H Q E (h _ _ _ _ q), fun A outer s H args us vs Q E hr hg e0 hb hv q => F.run A outer s H args us vs Q E hr hg e0 hb hv (h _ _ _ _ q)⟩

section
variable {X : Cx} {CX : CXT} {k : Nat} {f : Addr} {fd : FuncData} {ps ks : List Str} {sp : Sp} {dvs : List V} {ds : List Value} {E : XK} {x : Str} {p pos : Pos} {e : Expr} {es : List Expr} {kws : List Keyword} {t tk : TA}
  {pins : List (Addr × Obj)} {σ : L2.St} {H : Hp} {s : Shared} {Q : VK} {us ws : List Value} {vs zs : List V}
/-- the callee's end, seen by the caller -/
theorem after_call {args : Args} {us' : List Value} {vs' : List V} (F : FnG X.prog X.w X.K X.mg X.base CX k f fd ps sp) (hr : Room k X.A) (hG : X.A.guards = some []) (hx : Passes CX X E) (I : L2.Inv X pins σ H s)
    (hb : BindsTo s fd args (ps.zip us')) (r : Vals vs' us') (h : sp vs' H Q E) : codeAny (model X.prog X.w) X.A (.call (.ref f) args) (fun r s' => match r with | .ok (.ret u) => EP X pins σ Q u s' | .ok _ => False | .error e => X.xe e s') s :=
  codeAny_mono (F.run X.A X.stack s H args us' vs' Q E hr hG I.env0 hb r h) fun r s' hq => match r, hq with
    | .error e, hq => hx pins σ H s e s' I hq
    | .ok (.ret _), hq => I.after hq
theorem run_fnG (F : FnG X.prog X.w X.K X.mg X.base CX k f fd ps sp) (hr : Room k X.A) (hG : X.A.guards = some []) (hb : Binds X.K fd ps ds) (hd : Vals dvs ds) (hx : Passes CX X E)
    (I : L2.Inv X pins σ H s) (r : Vals vs us) (h : sp (vs ++ dvs) H Q E) : wpAny (model X.prog X.w) X.A (call (.ref f) us) (EP X pins σ Q) X.xe s := by
  have r2 : Vals (vs ++ dvs) (us ++ ds) := r.append hd
  have hl : (us ++ ds).length = ps.length := r2.length.symm.trans (F.len _ _ _ _ h)
  refine wpAny_call (codeAny_mono (after_call F hr hG hx I (hb s us I.kIn hl) r2 h) ?_)
  rintro (e | fl) s' hq
  · exact hq
  · cases fl <;> first | exact hq | exact False.elim hq
theorem run_fnkG {n : Nat} {g : List Value → List Value → List Value} {gV : List V → List V → List V} (F : FnG X.prog X.w X.K X.mg X.base CX k f fd ps sp) (hr : Room k X.A) (hG : X.A.guards = some [])
    (hb : KBn X.K fd ps n ks g gV) (hx : Passes CX X E) (I : L2.Inv X pins σ H s) (r : Vals vs us) (rz : Vals zs ws) (hl1 : vs.length = n) (hl2 : zs.length = ks.length) (h : sp (gV vs zs) H Q E) : wpAny (model X.prog X.w) X.A (call (.ref f) us (ks.zip ws)) (EP X pins σ Q) X.xe s := by
  have r2 := hb.rel r rz
  refine wpAny_call (codeAny_mono (after_call F hr hG hx I (hb.to s us ws I.kIn (r.length.symm.trans hl1) (rz.length.symm.trans hl2)) r2 h) ?_)
  rintro (e | fl) s' hq
  · exact hq
  · cases fl <;> first | exact hq | exact False.elim hq
/-- a def by its name -/
theorem pe_callG (F : FnG X.prog X.w X.K X.mg X.base CX k f fd ps sp) (hr : Room k X.A) (hG : X.A.guards = some []) (hg : Gl X x) (hm : X.mg x = some (.ref f)) (hk : PySem.W.keepIn X.K (.ref f) = true) (hb : Binds X.K fd ps ds)
    (hd : Vals dvs ds) (hx : Passes CX X E) (ha : PA X (e :: es) t) (hdb : (x == ("__debug__" : Str)) = false) (he : starEach (e :: es) X.env = (false, eval e X.env) :: starEach es X.env)
    (hpl : (backTo pos (starEach es X.env)).any (·.1) = false) : PE X (.Call (.Name x p) (e :: es) [] pos) (tCall sp dvs E t) := .mk fun pins s σ H Q I h =>
  wpAny_Call_Name_kw (ld_glob I hg hm (PySem.W.callWith_K (h₀ := X.base) I.ok.mod.kin hk (thn (ha.run pos pins s σ H _ I h) fun us s1 q => by
    obtain ⟨vs, H1, I1, r, q⟩ := q
    exact ⟨I1.kIn, run_fnG F hr hG hb hd hx I1 r q⟩) he hpl) hdb)
theorem pe_callG0 (F : FnG X.prog X.w X.K X.mg X.base CX k f fd ps sp) (hr : Room k X.A) (hG : X.A.guards = some []) (hg : Gl X x) (hm : X.mg x = some (.ref f)) (hk : PySem.W.keepIn X.K (.ref f) = true) (hb : Binds X.K fd ps ds)
    (hd : Vals dvs ds) (hx : Passes CX X E) (hdb : (x == ("__debug__" : Str)) = false) : PE X (.Call (.Name x p) [] [] pos) (tCall sp dvs E tNil) := .mk fun pins s σ H Q I h =>
  wpAny_Call_Name_kw (ld_glob I hg hm (PySem.W.callWith_K0 I.kIn hk (run_fnG (us := []) F hr hG hb hd hx I .nil h)) hdb)
def tCallN (sp : Sp) (n m : Nat) (gV : List V → List V → List V) (E : XK) (t tk : TA) : TE := fun σ H Q => t σ H fun vs H1 => tk σ H1 fun zs H2 => vs.length = n ∧ zs.length = m ∧ sp (gV vs zs) H2 Q E
theorem pe_callKG {n : Nat} {g : List Value → List Value → List Value} {gV : List V → List V → List V} (F : FnG X.prog X.w X.K X.mg X.base CX k f fd ps sp) (hr : Room k X.A) (hG : X.A.guards = some []) (hg : Gl X x) (hm : X.mg x = some (.ref f))
    (hk : PySem.W.keepIn X.K (.ref f) = true) (hb : KBn X.K fd ps n ks g gV) (hx : Passes CX X E) (ha : PA X (e :: es) t) (hkw : PK X kws tk) (hall : (backToKw pos (keywordEach kws X.env)).all (·.1.isSome) = true)
    (hks : (backToKw pos (keywordEach kws X.env)).filterMap (·.1) = ks) (hdb : (x == ("__debug__" : Str)) = false) (he : starEach (e :: es) X.env = (false, eval e X.env) :: starEach es X.env)
    (hpl : ((backTo pos (starEach (e :: es) X.env)).any (·.1) || (backToKw pos (keywordEach kws X.env)).any (·.1.isNone)) = false) : PE X (.Call (.Name x p) (e :: es) kws pos) (tCallN sp n ks.length gV E t tk) := .mk fun pins s σ H Q I h =>
  wpAny_Call_Name_kw (ld_glob I hg hm (PySem.W.callWith_KW (h₀ := X.base) I.ok.mod.kin hk hall (thn (ha.run pos pins s σ H _ I h) fun us s1 q => by
    obtain ⟨vs, H1, I1, r, q⟩ := q
    refine thn (hkw.run pos pins s1 σ H1 _ I1 q) fun ws s2 q2 => ?_
    obtain ⟨zs, H2, I2, rz, l1, l2, q2⟩ := q2
    rw [hks]
    exact ⟨I2.kIn, run_fnkG F hr hG hb hx I2 r rz l1 l2 q2⟩) hpl he) hdb)
end

/-- a def by its body -/
theorem fnG_of {CX : CXT} {P : Program} {w : World} {K : PySem.W.Frag} {mg : Str → Option Value} {base : Heap} {k : Nat} {f : Addr} {name qual : Str} {params : Arguments} {body : List Stmt} {scope : Scope} {dV kV doc pm cdv ct oc : Value}
    {an od : Option Addr} {osl : Array (Option Value)} {N ps : List Str} {sp : Sp} (lk : K.lookup f = some ⟨oc, od, .func (PySem.W.fnOf name qual params body scope dV kV doc pm an cdv ct), osl⟩) (hcd : PySem.W.codeIn K cdv qual = true)
    (S : FnScope N ps scope) (len : ∀ vs H Q E, sp vs H Q E → vs.length = ps.length)
    (hbody : ∀ (A : Around) (outer : List PySem.Env) (s : Shared) (H : Hp) (vs : List V) (Q : VK) (E : XK), Room k (A.deeper (PyProof.Rows.envOfC qual scope s.heap.objs.size f cdv)) → A.guards = some [] → sp vs H Q E →
      ∃ t, PSs (cxOf CX P w K mg base N qual scope f cdv A outer s H E) body t ∧ t { nx := fun _ H' => Q .non H', rt := Q } (start N vs) H) :
    FnG P w K mg base CX (k + 1) f (PySem.W.fnOf name qual params body scope dV kV doc pm an cdv ct) ps sp where
  len := len
  run := fun A outer s H args us vs Q E hr hG e0 hb r hsp => by
    have KX : K.In s.heap := e0.mod.kin.keeps fun b o q => (e0.bs b o q).1
    have lim : s.heap.NoLimit := e0.mod.nolimit.keeps fun b o q => (e0.bs b o q).1
    obtain ⟨t, ht, hq⟩ := hbody A outer s H vs Q E (hr.deeper _) hG hsp
    refine codeAny_call_function hr.depth (KX _ _ lk) rfl S.co S.gen rfl (PySem.W.codeRec_of KX hcd) (hb _ _ _ _ (wpAny_newFunctionEnv_cells S.kind (fun y hy => ?_) fun env he s1 x => ?_))
    · rcases S.par y.1 (List.of_mem_zip hy).1 with q | q
      · exact Or.inl q
      · exact Or.inr ⟨q, PySem.W.cellsFrom_some _ _ _ (Or.inl q)⟩
    · subst he
      have I := inv_start (CX := CX) (E := E) S hr.hd e0 (len _ _ _ _ hsp) r x
      refine ⟨lim.keeps x.toInCall.keep, codeAny_func (wpAny_mono (ht.run [] s1 (start N vs) H _ I hq) (fun fl s' hs => ?_) fun _ _ hs => hs)⟩
      cases fl with
      | ret u => obtain ⟨v, σ', H', J, rv, q⟩ := hs; exact ⟨v, H', J.os, J.bare, J.base, J.hok, rv, q⟩
      | next => obtain ⟨σ', H', J, q⟩ := hs; exact ⟨.non, H', J.os, J.bare, J.base, J.hok, rfl, q⟩
      | brk => obtain ⟨_, _, _, q⟩ := hs; exact q.elim
      | cont => obtain ⟨_, _, _, q⟩ := hs; exact q.elim
end Mp
end

section
set_option Elab.async false
set_option linter.all false
set_option maxRecDepth 100000
/-! The built-ins keep to the evaluator. -/
namespace Mp
open PySem PySem.Spec L2
section
variable {Γ : Cfg} {X : Cx} {XE : XW}

def BltS (Γ : Cfg) (XE : XW) (b : Blt) : List V → Hp → VK → Prop := fun xs H Q => ∃ G ρ M ds, Core Γ G ρ M H ∧ PReps Γ G ρ H xs ds ∧ Post XE (RepS Γ) Γ G ρ H (bltD b ds M) Q

theorem call_reprD (hu : X.A.units + 64 < cLine) (hG : X.A.guards = some []) : CallR X (.builtin "repr") (fun xs H Q => ∃ x d, xs = [x] ∧ Dp X.K H x d ∧ d.showable = true ∧ d.hasDict = false ∧ d.depth ≤ 60 ∧ d.shown.length ≤ sizeLine ∧ Q (.str d.shown) H) := by
  intro pins s σ H xs us Q I r h
  obtain ⟨x, d, rfl, hd, h1, h2, h3, h4, q⟩ := h
  obtain ⟨u, rfl, rx⟩ := vals1 r
  have fin : ∀ h' tk u, (∀ b o, s.heap.get? b = some o → h'.get? b = some o) → EP X pins σ Q (.str d.shown u) { s with heap := h', toks := tk } := fun h' tk u k => ⟨.str d.shown, H, I.kept k, ⟨_, rfl⟩, q⟩
  cases hd with
  | non => cases rx; exact PySem.P.repr_of_none (fin s.heap _ _ fun _ _ e => e)
  | bl b => cases rx; exact PySem.P.repr_of_bool (fin s.heap _ _ fun _ _ e => e)
  | int i =>
    obtain ⟨t, rfl⟩ := rx
    exact PySem.P.repr_of_int (by simpa [PyData.showable] using h1) (fin s.heap _ _ fun _ _ e => e)
  | str y =>
    obtain ⟨t, rfl⟩ := rx
    exact PySem.P.repr_of_str (fin s.heap _ _ fun _ _ e => e) (by simpa [PyData.shown] using h4)
  | @lst a xs ds hs ha =>
    cases rx
    obtain ⟨as, rr⟩ := Dp.reads I _ _ _ (Dp.lst hs ha) rfl
    exact repr_of_reads' rr h1 (PyData.noDict_hsm h2) hG (by omega) (fun _ _ e => e) (fun h' u tk k => fin h' tk u k) h4
  | @tup a xs ds hs ha =>
    cases rx
    obtain ⟨as, rr⟩ := Dp.reads I _ _ _ (Dp.tup hs ha) rfl
    exact repr_of_reads' rr h1 (PyData.noDict_hsm h2) hG (by omega) (fun _ _ e => e) (fun h' u tk k => fin h' tk u k) h4

end
mutual
theorem showable_py : ∀ d : D, pure? d = true → small? d = true → (py d).showable = true
  | .non, _, _ => by simp [py, PyData.showable]
  | .bl _, _, _ => by simp [py, PyData.showable]
  | .int i, _, h => by
    rw [small?, decide_eq_true_eq] at h
    simp only [py, PyData.showable, decide_eq_true_eq]
    by_cases h0 : i.natAbs = 0
    · rw [h0]; decide
    · exact Nat.lt_of_lt_of_le ((Nat.log2_lt h0).mpr h) (by omega)
  | .str s, h, _ => by simp [py, PyData.showable]
  | .tup ds, h, k => by rw [pure?] at h; rw [small?] at k; simp [py, PyData.showable, showable_pys ds h k]
  | .lst ds, h, k => by rw [pure?] at h; rw [small?] at k; simp [py, PyData.showable, showable_pys ds h k]
  | .obj _, h, _ => by rw [pure?] at h; cases h
  | .fn _, h, _ => by rw [pure?] at h; cases h
theorem showable_pys : ∀ d : List D, pures d = true → smalls d = true → PyData.showableAll (pys d) = true
  | [], _, _ => by simp [pys, PyData.showableAll]
  | d :: ds, h, k => by
    rw [pures, Bool.and_eq_true] at h
    rw [smalls, Bool.and_eq_true] at k
    simp [pys, PyData.showableAll, showable_py d h.1 k.1, showable_pys ds h.2 k.2]
end
mutual
theorem hasDict_py : ∀ d : D, (py d).hasDict = false
  | .non => by simp [py, PyData.hasDict]
  | .bl _ => by simp [py, PyData.hasDict]
  | .int _ => by simp [py, PyData.hasDict]
  | .str _ => by simp [py, PyData.hasDict]
  | .tup ds => by simp [py, PyData.hasDict, hasDict_pys ds]
  | .lst ds => by simp [py, PyData.hasDict, hasDict_pys ds]
  | .obj _ => by simp [py, PyData.hasDict]
  | .fn _ => by simp [py, PyData.hasDict]
theorem hasDict_pys : ∀ d : List D, PyData.hasDictAll (pys d) = false
  | [] => by simp [pys, PyData.hasDictAll]
  | d :: ds => by simp [pys, PyData.hasDictAll, hasDict_py d, hasDict_pys ds]
end
theorem int_text_len (i : Int) (h : i.natAbs < 2 ^ 1900) : ((toString i : String) : Str).length ≤ 2000 := by
  have h1 : i.natAbs.log2 < 1900 := by
    by_cases h0 : i.natAbs = 0
    · rw [h0]; decide
    · exact (Nat.log2_lt h0).mpr h
  have h2 := int_text_length_le (by decide) h1
  have h3 : ((toString i : String) : Str).length = (toString i).length := ofString_length _
  omega
mutual
theorem shown_wt : ∀ d : D, pure? d = true → small? d = true → (py d).shown.length ≤ wt d
  | .non, _, _ => by simp only [py, PyData.shown_none, wt]; decide
  | .bl b, _, _ => by simp only [py, PyData.shown_bool, wt]; cases b <;> decide
  | .int i, _, h => by
    rw [small?, decide_eq_true_eq] at h
    rw [py, PyData.shown_int, wt]
    exact int_text_len i h
  | .str s, h, _ => by
    rw [pure?] at h
    rw [py, PyData.shown_str, wt]
    refine StrLaws.reprText_len s fun c hc => ?_
    unfold PyData.strOk at h
    rw [Array.all_eq_true'] at h
    have := h c (by simpa using hc)
    simp only [decide_eq_true_eq] at this
    omega
  | .tup ds, h, k => by
    rw [pure?] at h; rw [small?] at k
    rw [py, wt]
    have q := shown_wts ds h k
    have l := tupleText_len_le (PyData.shownAll (pys ds))
    rw [PyData.shownAll_length] at l
    rw [PyData.shown]
    omega
  | .lst ds, h, k => by
    rw [pure?] at h; rw [small?] at k
    rw [py, wt]
    have q := shown_wts ds h k
    have l := listText_len_le (PyData.shownAll (pys ds))
    rw [PyData.shownAll_length] at l
    rw [PyData.shown]
    omega
  | .obj _, h, _ => by rw [pure?] at h; cases h
  | .fn _, h, _ => by rw [pure?] at h; cases h
theorem shown_wts : ∀ d : List D, pures d = true → smalls d = true → ((PyData.shownAll (pys d)).map (·.length)).sum + 2 * (pys d).length ≤ wts d
  | [], _, _ => by simp [pys, PyData.shownAll, wts]
  | d :: ds, h, k => by
    rw [pures, Bool.and_eq_true] at h
    rw [smalls, Bool.and_eq_true] at k
    have a := shown_wt d h.1 k.1
    have b := shown_wts ds h.2 k.2
    rw [pys, PyData.shownAll_cons, wts]
    simp only [List.map_cons, List.sum_cons, List.length_cons]
    omega
end

section
variable {Γ : Cfg} {X : Cx} {XE : XW}
theorem PReps.one {G : Hp} {ρ : List Addr} {H : Hp} {xs : List V} {d : D} (h : PReps Γ G ρ H xs [d]) : ∃ x, xs = [x] ∧ PRep Γ G ρ H x d := by
  cases h with
  | cons h t => cases t; exact ⟨_, rfl, h⟩
theorem PReps.two {G : Hp} {ρ : List Addr} {H : Hp} {xs : List V} {d e : D} (h : PReps Γ G ρ H xs [d, e]) : ∃ x y, xs = [x, y] ∧ PRep Γ G ρ H x d ∧ PRep Γ G ρ H y e := by
  cases h with
  | cons h t =>
    cases t with
    | cons h2 t => cases t; exact ⟨_, _, rfl, h, h2⟩
theorem bools_reps {G : Hp} {ρ : List Addr} : ∀ {ds : List D} {bs : List Bool} {vs : List V}, bools ds = some bs → Reps Γ G ρ vs ds → vs = bs.map V.bl
  | [], bs, _, h, .nil => by simp [bools] at h; subst h; rfl
  | .bl b :: ds, bs, _, h, .cons r t => by
    simp only [bools, Option.map_eq_some_iff] at h
    obtain ⟨cs, h1, rfl⟩ := h
    cases r
    rw [bools_reps h1 t]; rfl
  | .non :: _, _, _, h, _ => by simp [bools] at h
  | .int _ :: _, _, _, h, _ => by simp [bools] at h
  | .str _ :: _, _, _, h, _ => by simp [bools] at h
  | .tup _ :: _, _, _, h, _ => by simp [bools] at h
  | .lst _ :: _, _, _, h, _ => by simp [bools] at h
  | .obj _ :: _, _, _, h, _ => by simp [bools] at h
  | .fn _ :: _, _, _, h, _ => by simp [bools] at h
theorem ints_reps {G : Hp} {ρ : List Addr} : ∀ {ds : List D} {bs : List Int} {vs : List V}, intsD ds = some bs → Reps Γ G ρ vs ds → vs = bs.map V.int
  | [], bs, _, h, .nil => by simp [intsD] at h; subst h; rfl
  | .int b :: ds, bs, _, h, .cons r t => by
    simp only [intsD, Option.map_eq_some_iff] at h
    obtain ⟨cs, h1, rfl⟩ := h
    cases r
    rw [ints_reps h1 t]; rfl
  | .non :: _, _, _, h, _ => by simp [intsD] at h
  | .bl _ :: _, _, _, h, _ => by simp [intsD] at h
  | .str _ :: _, _, _, h, _ => by simp [intsD] at h
  | .tup _ :: _, _, _, h, _ => by simp [intsD] at h
  | .lst _ :: _, _, _, h, _ => by simp [intsD] at h
  | .obj _ :: _, _, _, h, _ => by simp [intsD] at h
  | .fn _ :: _, _, _, h, _ => by simp [intsD] at h
def bltB : Blt → Option String
  | .len => some "len" | .repr => some "repr" | .all => some "all" | .any => some "any" | .sum => some "sum" | .min => some "min" | .max => some "max" | .abs => some "abs"
  | .tuple => none | .list => none
def bltT : Blt → Option String
  | .tuple => some "tuple" | .list => some "list" | _ => none

theorem call_bltB (hK : X.K = Γ.K) (hc : X.calm = true) (hu : X.A.units + 64 < cLine) (hG : X.A.guards = some []) {b : Blt} {id : String} (hb : bltB b = some id) : CallR X (.builtin id) (BltS Γ XE b) := by
  intro pins s σ' H xs us Q I r h
  obtain ⟨G, ρ, M, ds, rel, ra, p⟩ := h
  cases b with
  | tuple => cases hb
  | list => cases hb
  | len =>
    cases hb
    match ds, ra, p with
    | [.tup ds], ra, p =>
      obtain ⟨x, rfl, rx⟩ := ra.one
      obtain ⟨q, vs, rfl, hs, rs⟩ := rx.tup rel.gh
      exact call_len_seq pins s σ' H _ us Q I r ⟨q, vs, rfl, .inr (hK ▸ hs), by rw [rs.len]; exact Post.now rel p (.int _)⟩
    | [.lst ds], ra, p =>
      obtain ⟨x, rfl, rx⟩ := ra.one
      obtain ⟨q, vs, rfl, hs, rs⟩ := rx.lst rel.gh
      exact call_len_seq pins s σ' H _ us Q I r ⟨q, vs, rfl, .inl (hK ▸ hs), by rw [rs.len]; exact Post.now rel p (.int _)⟩
    | [.str y], ra, p =>
      obtain ⟨x, rfl, rx⟩ := ra.one
      simp only [bltD] at p
      by_cases hl : y.length ≤ line
      · rw [if_pos hl] at p
        exact call_len_str pins s σ' H _ us Q I r ⟨y, by rw [rx.str], line_le hl, Post.now rel p (.int _)⟩
      · rw [if_neg hl] at p; exact p.elim
    | [], _, p => exact p.elim
    | [.non], _, p => exact p.elim
    | [.bl _], _, p => exact p.elim
    | [.int _], _, p => exact p.elim
    | [.obj _], _, p => exact p.elim
    | [.fn _], _, p => exact p.elim
    | a :: b :: c, _, p => cases a <;> exact p.elim
  | repr =>
    cases hb
    match ds, ra, p with
    | [d], ra, p =>
      obtain ⟨x, rfl, rx⟩ := ra.one
      simp only [bltD, reprD] at p
      split at p
      · rename_i hc
        simp only [Bool.and_eq_true, decide_eq_true_eq] at hc
        obtain ⟨⟨⟨h1, h2⟩, h3⟩, h4⟩ := hc
        exact call_reprD hu hG pins s σ' H _ us Q I r ⟨x, py d, rfl, hK ▸ rx.dp rel.gh h1, showable_py d h1 h2, hasDict_py d, by rw [depth_py]; exact h3, Nat.le_trans (shown_wt d h1 h2) (line_le h4), Post.now rel p (.str _)⟩
      · exact p.elim
    | [], _, p => exact p.elim
    | a :: b :: c, _, p => exact p.elim
  | all =>
    cases hb
    match ds, ra, p with
    | [.lst ds], ra, p =>
      obtain ⟨x, rfl, rx⟩ := ra.one
      obtain ⟨q, vs, rfl, hs, rs⟩ := rx.lst rel.gh
      simp only [bltD] at p
      cases e : bools ds with
      | none => rw [e] at p; exact p.elim
      | some bs =>
        rw [e] at p
        exact cr_all hc pins s σ' H _ us Q I r ⟨q, bs, rfl, hK ▸ bools_reps e rs ▸ hs, Post.now rel p (.bl _)⟩
    | [], _, p => exact p.elim
    | [.non], _, p => exact p.elim
    | [.bl _], _, p => exact p.elim
    | [.int _], _, p => exact p.elim
    | [.obj _], _, p => exact p.elim
    | [.fn _], _, p => exact p.elim
    | [.tup _], _, p => exact p.elim
    | [.str _], _, p => exact p.elim
    | a :: b :: c, _, p => cases a <;> exact p.elim
  | any =>
    cases hb
    match ds, ra, p with
    | [.lst ds], ra, p =>
      obtain ⟨x, rfl, rx⟩ := ra.one
      obtain ⟨q, vs, rfl, hs, rs⟩ := rx.lst rel.gh
      simp only [bltD] at p
      cases e : bools ds with
      | none => rw [e] at p; exact p.elim
      | some bs =>
        rw [e] at p
        exact cr_any hc pins s σ' H _ us Q I r ⟨q, bs, rfl, hK ▸ bools_reps e rs ▸ hs, Post.now rel p (.bl _)⟩
    | [], _, p => exact p.elim
    | [.non], _, p => exact p.elim
    | [.bl _], _, p => exact p.elim
    | [.int _], _, p => exact p.elim
    | [.obj _], _, p => exact p.elim
    | [.fn _], _, p => exact p.elim
    | [.tup _], _, p => exact p.elim
    | [.str _], _, p => exact p.elim
    | a :: b :: c, _, p => cases a <;> exact p.elim
  | sum =>
    cases hb
    match ds, ra, p with
    | [.lst ds], ra, p =>
      obtain ⟨x, rfl, rx⟩ := ra.one
      obtain ⟨q, vs, rfl, hs, rs⟩ := rx.lst rel.gh
      simp only [bltD] at p
      cases e : intsD ds with
      | none => rw [e] at p; exact p.elim
      | some bs =>
        rw [e] at p
        exact cr_sum hc pins s σ' H _ us Q I r ⟨q, bs, rfl, hK ▸ ints_reps e rs ▸ hs, Post.now rel p (.int _)⟩
    | [], _, p => exact p.elim
    | [.non], _, p => exact p.elim
    | [.bl _], _, p => exact p.elim
    | [.int _], _, p => exact p.elim
    | [.obj _], _, p => exact p.elim
    | [.fn _], _, p => exact p.elim
    | [.tup _], _, p => exact p.elim
    | [.str _], _, p => exact p.elim
    | a :: b :: c, _, p => cases a <;> exact p.elim
  | min =>
    cases hb
    match ds, ra, p with
    | [.int i, .int j], ra, p =>
      obtain ⟨x, y, rfl, rx, ry⟩ := ra.two
      exact call_min2 hc pins s σ' H _ us Q I r ⟨i, j, by rw [rx.int, ry.int], Post.now rel p (.int _)⟩
    | [], _, p => exact p.elim
    | [a], _, p => cases a <;> exact p.elim
    | [.int _, .non], _, p => exact p.elim
    | [.int _, .bl _], _, p => exact p.elim
    | [.int _, .str _], _, p => exact p.elim
    | [.int _, .tup _], _, p => exact p.elim
    | [.int _, .lst _], _, p => exact p.elim
    | [.int _, .obj _], _, p => exact p.elim
    | [.int _, .fn _], _, p => exact p.elim
    | [.non, _], _, p => exact p.elim
    | [.bl _, _], _, p => exact p.elim
    | [.str _, _], _, p => exact p.elim
    | [.tup _, _], _, p => exact p.elim
    | [.lst _, _], _, p => exact p.elim
    | [.obj _, _], _, p => exact p.elim
    | [.fn _, _], _, p => exact p.elim
    | a :: b :: c :: d, _, p => cases a <;> first | exact p.elim | (cases b <;> exact p.elim)
  | max =>
    cases hb
    match ds, ra, p with
    | [.int i, .int j], ra, p =>
      obtain ⟨x, y, rfl, rx, ry⟩ := ra.two
      exact call_max2 hc pins s σ' H _ us Q I r ⟨i, j, by rw [rx.int, ry.int], Post.now rel p (.int _)⟩
    | [], _, p => exact p.elim
    | [a], _, p => cases a <;> exact p.elim
    | [.int _, .non], _, p => exact p.elim
    | [.int _, .bl _], _, p => exact p.elim
    | [.int _, .str _], _, p => exact p.elim
    | [.int _, .tup _], _, p => exact p.elim
    | [.int _, .lst _], _, p => exact p.elim
    | [.int _, .obj _], _, p => exact p.elim
    | [.int _, .fn _], _, p => exact p.elim
    | [.non, _], _, p => exact p.elim
    | [.bl _, _], _, p => exact p.elim
    | [.str _, _], _, p => exact p.elim
    | [.tup _, _], _, p => exact p.elim
    | [.lst _, _], _, p => exact p.elim
    | [.obj _, _], _, p => exact p.elim
    | [.fn _, _], _, p => exact p.elim
    | a :: b :: c :: d, _, p => cases a <;> first | exact p.elim | (cases b <;> exact p.elim)
  | abs =>
    cases hb
    match ds, ra, p with
    | [.int i], ra, p =>
      obtain ⟨x, rfl, rx⟩ := ra.one
      exact call_abs pins s σ' H _ us Q I r ⟨i, by rw [rx.int], Post.now rel p (.int _)⟩
    | [], _, p => exact p.elim
    | [.non], _, p => exact p.elim
    | [.bl _], _, p => exact p.elim
    | [.lst _], _, p => exact p.elim
    | [.obj _], _, p => exact p.elim
    | [.fn _], _, p => exact p.elim
    | [.tup _], _, p => exact p.elim
    | [.str _], _, p => exact p.elim
    | a :: b :: c, _, p => cases a <;> exact p.elim
theorem call_bltT (hK : X.K = Γ.K) {b : Blt} {id : String} (hb : bltT b = some id) : CallR X (.type id) (BltS Γ XE b) := by
  intro pins s σ' H xs us Q I r h
  obtain ⟨G, ρ, M, ds, rel, ra, p⟩ := h
  cases b with
  | tuple =>
    cases hb
    match ds, ra, p with
    | [.tup ds], ra, p =>
      obtain ⟨x, rfl, rx⟩ := ra.one
      obtain ⟨q, vs, rfl, hs, rs⟩ := rx.tup rel.gh
      exact call_tuple_of pins s σ' H _ us Q I r ⟨q, vs, rfl, .inr ⟨hK ▸ hs, Post.now rel p (rx.rep fun _ z => by cases z)⟩⟩
    | [.lst ds], ra, p =>
      obtain ⟨x, rfl, rx⟩ := ra.one
      obtain ⟨q, vs, rfl, hs, rs⟩ := rx.lst rel.gh
      refine call_tuple_of pins s σ' H _ us Q I r ⟨q, vs, rfl, .inl ⟨hK ▸ hs, fun n hn => ?_⟩⟩
      have sg := sub_upd (o := HO.tup vs) (rel.fresh hn).2
      exact Post.new (a := D.tup ds) rel p hn (.tup (.of upd_same) (Reps.mono sg (Pre.refl _) rs))
    | [], _, p => exact p.elim
    | [.non], _, p => exact p.elim
    | [.bl _], _, p => exact p.elim
    | [.int _], _, p => exact p.elim
    | [.obj _], _, p => exact p.elim
    | [.fn _], _, p => exact p.elim
    | [.str _], _, p => exact p.elim
    | a :: b :: c, _, p => cases a <;> exact p.elim
  | list =>
    cases hb
    match ds, ra, p with
    | [.tup ds], ra, p =>
      obtain ⟨x, rfl, rx⟩ := ra.one
      obtain ⟨q, vs, rfl, hs, rs⟩ := rx.tup rel.gh
      refine call_list_of pins s σ' H _ us Q I r ⟨q, vs, rfl, .inr (hK ▸ hs), fun n hn => ?_⟩
      have sg := sub_upd (o := HO.lst vs) (rel.fresh hn).2
      exact Post.new (a := D.lst ds) rel p hn (.lst (.of upd_same) (Reps.mono sg (Pre.refl _) rs))
    | [.lst ds], ra, p =>
      obtain ⟨x, rfl, rx⟩ := ra.one
      obtain ⟨q, vs, rfl, hs, rs⟩ := rx.lst rel.gh
      refine call_list_of pins s σ' H _ us Q I r ⟨q, vs, rfl, .inl (hK ▸ hs), fun n hn => ?_⟩
      have sg := sub_upd (o := HO.lst vs) (rel.fresh hn).2
      exact Post.new (a := D.lst ds) rel p hn (.lst (.of upd_same) (Reps.mono sg (Pre.refl _) rs))
    | [], _, p => exact p.elim
    | [.non], _, p => exact p.elim
    | [.bl _], _, p => exact p.elim
    | [.int _], _, p => exact p.elim
    | [.obj _], _, p => exact p.elim
    | [.fn _], _, p => exact p.elim
    | [.str _], _, p => exact p.elim
    | a :: b :: c, _, p => cases a <;> exact p.elim
  | _ => cases hb
end
end Mp
end

section
set_option Elab.async false
set_option linter.all false
set_option maxRecDepth 100000
/-! Does an IR say what a Python text says? -/
namespace Mp
open PySem PySem.Spec L2

/-- what is known of a text: the names of the def at hand by slot, the module's constants, its defs, the built-ins that stay, the keywords of each def's call shapes -/
structure Sta where
  N : List Str
  gn : List Str
  fn : List Str
  bn : List Str
  ks : List (List (List Str))
def Sta.kw (S : Sta) (f sh : Nat) : Option (List Str) := (S.ks[f]?).bind fun l => l[sh]?
/-- the own scope, and as names are found -/
structure SC where
  o : Scope
  sc : Scope

def nameOk (x : Str) : Bool := !(x == ("__debug__" : Str)) && !(x == ("__classdict__" : Str)) && !(x == ("__name__" : Str))
def visB (sc : Scope) (x : Str) : Bool := match sc.names.lookup x with | some .local => true | some .cell => true | some .free => true | _ => false
def stB (sc : Scope) (x : Str) : Bool := match sc.names.lookup x with | some .local => true | some .cell => true | _ => false
def glB (sc : Scope) (x : Str) : Bool := match sc.names.lookup x with | some .globalImplicit => true | _ => false
def at? (N : List Str) (i : Nat) (x : Str) : Bool := decide (N[i]? = some x) && nameOk x
def bltName (b : Blt) : Str := match b with
  | .len => "len" | .repr => "repr" | .tuple => "tuple" | .list => "list" | .all => "all" | .any => "any" | .sum => "sum" | .min => "min" | .max => "max" | .abs => "abs"
def tyName (t : Ty) : Str := Str.ofString (tyN t)
def noStar : Expr → Bool
  | .Starred _ _ => false
  | _ => true
def noSlc : Expr → Bool
  | .Slice _ _ _ _ => false
  | _ => true
def noSet : Expr → Bool
  | .Set _ _ _ => false
  | _ => true
def noComp : Expr → Bool
  | .ListComp _ _ _ _ => false
  | .SetComp _ _ _ _ => false
  | .DictComp _ _ _ _ _ => false
  | _ => true
def plainX (e : Expr) : Bool := noStar e && noSlc e && noSet e
/-- truth by the value alone -/
def plainT : Expr → Bool
  | .UnaryOp .Not _ _ => false
  | .BoolOp _ _ _ => false
  | .IfExp _ _ _ _ => false
  | .Compare _ _ _ _ => false
  | _ => true
mutual
def slots : G → List Nat
  | .nm i => [i]
  | .tp gs => slotss gs
def slotss : List G → List Nat
  | [] => []
  | g :: gs => slots g ++ slotss gs
end
mutual
def chkG (S : Sta) (c : SC) : G → Expr → Bool
  | .nm i, .Name x _ => at? S.N i x && stB c.o x
  | .tp gs, .Tuple es _ _ => chkGs S c gs es
  | _, _ => false
def chkGs (S : Sta) (c : SC) : List G → List Expr → Bool
  | [], [] => true
  | g :: gs, e :: es => noStar e && chkG S c g e && chkGs S c gs es
  | _, _ => false
end
def chkStrs : List Str → List (Option Expr) → Bool
  | [], [] => true
  | k :: ks, some (.Constant (.str j) _ _) :: r => decide (k = j) && chkStrs ks r
  | _, _ => false
mutual
def chkE (S : Sta) (c : SC) : E → Expr → Bool
  | .cint i, .Constant (.int j) _ _ => decide (i = j)
  | .cstr i, .Constant (.str j) _ _ => decide (i = j)
  | .cbl i, .Constant (.bool j) _ _ => decide (i = j)
  | .cnon, .Constant .none _ _ => true
  | .var i, .Name x _ => at? S.N i x && visB c.sc x
  | .own i, .Name x _ => at? S.N i x && visB c.sc x
  | .glob k, .Name x _ => at? S.gn k x && glB c.sc x
  | .fnv k, .Name x _ => at? S.fn k x && glB c.sc x
  | .tup es, .Tuple xs _ _ => decide (xs.length ≤ 1000) && chkEs S c es xs
  | .lst es, .List xs _ => decide (xs.length ≤ 1000) && chkEs S c es xs
  | .bin o a b, .BinOp x p y _ => decide (p = opB o) && chkE S c a x && chkE S c b y
  | .neg a, .UnaryOp .USub x _ => chkE S c a x
  | .cmp o a b, .Compare x [p] [y] _ => decide (p = opC o) && chkE S c a x && chkE S c b y && noSet y
  | .andv a b, .BoolOp .And (x :: y :: r) p => chkE S c a x && chkE S c b (.BoolOp .And (y :: r) p)
  | .orv a b, .BoolOp .Or (x :: y :: r) p => chkE S c a x && chkE S c b (.BoolOp .Or (y :: r) p)
  | .one a, .BoolOp _ [x] _ => chkE S c a x
  | .notv a, .UnaryOp .Not x _ => chkE S c a x
  | .ife t a b, .IfExp z x y _ => chkT S c t z && chkE S c a x && chkE S c b y
  | .idx a b, .Subscript x y _ => chkE S c a x && chkE S c b y && noSlc y
  | .dgt a b, .Subscript x y _ => chkE S c a x && chkE S c b y && noSlc y
  | .slc a lo hi, .Subscript x (.Slice l h none _) _ => chkE S c a x && chkO S c lo l && chkO S c hi h
  | .call f sh es ks, .Call (.Name x _) args kws _ => at? S.fn f x && glB c.sc x && chkEs S c es args && (match S.kw f sh with
      | some names => (match names with | [] => true | _ => (match args with | [] => false | _ => true)) && chkKs S c names ks kws
      | none => false)
  | .blt b es, .Call (.Name x _) args [] _ => decide (x = bltName b) && nameOk x && S.bn.contains x && glB c.sc x && (match args with | [] => false | _ => true) && chkEs S c es args
  | .isi e t, .Call (.Name x _) [a, .Name y _] [] _ => decide (x = "isinstance") && S.bn.contains x && glB c.sc x && decide (y = tyName t) && S.bn.contains y && glB c.sc y && chkE S c e a && noStar a
  | .comp g own it t elt, .ListComp x [⟨tg, iter, ifs, a⟩] scope _ => decide (a = 0) && blkC S.N c.sc scope own && (slots g).all (fun i => (own.map (·.2)).contains i) && noSet iter && chkI S c it iter &&
      chkG S ⟨scope, relS scope c.sc⟩ g tg && chkTs S ⟨scope, relS scope c.sc⟩ t ifs && chkE S ⟨scope, relS scope c.sc⟩ elt x
  | .dsp ks vs, .Dict keys values _ => decide (ks.length ≤ 15) && decide (ks ≠ []) && decide ks.Nodup && decide (keys.length = values.length) && chkStrs ks keys && chkEs S c vs values
  | _, _ => false
def chkEs (S : Sta) (c : SC) : Es → List Expr → Bool
  | .nil, [] => true
  | .cons e r, x :: xs => noStar x && chkE S c e x && chkEs S c r xs
  | _, _ => false
def chkKs (S : Sta) (c : SC) : List Str → Es → List Keyword → Bool
  | [], .nil, [] => true
  | n :: ns, .cons e r, ⟨some m, x, _⟩ :: xs => decide (n = m) && chkE S c e x && chkKs S c ns r xs
  | _, _, _ => false
def chkO (S : Sta) (c : SC) : O → Option Expr → Bool
  | .non, none => true
  | .som e, some x => chkE S c e x
  | _, _ => false
def chkT (S : Sta) (c : SC) : T → Expr → Bool
  | .val e, x => plainT x && chkE S c e x
  | .cmp o a b, .Compare x [p] [y] _ => decide (p = opC o) && chkE S c a x && chkE S c b y && noSet y
  | .not t, .UnaryOp .Not x _ => chkT S c t x
  | .and a b, .BoolOp .And (x :: y :: r) p => chkT S c a x && chkT S c b (.BoolOp .And (y :: r) p)
  | .or a b, .BoolOp .Or (x :: y :: r) p => chkT S c a x && chkT S c b (.BoolOp .Or (y :: r) p)
  | .one a, .BoolOp _ [x] _ => chkT S c a x
  | _, _ => false
def chkTs (S : Sta) (c : SC) : Ts → List Expr → Bool
  | .nil, [] => true
  | .one t, [x] => chkT S c t x
  | _, _ => false
def chkI (S : Sta) (c : SC) : It → Expr → Bool
  | .seq e, x => noSet x && chkE S c e x
  | .rng1 a, .Call (.Name x _) [y] [] _ => decide (x = "range") && S.bn.contains x && glB c.sc x && noStar y && chkE S c a y
  | .rng2 a b, .Call (.Name x _) [y, z] [] _ => decide (x = "range") && S.bn.contains x && glB c.sc x && noStar y && noStar z && chkE S c a y && chkE S c b z
  | _, _ => false
end

mutual
def chkS (S : Sta) (c : SC) : Mp.S → Stmt → Bool
  | .asg (.nm i) e, .Assign [.Name x _] v _ => at? S.N i x && stB c.o x && noComp v && chkE S c e v
  | .asg (.tp gs) e, .Assign [.Tuple ts _ _] v _ => noComp v && chkGs S c gs ts && chkE S c e v && (match v with
      | .Tuple vs _ _ => vs.all noStar && ((ts.any fun t => match t with | .Name y _ => !decide (c.sc.names.lookup y = some .local) | _ => true) || vs.all (foldedForSure 8))
      | _ => true)
  | .par i j a b, .Assign [.Tuple [.Name x p1, .Name y p2] _ _] (.Tuple [v, w] _ _) _ => at? S.N i x && at? S.N j y && decide (i ≠ j) && decide (x ≠ y) && decide (c.sc.names.lookup x = some .local) && decide (c.sc.names.lookup y = some .local) &&
      decide (c.sc.kind = .function) && decide (p1.line = p2.line) && noStar v && noStar w && !(foldedForSure 8 v && foldedForSure 8 w) && !(constantsAlone 8 v && constantsAlone 8 w) && chkE S c a v && chkE S c b w
  | .ownL i es, .Assign [.Name x _] (.List xs _) _ => at? S.N i x && stB c.o x && decide (xs.length ≤ 1000) && chkEs S c es xs
  | .app i e, .Expr (.Call (.Attribute (.Name x _) m p2) [v] [] p3) _ => at? S.N i x && visB c.sc x && decide (m = "append") && (p2.endLine == p3.line) && noStar v && chkE S c e v
  | .aug i o e, .AugAssign (.Name x _) p v _ => at? S.N i x && stB c.o x && decide (p = opB o) && chkE S c e v
  | .setd a k e, .Assign [.Subscript o i _] v _ => noComp v && noSlc i && chkE S c e v && chkE S c a o && chkE S c k i
  | .expr e, .Expr v _ => noComp v && chkE S c e v
  | .ret e, .Return (some v) _ => chkE S c e v
  | .retn, .Return none _ => true
  | .ifs t a b, .If z x y _ => chkT S c t z && chkSs S c a x && chkSs S c b y
  | .forr g it b, .For tg iter body [] _ => noSet iter && chkI S c it iter && chkG S c g tg && chkSs S c b body
  | .whil t b, .While z body [] _ => chkT S c t z && chkSs S c b body
  | .pas, .Pass _ => true
  | .brk, .Break _ => true
  | .cnt, .Continue _ => true
  | .frz _ s, st => chkS S c s st
  | _, _ => false
def chkSs (S : Sta) (c : SC) : List Mp.S → List Stmt → Bool
  | [], [] => true
  | s :: r, x :: xs => chkS S c s x && chkSs S c r xs
  | _, _ => false
end
end Mp
end

section
set_option Elab.async false
set_option linter.all false
set_option maxRecDepth 100000
/-! The evaluator is right: what it tells of an IR is what the text that it says does. -/
namespace Mp
open PySem PySem.Spec L2

/-- an exception as it lies: its class, its dict -/
def XPf (Γ : Cfg) (E : XK) : XW := fun x G ρ H => ∀ (d : Addr) (fs : List (Str × V)), H d = none → fs.map (·.1) = x.fs.map (·.1) → Reps Γ G ρ (fs.map (·.2)) (x.fs.map (·.2)) → E (.ref (Γ.cA x.c)) (some d) (upd H d (.xd fs))

/-- what a def promises: what the evaluator tells of it -/
def spF (Γ : Cfg) (cal : List D → Sto → Res D) (n : Nat) : Sp := fun vs H Q E => vs.length = n ∧ ∃ G ρ M ds, Core Γ G ρ M H ∧ Reps Γ G ρ vs ds ∧ Post (XPf Γ E) (RepS Γ) Γ G ρ H (cal ds M) Q

structure ShFact (Γ : Cfg) (fd : FuncData) (ps : List Str) (ks : List Str) (arr : List D → List D → Option (List D)) : Prop where
  plain : ks = [] → ∃ ds dvs, Binds Γ.K fd ps ds ∧ Vals dvs ds ∧ ∀ G ρ vs xs full, Reps Γ G ρ vs xs → arr xs [] = some full → Reps Γ G ρ (vs ++ dvs) full
  kws : ks ≠ [] → ∃ n g gV, KBn Γ.K fd ps n ks g gV ∧ ∀ G ρ vs zs xs ys full, Reps Γ G ρ vs xs → Reps Γ G ρ zs ys → arr xs ys = some full → Reps Γ G ρ (gV vs zs) full ∧ vs.length = n ∧ zs.length = ks.length

structure FnFact (Γ : Cfg) (S : Sta) (C : Cal) (CX : CXT) (k : Nat) (f : Nat) (x : Str) : Prop where
  mg : Γ.mg x = some (.ref (Γ.fA f))
  kp : PySem.W.keepIn Γ.K (.ref (Γ.fA f)) = true
  ok : ∃ fd ps n, FnG Γ.P Γ.w Γ.K Γ.mg Γ.base CX k (Γ.fA f) fd ps (spF Γ (C.cal f) n) ∧ (∀ ds M, ds.length ≠ n → C.cal f ds M = .stk) ∧ ∀ sh ks, S.kw f sh = some ks → ShFact Γ fd ps ks (C.arr f sh)

structure Tab (Γ : Cfg) (S : Sta) (C : Cal) (CX : CXT) (k : Nat) : Prop where
  nd : S.N.Nodup
  glob : ∀ i x, S.gn[i]? = some x → ∃ u v, Γ.mg x = some u ∧ RelV v u ∧ ∀ G ρ, Rep Γ G ρ v (C.gl i)
  fns : ∀ f x, S.fn[f]? = some x → FnFact Γ S C CX k f x
  blt : ∀ x ∈ S.bn, Γ.mg x = none
  cx0 : ∀ outer H s e s', CX outer H s E0 e s' → False

structure XOk (Γ : Cfg) (S : Sta) (CX : CXT) (k : Nat) (c : SC) (X : Cx) (E : XK) : Prop where
  prog : X.prog = Γ.P
  w : X.w = Γ.w
  K : X.K = Γ.K
  mg : X.mg = Γ.mg
  base : X.base = Γ.base
  calm : X.calm = true
  N : X.N = S.N
  sc : X.env.scope = c.sc
  sto : ∀ x, stB c.o x = true → Loc X.env.scope x ∧ (X.fn x = true ∨ X.env.scope.names.lookup x = some .local)
  room : Room k X.A
  gu : X.A.guards = some []
  pass : Passes CX X E

section
variable {X : Cx}
theorem PE.imp {e : Expr} {t t' : TE} (h : PE X e t) (q : ∀ σ H Q, t' σ H Q → t σ H Q) : PE X e t' := ⟨fun pins s σ H Q I hw => h.run pins s σ H Q I (q _ _ _ hw)⟩
theorem PT.imp {e : Expr} {t t' : TT} (h : PT X e t) (q : ∀ σ H Q, t' σ H Q → t σ H Q) : PT X e t' := ⟨fun pins s σ H Q I hw => h.run pins s σ H Q I (q _ _ _ hw)⟩
theorem PW.imp {e : Expr} {t t' : TT} (h : PW X e t) (q : ∀ σ H Q, t' σ H Q → t σ H Q) : PW X e t' := ⟨fun wh pins s σ H Q I hw => h.run wh pins s σ H Q I (q _ _ _ hw)⟩
theorem PA.imp {e : List Expr} {t t' : TA} (h : PA X e t) (q : ∀ σ H Q, t' σ H Q → t σ H Q) : PA X e t' := ⟨fun p pins s σ H Q I hw => h.run p pins s σ H Q I (q _ _ _ hw)⟩
theorem PK.imp {e : List Keyword} {t t' : TA} (h : PK X e t) (q : ∀ σ H Q, t' σ H Q → t σ H Q) : PK X e t' := ⟨fun p pins s σ H Q I hw => h.run p pins s σ H Q I (q _ _ _ hw)⟩
theorem PO.imp {e : Option Expr} {t t' : TO} (h : PO X e t) (q : ∀ σ H Q, t' σ H Q → t σ H Q) : PO X e t' := ⟨fun pins s σ H Q I hw => h.run pins s σ H Q I (q _ _ _ hw)⟩
theorem PI.imp {tg e : Expr} {t t' : TI} (h : PI X tg e t) (q : ∀ σ H Q, t' σ H Q → t σ H Q) : PI X tg e t' := ⟨fun pins s σ H Q I hw => h.run pins s σ H Q I (q _ _ _ hw)⟩
theorem PS.imp {e : Stmt} {t t' : TS} (h : PS X e t) (q : ∀ D σ H, t' D σ H → t D σ H) : PS X e t' := ⟨fun pins s σ H D I hw => h.run pins s σ H D I (q _ _ _ hw)⟩
theorem PSs.imp {e : List Stmt} {t t' : TS} (h : PSs X e t) (q : ∀ D σ H, t' D σ H → t D σ H) : PSs X e t' := ⟨fun pins s σ H D I hw => h.run pins s σ H D I (q _ _ _ hw)⟩
end

theorem star_of {e : Expr} {es : List Expr} {env : PySem.Env} (h : noStar e = true) : starEach (e :: es) env = (false, eval e env) :: starEach es env := by
  cases e <;> first | rfl | cases h
theorem mark_of {e : Expr} {op : CmpOp} (h : noSet e = true) : behindInMarks op e = false := by
  cases e <;> first | rfl | cases h
theorem slc_plain {e : Expr} (h : noSlc e = true) : PlainIx e := by
  intro o i
  cases e <;> first | rfl | cases h
theorem set_plain {e : Expr} {env : PySem.Env} (h : noSet e = true) : ∀ x, foldedSetIterable e env x = pure x := by
  intro x
  cases e <;> first | rfl | cases h
theorem tru_plain {e : Expr} {env : PySem.Env} (h : plainT e = true) : ∀ whole, isTrue e env whole = (do let v ← whole; standAt e.pos; holding [v] (truthy v)) := by
  intro whole
  cases e with
  | UnaryOp op x p => cases op <;> first | rfl | cases h
  | _ => first | rfl | cases h
theorem swap_plain {e : Expr} {t : Option Expr} {l : Nat} {env : PySem.Env} (h : noComp e = true) : swapsWith e t l env = pure false := by
  cases e <;> first | rfl | cases h
theorem name_ok {x : Str} (h : nameOk x = true) : (x == ("__debug__" : Str)) = false ∧ (x == ("__classdict__" : Str)) = false ∧ x ≠ "__name__" := by
  simp only [nameOk, Bool.and_eq_true, Bool.not_eq_true'] at h
  obtain ⟨⟨h1, h2⟩, h3⟩ := h
  refine ⟨h1, h2, fun e => ?_⟩
  subst e
  revert h3; decide
theorem at_ok {N : List Str} {i : Nat} {x : Str} (h : at? N i x = true) : N[i]? = some x ∧ nameOk x = true := by
  simpa [at?] using h
theorem vis_ok {sc : Scope} {x : Str} (h : visB sc x = true) : Vis sc x := by
  unfold visB at h
  split at h <;> first | exact .inl (by assumption) | exact .inr (.inl (by assumption)) | exact .inr (.inr (by assumption)) | cases h
theorem gl_ok {sc : Scope} {x : Str} (h : glB sc x = true) : sc.names.lookup x = some .globalImplicit := by
  unfold glB at h
  split at h <;> first | assumption | cases h

section
variable {Γ : Cfg} {S : Sta} {C : Cal} {CX : CXT} {k : Nat} {c : SC} {X : Cx} {E : XK}
abbrev tE (Γ : Cfg) (E : XK) (C : Cal) (ir : Mp.E) : TE := tG (XPf Γ E) (RepS Γ) Γ (fun env M => evE C ir env M)
abbrev tP (Γ : Cfg) (E : XK) (C : Cal) (ir : Mp.E) : TE := tG (XPf Γ E) (RepP Γ) Γ (fun env M => peek ir env M (evE C ir env M))
theorem pe_slot (h : XOk Γ S CX k c X E) {i : Nat} {x : Str} {p : Pos} (h1 : at? S.N i x = true) (h2 : visB c.sc x = true) : PE X (.Name x p) (tVar i) := by
  obtain ⟨a, b⟩ := at_ok h1
  obtain ⟨n1, n2, _⟩ := name_ok b
  exact pe_var (by rw [h.N]; exact a) (by rw [h.sc]; exact vis_ok h2) n1 n2
theorem slot_val {H0 G : Hp} {ρ : List Addr} {M : Sto} {σ : L2.St} {env : Env} {H : Hp} {i : Nat} {d : D} (r : Rel Γ H0 G ρ M σ env H) (e : env[i]? = some (.val d)) : ∃ v, σ[i]? = some (some v) ∧ Rep Γ G ρ v d := r.sl i _ e
/-- from a strict reading to a peeked one -/
theorem sndP (h : XOk Γ S CX k c X E) {ir : Mp.E} {e : Expr} (hc : chkE S c ir e = true) (ih : PE X e (tE Γ E C ir)) : PE X e (tP Γ E C ir) := by
  by_cases ho : ∃ i, ir = .own i
  · obtain ⟨i, rfl⟩ := ho
    cases e with
    | Name x p =>
      simp only [chkE, Bool.and_eq_true] at hc
      refine PE.imp (pe_slot h hc.1 hc.2) fun σ H Q ⟨H0, G, ρ, M, env, rel, q⟩ => ?_
      simp only [peek] at q
      cases es : env[i]? with
      | none => rw [es] at q; exact q.elim
      | some s =>
        rw [es] at q
        cases s with
        | own ds =>
          obtain ⟨a, vs, e1, e2, e3, e4, e5, e6⟩ := rel.sl i _ es
          exact ⟨_, e1, Post.now rel.toCore q (.inr ⟨a, vs, ds, rfl, rfl, e5, e3, e6⟩)⟩
        | _ => exact q.elim
    | _ => simp [chkE] at hc
  · refine PE.imp ih fun σ H Q ⟨H0, G, ρ, M, env, rel, q⟩ => ⟨H0, G, ρ, M, env, rel, ?_⟩
    have e1 : peek ir env M (evE C ir env M) = evE C ir env M := by
      cases ir <;> first | rfl | exact absurd ⟨_, rfl⟩ ho
    have q' : Post (XPf Γ E) (RepP Γ) Γ G ρ H (evE C ir env M) Q := e1 ▸ q
    show Post (XPf Γ E) (RepS Γ) Γ G ρ H (evE C ir env M) Q
    cases r : evE C ir env M with
    | ok a M' => rw [r] at q'; exact fun G' ρ' H' b st c2 hr => q' G' ρ' H' b st c2 (.inl hr)
    | exc x M' => rw [r] at q'; exact q'
    | stk => rw [r] at q'; exact q'
end
end Mp
end

section
set_option Elab.async false
set_option linter.all false
set_option maxRecDepth 100000
/-! One lemma a construct. -/
namespace Mp
open PySem PySem.Spec L2
section
variable {Γ : Cfg} {S : Sta} {C : Cal} {CX : CXT} {k : Nat} {c : SC} {X : Cx} {E : XK} {x y z : Expr} {p : Pos} {a b d : Mp.E}

abbrev tEs (Γ : Cfg) (E : XK) (C : Cal) (es : Es) : TA := tG (XPf Γ E) (RepLS Γ) Γ (fun env M => evEs C es env M)
abbrev tPs (Γ : Cfg) (E : XK) (C : Cal) (es : Es) : TA := tG (XPf Γ E) (RepLP Γ) Γ (fun env M => evPs C es env M)
abbrev tO (Γ : Cfg) (E : XK) (C : Cal) (o : O) : TO := tG (XPf Γ E) (RepEq (Option Int)) Γ (fun env M => evO C o env M)
abbrev tT (Γ : Cfg) (E : XK) (C : Cal) (t : T) : TT := tG (XPf Γ E) (RepEq Bool) Γ (fun env M => evT C t env M)
abbrev tTs (Γ : Cfg) (E : XK) (C : Cal) (t : Ts) : TT := tG (XPf Γ E) (RepEq Bool) Γ (fun env M => evTs C t env M)
/-- what an iterator goes through -/
def ItOk (Γ : Cfg) : RR L2.It (List D) := fun G ρ _ J ds => ds.length ≤ sizeLine ∧ ∀ G1 ρ1 M1 H1 i, Sub G G1 → Pre ρ ρ1 → Core Γ G1 ρ1 M1 H1 →
  (∀ d, ds[i]? = some d → J.go i H1 ∧ ∀ x H2, J.yld i H1 x H2 → ∃ G2, Adv G1 ρ1 H1 G2 ρ1 H2 ∧ Core Γ G2 ρ1 M1 H2 ∧ Rep Γ G2 ρ1 x d) ∧ (ds.length ≤ i → J.stop i H1)
abbrev tI (Γ : Cfg) (E : XK) (C : Cal) (it : Mp.It) : TI := tG (XPf Γ E) (ItOk Γ) Γ (fun env M => evI C it env M)

theorem s_cint {i : Int} {j} : PE X (.Constant (.int i) j p) (tE Γ E C (.cint i)) := PE.imp pe_int fun σ H Q ⟨H0, G, ρ, M, env, rel, q⟩ => Post.now rel.toCore q (.int _)
theorem s_cstr {i : Str} {j} : PE X (.Constant (.str i) j p) (tE Γ E C (.cstr i)) := PE.imp pe_str fun σ H Q ⟨H0, G, ρ, M, env, rel, q⟩ => Post.now rel.toCore q (.str _)
theorem s_cbl {i : Bool} {j} : PE X (.Constant (.bool i) j p) (tE Γ E C (.cbl i)) := PE.imp pe_bl fun σ H Q ⟨H0, G, ρ, M, env, rel, q⟩ => Post.now rel.toCore q (.bl _)
theorem s_cnon {j} : PE X (.Constant .none j p) (tE Γ E C .cnon) := PE.imp pe_non fun σ H Q ⟨H0, G, ρ, M, env, rel, q⟩ => Post.now rel.toCore q .non
theorem s_var (h : XOk Γ S CX k c X E) {i : Nat} {n : Str} (h1 : at? S.N i n = true) (h2 : visB c.sc n = true) : PE X (.Name n p) (tE Γ E C (.var i)) :=
  PE.imp (pe_slot h h1 h2) fun σ H Q ⟨H0, G, ρ, M, env, rel, q⟩ => by
    simp only [evE] at q
    cases es : env[i]? with
    | none => rw [es] at q; exact q.elim
    | some s =>
      rw [es] at q
      cases s with
      | val d =>
        obtain ⟨v, e1, r⟩ := rel.sl i _ es
        exact ⟨v, e1, Post.now rel.toCore q r⟩
      | _ => exact q.elim
theorem s_own (h : XOk Γ S CX k c X E) {i : Nat} {n : Str} (h1 : at? S.N i n = true) (h2 : visB c.sc n = true) : PE X (.Name n p) (tE Γ E C (.own i)) :=
  PE.imp (pe_slot h h1 h2) fun σ H Q ⟨H0, G, ρ, M, env, rel, q⟩ => q.elim
theorem s_glob (TB : Tab Γ S C CX k) (h : XOk Γ S CX k c X E) {i : Nat} {n : Str} (h1 : at? S.gn i n = true) (h2 : glB c.sc n = true) : PE X (.Name n p) (tE Γ E C (.glob i)) := by
  obtain ⟨e1, e2⟩ := at_ok h1
  obtain ⟨u, v, m, r, rep⟩ := TB.glob i n e1
  refine PE.imp (pe_glob (show X.env.scope.names.lookup n = _ by rw [h.sc]; exact gl_ok h2) (by rw [h.mg]; exact m) r (name_ok e2).1) fun σ H Q ⟨H0, G, ρ, M, env, rel, q⟩ => ?_
  exact Post.now rel.toCore q (rep G ρ)
theorem s_fnv (TB : Tab Γ S C CX k) (h : XOk Γ S CX k c X E) {i : Nat} {n : Str} (h1 : at? S.fn i n = true) (h2 : glB c.sc n = true) : PE X (.Name n p) (tE Γ E C (.fnv i)) := by
  obtain ⟨e1, e2⟩ := at_ok h1
  have F := TB.fns i n e1
  refine PE.imp (pe_glob (v := .ref (Γ.fA i)) (show X.env.scope.names.lookup n = _ by rw [h.sc]; exact gl_ok h2) (by rw [h.mg]; exact F.mg) rfl (name_ok e2).1) fun σ H Q ⟨H0, G, ρ, M, env, rel, q⟩ => ?_
  exact Post.now rel.toCore q (.fn i)

/-! ### displays -/
def esLen : Es → Nat
  | .nil => 0
  | .cons _ r => esLen r + 1
theorem evEs_len : ∀ (es : Es) {env : Env} {M M' : Sto} {ds : List D}, evEs C es env M = .ok ds M' → ds.length = esLen es
  | .nil, env, M, M', ds, h => by simp only [evEs] at h; cases h; rfl
  | .cons e r, env, M, M', ds, h => by
    simp only [evEs] at h
    cases h1 : evE C e env M with
    | ok x M1 =>
      rw [h1, Res.bind_ok] at h
      cases h2 : evEs C r env M1 with
      | ok xs M2 =>
        rw [h2, Res.bind_ok] at h
        cases h
        simp [esLen, evEs_len r h2]
      | exc y M2 => rw [h2] at h; cases h
      | stk => rw [h2] at h; cases h
    | exc y M2 => rw [h1] at h; cases h
    | stk => rw [h1] at h; cases h
theorem chkEs_len : ∀ {es : Es} {xs : List Expr}, chkEs S c es xs = true → esLen es = xs.length
  | .nil, [], _ => rfl
  | .nil, _ :: _, h => by simp [chkEs] at h
  | .cons _ _, [], h => by simp [chkEs] at h
  | .cons e r, x :: xs, h => by
    simp only [chkEs, Bool.and_eq_true] at h
    simp [esLen, chkEs_len h.2]
theorem small_line {n : Nat} (h : n ≤ 1000) : n ≤ sizeLine := by rw [sizeLine_eq]; omega
/-- the list that an argument list gives is as long as it is written -/
theorem tEs_len {es : Es} {σ : L2.St} {H : Hp} {Q : List V → Hp → Prop} (h : tEs Γ E C es σ H Q) : tEs Γ E C es σ H (fun vs H1 => vs.length = esLen es ∧ Q vs H1) := by
  obtain ⟨H0, G, ρ, M, env, rel, q⟩ := h
  refine ⟨H0, G, ρ, M, env, rel, ?_⟩
  have q' : Post (XPf Γ E) (RepLS Γ) Γ G ρ H (evEs C es env M) Q := q
  show Post (XPf Γ E) (RepLS Γ) Γ G ρ H (evEs C es env M) _
  cases e : evEs C es env M with
  | ok ds M' => rw [e] at q'; exact fun G' ρ' H' b st c2 hr => ⟨by rw [Reps.len hr]; exact evEs_len es e, q' G' ρ' H' b st c2 hr⟩
  | exc x M' => rw [e] at q'; exact q'
  | stk => rw [e] at q'; exact q'
theorem s_tup {es : Es} {xs : List Expr} {n : Nat} (hl : esLen es ≤ 1000) (ha : PA X xs (tEs Γ E C es)) : PE X (.Tuple xs n p) (tE Γ E C (.tup es)) := by
  refine PE.imp (pe_tup ha) fun σ H Q q => ?_
  have q' : tG (XPf Γ E) (RepS Γ) Γ (fun env M => (evEs C es env M).bind fun ds M => .ok (.tup ds) M) σ H Q := q
  refine tG.mono (tEs_len (tG.bind (R1 := RepLS Γ) q')) ?_
  rintro vs H1 ⟨l, H0, G, ρ, M, env, ds, rel, r, q⟩
  refine ⟨small_line (by omega), fun n hn => ?_⟩
  have sg := sub_upd (o := HO.tup vs) (rel.toCore.fresh hn).2
  exact Post.new (a := D.tup ds) rel.toCore q hn (.tup (.of upd_same) (Reps.mono sg (Pre.refl _) r))
theorem s_lst {es : Es} {xs : List Expr} (hl : esLen es ≤ 1000) (ha : PA X xs (tEs Γ E C es)) : PE X (.List xs p) (tE Γ E C (.lst es)) := by
  refine PE.imp (pe_lst ha) fun σ H Q q => ?_
  have q' : tG (XPf Γ E) (RepS Γ) Γ (fun env M => (evEs C es env M).bind fun ds M => .ok (.lst ds) M) σ H Q := q
  refine tG.mono (tEs_len (tG.bind (R1 := RepLS Γ) q')) ?_
  rintro vs H1 ⟨l, H0, G, ρ, M, env, ds, rel, r, q⟩
  refine ⟨small_line (by omega), fun n hn => ?_⟩
  have sg := sub_upd (o := HO.lst vs) (rel.toCore.fresh hn).2
  exact Post.new (a := D.lst ds) rel.toCore q hn (.lst (.of upd_same) (Reps.mono sg (Pre.refl _) r))

/-! ### operators -/
theorem s_bin (h : XOk Γ S CX k c X E) {o : Bop} (ha : PE X x (tE Γ E C a)) (hb : PE X y (tE Γ E C b)) : PE X (.BinOp x (opB o) y p) (tE Γ E C (.bin o a b)) := by
  refine PE.imp (pe_op (op_bin (Γ := Γ) (XE := XPf Γ E) h.K o) ha hb) fun σ H Q q => ?_
  refine tG.mono (tG.bind2 (R1 := RepS Γ) (R2 := RepS Γ) (k := fun _ x y M => binD o x y M) persS q) fun v H1 q1 => tG.mono q1 ?_
  rintro u H2 ⟨H0, G, ρ, M, env, d1, d2, rel, r1, r2, q2⟩
  exact ⟨G, ρ, M, d1, d2, rel.toCore, r1, r2, q2⟩
theorem s_neg (ha : PE X x (tE Γ E C a)) : PE X (.UnaryOp .USub x p) (tE Γ E C (.neg a)) := by
  refine PE.imp (pe_un un_neg ha) fun σ H Q q => ?_
  refine tG.mono (tG.bind (R1 := RepS Γ) (k := fun _ (x : D) M => (match x with | .int i => Res.ok (D.int (-i)) M | _ => .stk)) q) ?_
  rintro v H1 ⟨H0, G, ρ, M, env, d1, rel, r1, q2⟩
  cases r1 with
  | int i => exact ⟨i, rfl, Post.now rel.toCore q2 (.int _)⟩
  | _ => exact q2.elim
theorem s_cmp (h : XOk Γ S CX k c X E) {o : Cop} (ha : PE X x (tP Γ E C a)) (hb : PE X y (tP Γ E C b)) (hm : noSet y = true) : PE X (.Compare x [opC o] [y] p) (tE Γ E C (.cmp o a b)) := by
  refine PE.imp (pe_cmpR (op_cmp (Γ := Γ) (XE := XPf Γ E) h.K h.room.units o) ha hb (mark_of hm)) fun σ H Q q => ?_
  refine tG.mono (tG.bind2 (R1 := RepP Γ) (R2 := RepP Γ) (k := fun _ x y M => cmpD o x y M) persP q) fun v H1 q1 => tG.mono q1 ?_
  rintro u H2 ⟨H0, G, ρ, M, env, d1, d2, rel, r1, r2, q2⟩
  exact ⟨G, ρ, M, d1, d2, rel.toCore, r1, r2, q2⟩
theorem t_cmp (h : XOk Γ S CX k c X E) {o : Cop} (ha : PE X x (tP Γ E C a)) (hb : PE X y (tP Γ E C b)) (hm : noSet y = true) : PT X (.Compare x [opC o] [y] p) (tT Γ E C (.cmp o a b)) := by
  refine PT.imp (pt_cmpR (op_cmp (Γ := Γ) (XE := XPf Γ E) h.K h.room.units o) ha hb (mark_of hm)) fun σ H Q q => ?_
  refine tG.mono (tG.bind2 (R1 := RepP Γ) (R2 := RepP Γ) (k := fun _ x y M => (cmpD o x y M).bind fun z M => (match z with | .bl k => Res.ok k M | _ => .stk)) persP q) fun v H1 q1 => tG.mono q1 ?_
  rintro u H2 ⟨H0, G, ρ, M, env, d1, d2, rel, r1, r2, q2⟩
  refine ⟨G, ρ, M, d1, d2, rel.toCore, r1, r2, Post.mono (Post.bind (R1 := RepS Γ) q2) ?_⟩
  rintro v3 H3 ⟨G3, ρ3, M3, d3, st, c3, r3, q3⟩
  cases r3 with
  | bl k => exact ⟨k, rfl, Post.now c3 q3 rfl⟩
  | _ => exact q3.elim

/-! ### truth -/
theorem tru_then {α : Type} {β : Type} {XE : XW} {R : RR β α} {G : Hp} {ρ : List Addr} {H : Hp} {M : Sto} {v : V} {d1 : D} {kk : Bool → Sto → Res α} {Q : β → Hp → Prop} (rel : Core Γ G ρ M H) (r : PRep Γ G ρ H v d1)
    (q : Post XE R Γ G ρ H ((truD d1 M).bind kk) Q) : ∃ t, TruV Γ.K v H t ∧ Post XE R Γ G ρ H (kk t M) Q := by
  unfold truD at q
  cases e : truO d1 with
  | none => rw [e] at q; exact q.elim
  | some t => rw [e] at q; exact ⟨t, tru_v rel.gh r e, q⟩
theorem s_andv (h : XOk Γ S CX k c X E) {rest : List Expr} (ha : PE X x (tE Γ E C a)) (hb : PE X (.BoolOp .And (y :: rest) p) (tE Γ E C b)) : PE X (.BoolOp .And (x :: y :: rest) p) (tE Γ E C (.andv a b)) := by
  refine PE.imp (pe_andT ha hb) fun σ H Q q => ?_
  refine tG.mono (tG.bind (R1 := RepS Γ) (k := fun env x M => (truD x M).bind fun t M => if t = true then evE C b env M else .ok x M) q) ?_
  rintro v H1 ⟨H0, G, ρ, M, env, d1, rel, r1, q2⟩
  obtain ⟨t, tv, q3⟩ := tru_then rel.toCore (.inl r1) q2
  refine ⟨t, h.K ▸ tv, ?_⟩
  cases t with
  | true => exact ⟨H0, G, ρ, M, env, rel, q3⟩
  | false => exact Post.now rel.toCore q3 r1
theorem s_orv (h : XOk Γ S CX k c X E) {rest : List Expr} (ha : PE X x (tE Γ E C a)) (hb : PE X (.BoolOp .Or (y :: rest) p) (tE Γ E C b)) : PE X (.BoolOp .Or (x :: y :: rest) p) (tE Γ E C (.orv a b)) := by
  refine PE.imp (pe_orT ha hb) fun σ H Q q => ?_
  refine tG.mono (tG.bind (R1 := RepS Γ) (k := fun env x M => (truD x M).bind fun t M => if t = true then .ok x M else evE C b env M) q) ?_
  rintro v H1 ⟨H0, G, ρ, M, env, d1, rel, r1, q2⟩
  obtain ⟨t, tv, q3⟩ := tru_then rel.toCore (.inl r1) q2
  refine ⟨t, h.K ▸ tv, ?_⟩
  cases t with
  | false => exact ⟨H0, G, ρ, M, env, rel, q3⟩
  | true => exact Post.now rel.toCore q3 r1
theorem s_notv (h : XOk Γ S CX k c X E) (ha : PE X x (tE Γ E C a)) : PE X (.UnaryOp .Not x p) (tE Γ E C (.notv a)) := by
  refine PE.imp (pe_notT ha) fun σ H Q q => ?_
  refine tG.mono (tG.bind (R1 := RepS Γ) (k := fun env x M => (truD x M).bind fun t M => Res.ok (D.bl (!t)) M) q) ?_
  rintro v H1 ⟨H0, G, ρ, M, env, d1, rel, r1, q2⟩
  obtain ⟨t, tv, q3⟩ := tru_then rel.toCore (.inl r1) q2
  exact ⟨t, h.K ▸ tv, Post.now rel.toCore q3 (.bl _)⟩
theorem s_ife {t : T} (ht : PT X z (tT Γ E C t)) (ha : PE X x (tE Γ E C a)) (hb : PE X y (tE Γ E C b)) : PE X (.IfExp z x y p) (tE Γ E C (.ife t a b)) := by
  refine PE.imp (pe_ifExp ht ha hb) fun σ H Q q => ?_
  refine tG.mono (tG.bind (R1 := RepEq Bool) (k := fun env t M => if t = true then evE C a env M else evE C b env M) q) ?_
  rintro v H1 ⟨H0, G, ρ, M, env, d1, rel, rfl, q2⟩
  cases v with
  | true => exact ⟨H0, G, ρ, M, env, rel, q2⟩
  | false => exact ⟨H0, G, ρ, M, env, rel, q2⟩
theorem t_val (h : XOk Γ S CX k c X E) (ha : PE X x (tP Γ E C a)) (hp : plainT x = true) : PT X x (tT Γ E C (.val a)) := by
  refine PT.imp (pt_truth ha (tru_plain hp)) fun σ H Q q => ?_
  refine tG.mono (tG.bind (R1 := RepP Γ) (k := fun env x M => truD x M) q) ?_
  rintro v H1 ⟨H0, G, ρ, M, env, d1, rel, r1, q2⟩
  unfold truD at q2
  cases e : truO d1 with
  | none => rw [e] at q2; exact q2.elim
  | some t => rw [e] at q2; exact ⟨t, h.K ▸ tru_v rel.gh r1 e, Post.now rel.toCore q2 rfl⟩
theorem t_not {t : T} (ht : PT X x (tT Γ E C t)) : PT X (.UnaryOp .Not x p) (tT Γ E C (.not t)) := by
  refine PT.imp (pt_not ht) fun σ H Q q => ?_
  refine tG.mono (tG.bind (R1 := RepEq Bool) (k := fun env b M => .ok (!b) M) q) ?_
  rintro v H1 ⟨H0, G, ρ, M, env, d1, rel, rfl, q2⟩
  exact Post.now rel.toCore q2 rfl
theorem w_and {t u : T} {rest : List Expr} (ht : PT X x (tT Γ E C t)) (hu : PW X (.BoolOp .And (y :: rest) p) (tT Γ E C u)) : PW X (.BoolOp .And (x :: y :: rest) p) (tT Γ E C (.and t u)) := by
  refine PW.imp (pw_and ht hu) fun σ H Q q => ?_
  refine tG.mono (tG.bind (R1 := RepEq Bool) (k := fun env x M => if x = true then evT C u env M else .ok false M) q) ?_
  rintro v H1 ⟨H0, G, ρ, M, env, d1, rel, rfl, q2⟩
  cases v with
  | true => exact ⟨H0, G, ρ, M, env, rel, q2⟩
  | false => exact Post.now rel.toCore q2 rfl
theorem w_or {t u : T} {rest : List Expr} (ht : PT X x (tT Γ E C t)) (hu : PW X (.BoolOp .Or (y :: rest) p) (tT Γ E C u)) : PW X (.BoolOp .Or (x :: y :: rest) p) (tT Γ E C (.or t u)) := by
  refine PW.imp (pw_or ht hu) fun σ H Q q => ?_
  refine tG.mono (tG.bind (R1 := RepEq Bool) (k := fun env x M => if x = true then .ok true M else evT C u env M) q) ?_
  rintro v H1 ⟨H0, G, ρ, M, env, d1, rel, rfl, q2⟩
  cases v with
  | false => exact ⟨H0, G, ρ, M, env, rel, q2⟩
  | true => exact Post.now rel.toCore q2 rfl
theorem w_one {t : T} {op : BoolOp} (ht : PT X x (tT Γ E C t)) : PW X (.BoolOp op [x] p) (tT Γ E C (.one t)) := by
  cases op with
  | And => exact PW.imp (pw_and1 ht) fun σ H Q q => q
  | Or => exact PW.imp (pw_or1 ht) fun σ H Q q => q

/-! ### subscripts, slices -/
theorem s_idx (h : XOk Γ S CX k c X E) (ha : PE X x (tP Γ E C a)) (hb : PE X y (tE Γ E C b)) (hs : noSlc y = true) : PE X (.Subscript x y p) (tE Γ E C (.idx a b)) := by
  refine PE.imp (pe_ix ix_seq ha hb (slc_plain hs)) fun σ H Q q => ?_
  refine tG.mono (tG.bind2 (R1 := RepP Γ) (R2 := RepS Γ) (k := fun _ x y M => idxD x y M) persP q) fun v H1 q1 => tG.mono q1 ?_
  rintro u H2 ⟨H0, G, ρ, M, env, d1, d2, rel, r1, r2, q2⟩
  rw [h.K]
  exact ix_of rel.toCore r1 r2 q2
theorem s_dgt (h : XOk Γ S CX k c X E) (ha : PE X x (tE Γ E C a)) (hb : PE X y (tE Γ E C b)) (hs : noSlc y = true) : PE X (.Subscript x y p) (tE Γ E C (.dgt a b)) := by
  refine PE.imp (pe_dget (hu_of h.room) ha hb (slc_plain hs)) fun σ H Q q => ?_
  refine tG.mono (tG.bind2 (R1 := RepS Γ) (R2 := RepS Γ) (k := fun _ x y M => dgtD x y M) persS q) fun v H1 q1 => tG.mono q1 ?_
  rintro u H2 ⟨H0, G, ρ, M, env, d1, d2, rel, r1, r2, q2⟩
  exact dgt_of rel.toCore r1 r2 q2
theorem s_slc (h : XOk Γ S CX k c X E) {lo hi : O} {l u : Option Expr} {p2 : Pos} (ha : PE X x (tP Γ E C a)) (hl : PO X l (tO Γ E C lo)) (hu : PO X u (tO Γ E C hi)) : PE X (.Subscript x (.Slice l u none p2) p) (tE Γ E C (.slc a lo hi)) := by
  refine PE.imp (pe_slice (sl_list.or sl_tupA) ha hl hu) fun σ H Q q => ?_
  have q' : tG (XPf Γ E) (RepS Γ) Γ (fun env M => (peek a env M (evE C a env M)).bind fun x M => (evO C lo env M).bind fun l M => (evO C hi env M).bind fun h M => slcD x l h M) σ H Q := q
  refine tG.mono (tG.bind2 (R1 := RepP Γ) (R2 := RepEq (Option Int)) (k := fun env x l M => (evO C hi env M).bind fun h M => slcD x l h M) persP q') fun v H1 q1 => tG.mono q1 ?_
  rintro lv H2 ⟨H0, G, ρ, M, env, d1, d2, rel, r1, rfl, q2⟩
  refine ⟨H0, G, ρ, M, env, rel, Post.mono (Post.bind (R1 := RepEq (Option Int)) q2) ?_⟩
  rintro hv H3 ⟨G3, ρ3, M3, d3, st, c3, rfl, q3⟩
  show rSlL X.K v lv hv H3 Q ∨ rSlA X.K v lv hv H3 Q
  rw [h.K]
  exact slc_of c3 (PRep.step st r1) q3
theorem o_non : PO X none (tO Γ E C .non) := PO.imp po_none fun σ H Q ⟨H0, G, ρ, M, env, rel, q⟩ => Post.now rel.toCore q rfl
theorem o_som (ha : PE X x (tE Γ E C a)) : PO X (some x) (tO Γ E C (.som a)) := by
  refine PO.imp (po_some ha) fun σ H Q q => ?_
  refine tG.mono (tG.bind (R1 := RepS Γ) (k := fun _ (x : D) M => (match x with | .int i => Res.ok (some i) M | _ => .stk)) q) ?_
  rintro v H1 ⟨H0, G, ρ, M, env, d1, rel, r1, q2⟩
  cases r1 with
  | int i => exact ⟨i, rfl, Post.now rel.toCore q2 rfl⟩
  | _ => exact q2.elim

/-! ### argument lists -/
theorem a_nil : PA X [] (tEs Γ E C .nil) := PA.imp pa_nil fun σ H Q ⟨H0, G, ρ, M, env, rel, q⟩ => Post.now rel.toCore q .nil
theorem a_cons {r : Es} {xs : List Expr} (ha : PE X x (tE Γ E C a)) (hr : PA X xs (tEs Γ E C r)) (hs : noStar x = true) : PA X (x :: xs) (tEs Γ E C (.cons a r)) := by
  refine PA.imp (pa_cons ha hr (star_of hs)) fun σ H Q q => ?_
  refine tG.mono (tG.bind2 (R1 := RepS Γ) (R2 := RepLS Γ) (k := fun _ x xs M => .ok (x :: xs) M) persS q) fun v H1 q1 => tG.mono q1 ?_
  rintro u H2 ⟨H0, G, ρ, M, env, d1, d2, rel, r1, r2, q2⟩
  exact Post.now rel.toCore q2 (.cons r1 r2)
theorem k_nil : PK X [] (tEs Γ E C .nil) := PK.imp pk_nil fun σ H Q ⟨H0, G, ρ, M, env, rel, q⟩ => Post.now rel.toCore q .nil
theorem k_cons {r : Es} {xs : List Keyword} {nm : Option Str} (ha : PE X x (tE Γ E C a)) (hr : PK X xs (tEs Γ E C r)) : PK X (⟨nm, x, p⟩ :: xs) (tEs Γ E C (.cons a r)) := by
  refine PK.imp (pk_cons ha hr) fun σ H Q q => ?_
  refine tG.mono (tG.bind2 (R1 := RepS Γ) (R2 := RepLS Γ) (k := fun _ x xs M => .ok (x :: xs) M) persS q) fun v H1 q1 => tG.mono q1 ?_
  rintro u H2 ⟨H0, G, ρ, M, env, d1, d2, rel, r1, r2, q2⟩
  exact Post.now rel.toCore q2 (.cons r1 r2)
theorem b_nil : PA X [] (tPs Γ E C .nil) := PA.imp pa_nil fun σ H Q ⟨H0, G, ρ, M, env, rel, q⟩ => Post.now rel.toCore q .nil
theorem b_cons {r : Es} {xs : List Expr} (ha : PE X x (tP Γ E C a)) (hr : PA X xs (tPs Γ E C r)) (hs : noStar x = true) : PA X (x :: xs) (tPs Γ E C (.cons a r)) := by
  refine PA.imp (pa_cons ha hr (star_of hs)) fun σ H Q q => ?_
  refine tG.mono (tG.bind2 (R1 := RepP Γ) (R2 := RepLP Γ) (k := fun _ x xs M => .ok (x :: xs) M) persP q) fun v H1 q1 => tG.mono q1 ?_
  rintro u H2 ⟨H0, G, ρ, M, env, d1, d2, rel, r1, r2, q2⟩
  exact Post.now rel.toCore q2 (.cons r1 r2)
end
end Mp
end

section
set_option Elab.async false
set_option linter.all false
set_option maxRecDepth 100000
/-! One lemma a construct: calls, built-ins, targets, comprehensions. -/
namespace Mp
open PySem PySem.Spec L2
section
variable {Γ : Cfg} {S : Sta} {C : Cal} {CX : CXT} {k : Nat} {c : SC} {X : Cx} {E : XK} {x y z : Expr} {p : Pos} {a b d : Mp.E}

theorem boot_blt (b : Blt) : (∀ id, bltB b = some id → bootBuiltins (bltName b) = some (.builtin id)) ∧ (∀ id, bltT b = some id → bootBuiltins (bltName b) = some (.type id)) := by
  cases b <;> refine ⟨fun id h => ?_, fun id h => ?_⟩ <;> cases h <;> decide +kernel
theorem blt_or (b : Blt) : (∃ id, bltB b = some id) ∨ ∃ id, bltT b = some id := by
  cases b <;> first | exact .inl ⟨_, rfl⟩ | exact .inr ⟨_, rfl⟩
theorem pl_of : ∀ {es : List Expr} {env : PySem.Env} {pos : Pos}, es.all noStar = true → (backTo pos (starEach es env)).any (·.1) = false
  | [], _, _, _ => rfl
  | e :: es, env, pos, h => by
    simp only [List.all_cons, Bool.and_eq_true] at h
    rw [star_of h.1]
    show (false || (backTo pos (starEach es env)).any (·.1)) = false
    rw [Bool.false_or]
    exact pl_of h.2
theorem chkEs_star : ∀ {es : Es} {xs : List Expr}, chkEs S c es xs = true → xs.all noStar = true
  | .nil, [], _ => rfl
  | .nil, _ :: _, h => by simp [chkEs] at h
  | .cons _ _, [], h => by simp [chkEs] at h
  | .cons e r, x :: xs, h => by
    simp only [chkEs, Bool.and_eq_true] at h
    simp [h.1.1, chkEs_star h.2]
theorem s_blt (TB : Tab Γ S C CX k) (h : XOk Γ S CX k c X E) {bl : Blt} {es : Es} {xs : List Expr} {p' : Pos} (h2 : nameOk (bltName bl) = true) (h3 : S.bn.contains (bltName bl) = true) (h4 : glB c.sc (bltName bl) = true)
    (hs : (x :: xs).all noStar = true) (ha : PA X (x :: xs) (tPs Γ E C es)) : PE X (.Call (.Name (bltName bl) p') (x :: xs) [] p) (tE Γ E C (.blt bl es)) := by
  have hg : Gl X (bltName bl) := by show X.env.scope.names.lookup _ = _; rw [h.sc]; exact gl_ok h4
  have hm : X.mg (bltName bl) = none := by rw [h.mg]; exact TB.blt _ (by simpa using h3)
  obtain ⟨n1, n2, n3⟩ := name_ok h2
  have hs' := hs
  simp only [List.all_cons, Bool.and_eq_true] at hs'
  have key : ∀ {σ H Q}, tE Γ E C (.blt bl es) σ H Q → tPs Γ E C es σ H (fun vs H1 => BltS Γ (XPf Γ E) bl vs H1 Q) := by
    intro σ H Q q
    have q' : tG (XPf Γ E) (RepS Γ) Γ (fun env M => (evPs C es env M).bind fun xs M => bltD bl xs M) σ H Q := q
    refine tG.mono (tG.bind (R1 := RepLP Γ) (k := fun _ xs M => bltD bl xs M) q') ?_
    rintro vs H1 ⟨H0, G, ρ, M, env, ds, rel, r, q⟩
    exact ⟨G, ρ, M, ds, rel.toCore, r, q⟩
  rcases blt_or bl with ⟨id, e⟩ | ⟨id, e⟩
  · exact PE.imp (pe_callB (call_bltB (XE := XPf Γ E) h.K h.calm h.room.units h.gu e) hg hm ((boot_blt bl).1 id e) ha n3 n1 (star_of hs'.1) (pl_of hs'.2)) fun σ H Q q => key q
  · exact PE.imp (pe_callTy (call_bltT (XE := XPf Γ E) h.K e) hg hm ((boot_blt bl).2 id e) ha n3 n1 (star_of hs'.1) (pl_of hs'.2)) fun σ H Q q => key q
theorem boot_ty (t : Ty) : bootBuiltins (tyName t) = some (.type (tyN t)) := by cases t <;> decide +kernel
theorem ty_name (t : Ty) : tyName t ≠ "__name__" ∧ (tyName t == ("__debug__" : Str)) = false := by cases t <;> decide +kernel
theorem s_isi (TB : Tab Γ S C CX k) (h : XOk Γ S CX k c X E) {t : Ty} {p1 p2 : Pos} (h3 : S.bn.contains "isinstance" = true) (h4 : glB c.sc "isinstance" = true) (h5 : S.bn.contains (tyName t) = true) (h6 : glB c.sc (tyName t) = true)
    (hs : noStar x = true) (ha : PE X x (tP Γ E C a)) : PE X (.Call (.Name "isinstance" p1) [x, .Name (tyName t) p2] [] p) (tE Γ E C (.isi a t)) := by
  have hg : Gl X "isinstance" := by show X.env.scope.names.lookup _ = _; rw [h.sc]; exact gl_ok h4
  have hm : X.mg "isinstance" = none := by rw [h.mg]; exact TB.blt _ (by simpa using h3)
  have hg2 : Gl X (tyName t) := by show X.env.scope.names.lookup _ = _; rw [h.sc]; exact gl_ok h6
  have hm2 : X.mg (tyName t) = none := by rw [h.mg]; exact TB.blt _ (by simpa using h5)
  refine PE.imp (pe_callB call_isi hg hm (by decide +kernel) (pa_cons ha (pa_cons (pe_bltn (v := .ty (tyN t)) hg2 hm2 (boot_ty t) rfl (ty_name t).1 (ty_name t).2) pa_nil (star_of rfl)) (star_of hs)) (by decide) (by decide) (star_of hs) (pl_of rfl)) fun σ H Q q => ?_
  refine tG.mono (tG.bind (R1 := RepP Γ) (k := fun _ x M => if isiOk x then Res.ok (D.bl (isiD x t)) M else .stk) q) ?_
  rintro v H1 ⟨H0, G, ρ, M, env, d1, rel, r1, q2⟩
  by_cases hi : isiOk d1 = true
  · rw [if_pos hi] at q2
    exact ⟨v, .ty (tyN t), .type (tyOf d1), .type (tyN t), isiD d1 t, rfl, .ty _, h.K ▸ tyx_of rel.gh r1 hi, kit_ty (kit_all d1 t hi), Post.now rel.toCore q2 (.bl _)⟩
  · rw [if_neg hi] at q2; exact q2.elim

/-! ### calls of defs -/
theorem kw_all : ∀ {kws : List Keyword} {ns : List Str} {ks : Es} {env : PySem.Env} {pos : Pos}, chkKs S c ns ks kws = true →
    (backToKw pos (keywordEach kws env)).all (·.1.isSome) = true ∧ (backToKw pos (keywordEach kws env)).filterMap (·.1) = ns ∧ (backToKw pos (keywordEach kws env)).any (·.1.isNone) = false
  | [], [], .nil, _, _, _ => ⟨rfl, rfl, rfl⟩
  | ⟨some m, x, q⟩ :: kws, n :: ns, .cons e r, env, pos, h => by
    simp only [chkKs, Bool.and_eq_true, decide_eq_true_eq] at h
    obtain ⟨⟨rfl, h2⟩, h3⟩ := h
    obtain ⟨i1, i2, i3⟩ := kw_all (env := env) (pos := pos) h3
    refine ⟨?_, ?_, ?_⟩
    · show (true && _) = true
      rw [Bool.true_and]; exact i1
    · exact congrArg (List.cons n) i2
    · show (false || _) = false
      rw [Bool.false_or]; exact i3
  | [], [], .cons _ _, _, _, h => by simp [chkKs] at h
  | [], _ :: _, _, _, _, h => by simp [chkKs] at h
  | _ :: _, [], _, _, _, h => by simp [chkKs] at h
  | _ :: _, _ :: _, .nil, _, _, h => by simp [chkKs] at h
  | ⟨none, _, _⟩ :: _, _ :: _, .cons _ _, _, _, h => by simp [chkKs] at h
theorem spF_of {f : Nat} {n : Nat} {G : Hp} {ρ : List Addr} {M : Sto} {H : Hp} {vs : List V} {ds : List D} {Q : VK} (hst : ∀ ds M, ds.length ≠ n → C.cal f ds M = .stk) (rel : Core Γ G ρ M H) (r : Reps Γ G ρ vs ds)
    (q : Post (XPf Γ E) (RepS Γ) Γ G ρ H (C.cal f ds M) Q) : spF Γ (C.cal f) n vs H Q E := by
  refine ⟨?_, G, ρ, M, ds, rel, r, q⟩
  by_cases hn : ds.length = n
  · rw [r.len]; exact hn
  · rw [hst ds M hn] at q; exact q.elim
theorem s_call (TB : Tab Γ S C CX k) (h : XOk Γ S CX k c X E) {f sh : Nat} {n : Str} {ns : List Str} {es ks : Es} {args : List Expr} {kws : List Keyword} {p' : Pos} (h1 : at? S.fn f n = true) (h2 : glB c.sc n = true)
    (hk : S.kw f sh = some ns) (hcs : chkEs S c es args = true) (hn : ns ≠ [] → args ≠ []) (hkc : chkKs S c ns ks kws = true) (ha : PA X args (tEs Γ E C es)) (hb : PK X kws (tEs Γ E C ks)) : PE X (.Call (.Name n p') args kws p) (tE Γ E C (.call f sh es ks)) := by
  obtain ⟨e1, e2⟩ := at_ok h1
  obtain ⟨n1, n2, n3⟩ := name_ok e2
  obtain ⟨mg, kp, fd, ps, np, F, hst, hsh⟩ := TB.fns f n e1
  have sf := hsh sh ns hk
  have hs := chkEs_star hcs
  have hg : Gl X n := by show X.env.scope.names.lookup _ = _; rw [h.sc]; exact gl_ok h2
  have F' : FnG X.prog X.w X.K X.mg X.base CX k (Γ.fA f) fd ps (spF Γ (C.cal f) np) := by rw [h.prog, h.w, h.K, h.mg, h.base]; exact F
  have mg' : X.mg n = some (.ref (Γ.fA f)) := by rw [h.mg]; exact mg
  have kp' : PySem.W.keepIn X.K (.ref (Γ.fA f)) = true := by rw [h.K]; exact kp
  have q0 : ∀ {σ H Q}, tE Γ E C (.call f sh es ks) σ H Q → tG (XPf Γ E) (RepS Γ) Γ (fun env M => (evEs C es env M).bind fun xs M => (evEs C ks env M).bind fun zs M => (match C.arr f sh xs zs with | some ds => C.cal f ds M | none => .stk)) σ H Q := fun q => q
  cases ns with
  | nil =>
    cases kws with
    | cons _ _ => cases ks <;> simp [chkKs] at hkc
    | nil =>
      have hks : ks = .nil := by cases ks with | nil => rfl | cons _ _ => simp [chkKs] at hkc
      subst hks
      obtain ⟨ds, dvs, b1, b2, b3⟩ := sf.plain rfl
      have b1' : Binds X.K fd ps ds := by rw [h.K]; exact b1
      have fin : ∀ {σ H Q}, tE Γ E C (.call f sh es .nil) σ H Q → tEs Γ E C es σ H (fun vs H1 => spF Γ (C.cal f) np (vs ++ dvs) H1 Q E) := by
        intro σ H Q q
        refine tG.mono (tG.bind (R1 := RepLS Γ) (q0 q)) ?_
        rintro vs H1 ⟨H0, G, ρ, M, env, xs, rel, r, q2⟩
        simp only [evEs, Res.bind_ok] at q2
        cases ea : C.arr f sh xs [] with
        | none => rw [ea] at q2; exact q2.elim
        | some full => rw [ea] at q2; exact spF_of hst rel.toCore (b3 _ _ _ _ _ r ea) q2
      cases args with
      | nil =>
        have hes : es = .nil := by cases es with | nil => rfl | cons _ _ => simp [chkEs] at hcs
        subst hes
        refine PE.imp (pe_callG0 F' h.room h.gu hg mg' kp' b1' b2 h.pass n1) fun σ H Q q => ?_
        obtain ⟨H0, G, ρ, M, env, rel, q2⟩ := fin q
        exact Post.now rel.toCore q2 .nil
      | cons e r =>
        have hs' := hs
        simp only [List.all_cons, Bool.and_eq_true] at hs'
        exact PE.imp (pe_callG F' h.room h.gu hg mg' kp' b1' b2 h.pass ha n1 (star_of hs'.1) (pl_of hs'.2)) fun σ H Q q => fin q
  | cons n0 ns =>
    cases args with
    | nil => exact absurd rfl (hn (by simp))
    | cons e r =>
      have hs' := hs
      simp only [List.all_cons, Bool.and_eq_true] at hs'
      obtain ⟨nn, g, gV, b1, b2⟩ := sf.kws (by simp)
      have b1' : KBn X.K fd ps nn (n0 :: ns) g gV := by rw [h.K]; exact b1
      obtain ⟨k1, k2, k3⟩ := kw_all (env := X.env) (pos := p) hkc
      refine PE.imp (pe_callKG F' h.room h.gu hg mg' kp' b1' h.pass ha hb k1 k2 n1 (star_of hs'.1) ?_) fun σ H Q q => ?_
      · rw [pl_of hs, k3]; rfl
      · refine tG.mono (tG.bind2 (R1 := RepLS Γ) (R2 := RepLS Γ) persLS (q0 q)) fun vs H1 q1 => tG.mono q1 ?_
        rintro zs H2 ⟨H0, G, ρ, M, env, xs, ys, rel, r1, r2, q2⟩
        cases ea : C.arr f sh xs ys with
        | none => rw [ea] at q2; exact q2.elim
        | some full =>
          rw [ea] at q2
          obtain ⟨b3, b4, b5⟩ := b2 _ _ _ _ _ _ _ r1 r2 ea
          exact ⟨b4, b5, spF_of hst rel.toCore b3 q2⟩
end
end Mp
end

section
set_option Elab.async false
set_option linter.all false
set_option maxRecDepth 100000
/-! One lemma a construct: targets, iterators, comprehensions, dict displays. -/
namespace Mp
open PySem PySem.Spec L2
section
variable {Γ : Cfg} {S : Sta} {C : Cal} {CX : CXT} {k : Nat} {c : SC} {X : Cx} {E : XK} {x y z : Expr} {p : Pos} {a b d : Mp.E}
  {H0 G G' : Hp} {ρ ρ' : List Addr} {M M' : Sto} {σ σ' : L2.St} {env env' : Env} {H H' : Hp}

/-! ### slots -/
theorem Rel.setVal (r : Rel Γ H0 G ρ M σ env H) {i : Nat} {v : V} {dd : D} (rv : Rep Γ G ρ v dd) : Rel Γ H0 G ρ M (σ.set i (some v)) (env.set i (.val dd)) H := by
  refine ⟨r.toCore, by simpa using r.slen, fun j s e => ?_, fun j l q ds es e1 e2 e3 e4 => ?_⟩
  · by_cases hj : i = j
    · subst hj
      by_cases hi : i < env.length
      · rw [List.getElem?_set_self hi] at e
        cases e
        exact ⟨v, List.getElem?_set_self (by rw [r.slen]; exact hi), rv⟩
      · rw [List.getElem?_eq_none (by simpa using hi)] at e; cases e
    · rw [List.getElem?_set_ne hj] at e ⊢
      exact r.sl j s e
  · have h1 : i ≠ j := fun z => by
      subst z
      by_cases hi : i < env.length
      · rw [List.getElem?_set_self hi] at e1; cases e1
      · rw [List.getElem?_eq_none (by simpa using hi)] at e1; cases e1
    have h2 : i ≠ l := fun z => by
      subst z
      by_cases hi : i < env.length
      · rw [List.getElem?_set_self hi] at e2; cases e2
      · rw [List.getElem?_eq_none (by simpa using hi)] at e2; cases e2
    rw [List.getElem?_set_ne h1] at e1 e3
    rw [List.getElem?_set_ne h2] at e2 e4
    exact r.dis j l q ds es e1 e2 e3 e4
theorem Rel.setNon (r : Rel Γ H0 G ρ M σ env H) {i : Nat} {v : Option V} : Rel Γ H0 G ρ M (σ.set i v) (env.set i .non) H := by
  refine ⟨r.toCore, by simpa using r.slen, fun j s e => ?_, fun j l q ds es e1 e2 e3 e4 => ?_⟩
  · by_cases hj : i = j
    · subst hj
      by_cases hi : i < env.length
      · rw [List.getElem?_set_self hi] at e
        cases e
        trivial
      · rw [List.getElem?_eq_none (by simpa using hi)] at e; cases e
    · rw [List.getElem?_set_ne hj] at e ⊢
      exact r.sl j s e
  · have h1 : i ≠ j := fun z => by
      subst z
      by_cases hi : i < env.length
      · rw [List.getElem?_set_self hi] at e1; cases e1
      · rw [List.getElem?_eq_none (by simpa using hi)] at e1; cases e1
    have h2 : i ≠ l := fun z => by
      subst z
      by_cases hi : i < env.length
      · rw [List.getElem?_set_self hi] at e2; cases e2
      · rw [List.getElem?_eq_none (by simpa using hi)] at e2; cases e2
    rw [List.getElem?_set_ne h1] at e1 e3
    rw [List.getElem?_set_ne h2] at e2 e4
    exact r.dis j l q ds es e1 e2 e3 e4
theorem Rel.wipe (r : Rel Γ H0 G ρ M σ env H) : ∀ own : List (Str × Nat), Rel Γ H0 G ρ M (L2.wipe σ (own.map (·.2))) (wipeE env own) H
  | [] => r
  | q :: own => by
    show Rel Γ H0 G ρ M ((L2.wipe σ (own.map (·.2))).set q.2 none) ((wipeE env own).set q.2 .non) H
    exact Rel.setNon (Rel.wipe r own)

/-! ### targets -/
/-- the slots out of is are as they were -/
def SameBut (is : List Nat) (σ σ' : L2.St) : Prop := σ'.length = σ.length ∧ ∀ i, i ∉ is → σ'[i]? = σ[i]?
theorem SameBut.refl (is : List Nat) (σ : L2.St) : SameBut is σ σ := ⟨rfl, fun _ _ => rfl⟩
def tGt (Γ : Cfg) (g : Mp.G) : TG := fun v σ H Q => ∃ H0 G ρ M env d env', Rel Γ H0 G ρ M σ env H ∧ Rep Γ G ρ v d ∧ bindG g d env = some env' ∧ ∀ σ', SameBut (slots g) σ σ' → Rel Γ H0 G ρ M σ' env' H → Q σ' H
def tGts (Γ : Cfg) (gs : List Mp.G) : TGs := fun vs σ H Q => ∃ H0 G ρ M env ds env', Rel Γ H0 G ρ M σ env H ∧ Reps Γ G ρ vs ds ∧ bindGs gs ds env = some env' ∧ ∀ σ', SameBut (slotss gs) σ σ' → Rel Γ H0 G ρ M σ' env' H → Q σ' H
theorem PG.imp {e : Expr} {t t' : TG} (h : PG X e t) (q : ∀ v σ H Q, t' v σ H Q → t v σ H Q) : PG X e t' := ⟨fun pins s σ H v u Q I r hw => h.run pins s σ H v u Q I r (q _ _ _ _ hw)⟩
theorem PGs.imp {e : List Expr} {t t' : TGs} (h : PGs X e t) (q : ∀ v σ H Q, t' v σ H Q → t v σ H Q) : PGs X e t' := ⟨fun pins s σ H v u Q I r hw => h.run pins s σ H v u Q I r (q _ _ _ _ hw)⟩
theorem asg_star : ∀ {es : List Expr} {env : PySem.Env}, es.all noStar = true → assignEach es env = es.map fun e => (false, assign e env)
  | [], _, _ => rfl
  | e :: es, env, h => by
    simp only [List.all_cons, Bool.and_eq_true] at h
    have : assignEach (e :: es) env = (false, assign e env) :: assignEach es env := by
      have h1 := h.1
      cases e <;> first | rfl | cases h1
    rw [this, asg_star h.2]; rfl
theorem chkGs_star : ∀ {gs : List Mp.G} {es : List Expr}, chkGs S c gs es = true → es.all noStar = true ∧ es.length = gs.length
  | [], [], _ => ⟨rfl, rfl⟩
  | [], _ :: _, h => by simp [chkGs] at h
  | _ :: _, [], h => by simp [chkGs] at h
  | g :: gs, e :: es, h => by
    simp only [chkGs, Bool.and_eq_true] at h
    obtain ⟨h1, h2⟩ := chkGs_star h.2
    simp [h.1.1, h1, h2]
mutual
theorem sndG (h : XOk Γ S CX k c X E) (nd : S.N.Nodup) : ∀ (g : Mp.G) (e : Expr), chkG S c g e = true → PG X e (tGt Γ g)
  | .nm i, e, hc => by
    cases e with
    | Name n q =>
      simp only [chkG, Bool.and_eq_true] at hc
      obtain ⟨e1, e2⟩ := at_ok hc.1
      obtain ⟨l1, l2⟩ := h.sto n hc.2
      refine PG.imp (pg_name (i := i) (by rw [h.N]; exact nd) (by rw [h.N]; exact e1) l1 l2) ?_
      rintro v σ H Q ⟨H0, G, ρ, M, env, d, env', rel, r, eb, q⟩
      simp only [bindG] at eb
      split at eb
      · cases eb
        refine q _ ⟨by simp, fun j hj => ?_⟩ (rel.setVal r)
        exact List.getElem?_set_ne (fun z => hj (by simp [slots, z]))
      · cases eb
    | _ => simp [chkG] at hc
  | .tp gs, e, hc => by
    cases e with
    | Tuple es n q =>
      simp only [chkG] at hc
      obtain ⟨hs, hl⟩ := chkGs_star hc
      have ha := asg_star (env := X.env) hs
      refine PG.imp (pg_tup (n := gs.length) h.calm (sndGs h nd gs es hc) (by rw [ha, List.length_map]; exact hl) (by rw [ha]; simp [List.findIdx?_eq_none_iff])) ?_
      rintro v σ H Q ⟨H0, G, ρ, M, env, d, env', rel, r, eb, q⟩
      cases r with
      | @tup ad xs ds hx rs =>
        simp only [bindG] at eb
        refine ⟨ad, xs, rfl, by rw [h.K]; exact SqT.sub rel.gh hx, ?_, H0, G, ρ, M, env, ds, env', rel, rs, eb, q⟩
        rw [rs.len]
        exact bindGs_len eb
      | _ => simp [bindG] at eb
    | _ => simp [chkG] at hc
theorem sndGs (h : XOk Γ S CX k c X E) (nd : S.N.Nodup) : ∀ (gs : List Mp.G) (es : List Expr), chkGs S c gs es = true → PGs X es (tGts Γ gs)
  | [], [], hc => PGs.imp pgs_nil fun vs σ H Q ⟨H0, G, ρ, M, env, ds, env', rel, r, eb, q⟩ => by
    cases r with
    | nil =>
      simp only [bindGs] at eb
      cases eb
      exact ⟨rfl, q σ (SameBut.refl _ _) rel⟩
    | cons _ _ => simp [bindGs] at eb
  | [], _ :: _, hc => by simp [chkGs] at hc
  | _ :: _, [], hc => by simp [chkGs] at hc
  | g :: gs, e :: es, hc => by
    have hs := (chkGs_star hc).1
    simp only [chkGs, Bool.and_eq_true] at hc
    have ha := asg_star (env := X.env) hs
    simp only [List.all_cons, Bool.and_eq_true] at hs
    have ha2 := asg_star (env := X.env) hs.2
    refine PGs.imp (pgs_cons (sndG h nd g e hc.1.2) (sndGs h nd gs es hc.2) (by rw [ha, ha2]; rfl)) ?_
    rintro vs σ H Q ⟨H0, G, ρ, M, env, ds, env', rel, r, eb, q⟩
    cases r with
    | nil => simp [bindGs] at eb
    | @cons v vs d ds r1 r2 =>
      simp only [bindGs] at eb
      cases e1 : bindG g d env with
      | none => rw [e1] at eb; cases eb
      | some env1 =>
        rw [e1] at eb
        refine ⟨v, vs, rfl, H0, G, ρ, M, env, d, env1, rel, r1, e1, fun σ1 s1 rel1 => ?_⟩
        refine ⟨H0, G, ρ, M, env1, ds, env', rel1, r2, eb, fun σ2 s2 rel2 => q σ2 ⟨s2.1.trans s1.1, fun j hj => ?_⟩ rel2⟩
        simp only [slotss, List.mem_append, not_or] at hj
        rw [s2.2 j hj.2, s1.2 j hj.1]
theorem bindGs_len : ∀ {gs : List Mp.G} {ds : List D} {env env' : Env}, bindGs gs ds env = some env' → ds.length = gs.length
  | [], [], _, _, _ => rfl
  | [], _ :: _, _, _, h => by simp [bindGs] at h
  | _ :: _, [], _, _, h => by simp [bindGs] at h
  | g :: gs, d :: ds, env, env', h => by
    simp only [bindGs] at h
    cases e1 : bindG g d env with
    | none => rw [e1] at h; cases h
    | some env1 =>
      rw [e1] at h
      simp [bindGs_len h]
end
end
end Mp
end

section
set_option Elab.async false
set_option linter.all false
set_option maxRecDepth 100000
/-! One lemma a construct: iterators, comprehensions, dict displays. -/
namespace Mp
open PySem PySem.Spec L2
section
variable {Γ : Cfg} {S : Sta} {C : Cal} {CX : CXT} {k : Nat} {c : SC} {X : Cx} {E : XK} {x y z tg : Expr} {p : Pos} {a b d : Mp.E}
  {H0 G G' : Hp} {ρ ρ' : List Addr} {M M' : Sto} {σ σ' : L2.St} {env env' : Env} {H H' : Hp}

theorem PI.or {t t' : TI} (h : PI X tg x t) (h' : PI X tg x t') : PI X tg x (fun σ H R => t σ H R ∨ t' σ H R) := ⟨fun pins s σ H R I hw => hw.elim (h.run pins s σ H R I) (h'.run pins s σ H R I)⟩
/-- a sequence's length is within the line -/
def Short (K : PySem.W.Frag) (v : V) (H : Hp) : Prop := ∀ q xs, v = .ref q → (SqL K H q xs ∨ SqT K H q xs) → xs.length ≤ sizeLine
theorem PE.short {t : TE} (h : PE X x t) : PE X x (fun σ H Q => t σ H fun v H1 => Short X.K v H1 → Q v H1) := by
  refine ⟨fun pins s σ H Q I hw => thn (h.run pins s σ H _ I hw) ?_⟩
  rintro u s1 ⟨v, H1, I1, r1, q1⟩
  refine ⟨v, H1, I1, r1, q1 ?_⟩
  rintro q xs rfl (hs | hs)
  · obtain ⟨its, _, _, hz⟩ := I1.list hs; exact hz
  · obtain ⟨its, _, _, hz⟩ := I1.tuple hs; exact hz

theorem s_seq (h : XOk Γ S CX k c X E) (ha : PE X x (tE Γ E C a)) : PI X tg x (tI Γ E C (.seq a)) := by
  refine PI.imp (PI.or (pi_list (PE.short ha)) (pi_tup (PE.short ha))) ?_
  rintro σ H R ⟨H0, G, ρ, M, env, rel, q⟩
  have q' : Post (XPf Γ E) (ItOk Γ) Γ G ρ H ((evE C a env M).bind fun x M => (match x with | .tup ds => .ok ds M | .lst ds => .ok ds M | _ => .stk)) R := q
  cases e : evE C a env M with
  | exc y M' =>
    refine .inl ⟨H0, G, ρ, M, env, rel, ?_⟩
    rw [e] at q'
    show Post _ _ _ _ _ _ (evE C a env M) _
    rw [e]
    exact q'
  | stk => rw [e] at q'; exact q'.elim
  | ok dd M' =>
    rw [e, Res.bind_ok] at q'
    cases dd with
    | lst ds =>
      refine .inl ⟨H0, G, ρ, M, env, rel, ?_⟩
      show Post _ _ _ _ _ _ (evE C a env M) _
      rw [e]
      intro G' ρ' H' v st c2 hr hsh
      cases hr with
      | @lst q vs _ hs rs =>
        have hs' := c2.gh.seq hs
        refine ⟨q, rfl, ⟨vs, h.K ▸ hs'⟩, q' G' ρ' H' _ st c2 ?_⟩
        refine ⟨by rw [← rs.len]; exact hsh q vs rfl (.inl (h.K ▸ hs')), fun G1 ρ1 M1 H1 i sg pp c1 => ?_⟩
        have hs1 : SqL X.K H1 q vs := h.K ▸ (sg.trans c1.gh).seq hs
        refine ⟨fun d hd => ?_, fun hi => ⟨vs, hs1, by rw [rs.len]; exact hi⟩⟩
        obtain ⟨x, hx, rx⟩ := rs.get hd
        refine ⟨⟨vs, x, hs1, hx⟩, ?_⟩
        rintro y H2 ⟨rfl, hy⟩
        have e3 := hy vs hs1
        rw [hx] at e3
        cases e3
        exact ⟨G1, Adv.refl _ _ _, c1, Rep.mono sg pp rx⟩
    | tup ds =>
      refine .inr ⟨H0, G, ρ, M, env, rel, ?_⟩
      show Post _ _ _ _ _ _ (evE C a env M) _
      rw [e]
      intro G' ρ' H' v st c2 hr hsh
      cases hr with
      | @tup q vs _ hs rs =>
        have hs' := SqT.sub c2.gh hs
        refine ⟨q, rfl, ⟨vs, h.K ▸ hs'⟩, q' G' ρ' H' _ st c2 ?_⟩
        refine ⟨by rw [← rs.len]; exact hsh q vs rfl (.inr (h.K ▸ hs')), fun G1 ρ1 M1 H1 i sg pp c1 => ?_⟩
        have hs1 : SqT X.K H1 q vs := h.K ▸ SqT.sub (sg.trans c1.gh) hs
        refine ⟨fun d hd => ?_, fun hi => ⟨vs, hs1, by rw [rs.len]; exact hi⟩⟩
        obtain ⟨x, hx, rx⟩ := rs.get hd
        refine ⟨⟨vs, x, hs1, hx⟩, ?_⟩
        rintro y H2 ⟨rfl, hy⟩
        have e3 := hy vs hs1
        rw [hx] at e3
        cases e3
        exact ⟨G1, Adv.refl _ _ _, c1, Rep.mono sg pp rx⟩
    | _ => exact q'.elim
theorem iota_len : ∀ (n : Nat) (lo : Int), (iota lo n).length = n
  | 0, _ => rfl
  | n + 1, lo => by simp [iota, iota_len n]
theorem iota_get : ∀ (n : Nat) (lo : Int) (i : Nat) (d : D), (iota lo n)[i]? = some d → i < n ∧ d = .int (lo + i)
  | 0, _, _, _, h => by simp [iota] at h
  | n + 1, lo, 0, d, h => by simp [iota] at h; subst h; simp
  | n + 1, lo, i + 1, d, h => by
    obtain ⟨h1, h2⟩ := iota_get n (lo + 1) i d (by simpa [iota] using h)
    refine ⟨by omega, ?_⟩
    rw [h2]
    congr 1
    push_cast
    omega
theorem itr_ok {lo : Int} {n : Nat} (hn : n ≤ line) : ItOk Γ G ρ H (Itr lo n) (iota lo n) := by
  refine ⟨by rw [iota_len]; exact line_le hn, fun G1 ρ1 M1 H1 i sg pp c1 => ⟨fun d hd => ?_, fun hi => by rw [iota_len] at hi; exact hi⟩⟩
  obtain ⟨h1, rfl⟩ := iota_get n lo i d hd
  refine ⟨h1, ?_⟩
  rintro y H2 ⟨rfl, rfl⟩
  exact ⟨G1, Adv.refl _ _ _, c1, .int _⟩
theorem rng_ok {i : Int} (h : rngOk i = true) : -(2 ^ 62) ≤ i ∧ i < 2 ^ 62 := by
  simp only [rngOk, Bool.and_eq_true, decide_eq_true_eq] at h
  omega
theorem s_rng1 (TB : Tab Γ S C CX k) (h : XOk Γ S CX k c X E) {p' : Pos} (h3 : S.bn.contains "range" = true) (h4 : glB c.sc "range" = true) (hs : noStar x = true) (ha : PE X x (tE Γ E C a)) : PI X tg (.Call (.Name "range" p') [x] [] p) (tI Γ E C (.rng1 a)) := by
  have hg : Gl X "range" := by show X.env.scope.names.lookup _ = _; rw [h.sc]; exact gl_ok h4
  have hm : X.mg "range" = none := by rw [h.mg]; exact TB.blt _ (by simpa using h3)
  refine PI.imp (pi_range1 hg hm (pa_cons ha pa_nil (star_of hs)) (star_of hs)) ?_
  rintro σ H R q
  refine tG.mono (tG.bind (R1 := RepS Γ) (k := fun _ (x : D) M => (match x with | .int n => if rngOk n && decide (n.toNat ≤ line) then Res.ok (iota 0 n.toNat) M else .stk | _ => .stk)) q) ?_
  rintro v H1 ⟨H0, G, ρ, M, env, d1, rel, r1, q2⟩
  cases r1 with
  | int n =>
    simp only at q2
    split at q2
    · rename_i hn
      simp only [Bool.and_eq_true, decide_eq_true_eq] at hn
      exact ⟨n, rfl, (rng_ok hn.1).1, (rng_ok hn.1).2, Post.now rel.toCore q2 (itr_ok hn.2)⟩
    · exact q2.elim
  | _ => exact q2.elim
theorem s_rng2 (TB : Tab Γ S C CX k) (h : XOk Γ S CX k c X E) {p' : Pos} (h3 : S.bn.contains "range" = true) (h4 : glB c.sc "range" = true) (hs : noStar x = true) (hs2 : noStar y = true) (ha : PE X x (tE Γ E C a)) (hb : PE X y (tE Γ E C b)) :
    PI X tg (.Call (.Name "range" p') [x, y] [] p) (tI Γ E C (.rng2 a b)) := by
  have hg : Gl X "range" := by show X.env.scope.names.lookup _ = _; rw [h.sc]; exact gl_ok h4
  have hm : X.mg "range" = none := by rw [h.mg]; exact TB.blt _ (by simpa using h3)
  refine PI.imp (pi_range2 hg hm (pa_cons ha (pa_cons hb pa_nil (star_of hs2)) (star_of hs)) (by rw [star_of hs, star_of hs2]; rfl) (star_of hs2)) ?_
  rintro σ H R q
  refine tG.mono (tG.bind2 (R1 := RepS Γ) (R2 := RepS Γ) (k := fun _ (x y : D) M => (match x, y with | .int i, .int j => if rngOk i && rngOk j && decide ((j - i).toNat ≤ line) then Res.ok (iota i (j - i).toNat) M else .stk | _, _ => .stk)) persS q) fun v H1 q1 => tG.mono q1 ?_
  rintro u H2 ⟨H0, G, ρ, M, env, d1, d2, rel, r1, r2, q2⟩
  cases r1 with
  | int i =>
    cases r2 with
    | int j =>
      simp only at q2
      split at q2
      · rename_i hn
        simp only [Bool.and_eq_true, decide_eq_true_eq] at hn
        exact ⟨i, j, rfl, ⟨(rng_ok hn.1.1).1, (rng_ok hn.1.1).2, (rng_ok hn.1.2).1, (rng_ok hn.1.2).2⟩, Post.now rel.toCore q2 (itr_ok hn.2)⟩
      · exact q2.elim
    | _ => exact q2.elim
  | _ => exact q2.elim

/-! ### comprehensions -/
theorem blk_ok (TB : Tab Γ S C CX k) (h : XOk Γ S CX k c X E) {scope : Scope} (s : Shared) (H : Hp) (Cc : Addr) (cl : List (Str × Addr)) (fp : List Addr) (hu : ∀ y ∈ scope.names, scope.names.lookup y.1 = some y.2) :
    XOk Γ S CX k ⟨scope, relS scope c.sc⟩ (X.blk s H scope (compEnvC scope cl Cc X.env) fp) E0 where
  prog := h.prog
  w := h.w
  K := h.K
  mg := h.mg
  base := h.base
  calm := h.calm
  N := h.N
  sc := by show relS scope X.env.scope = _; rw [h.sc]
  sto := fun x hx => by
    unfold stB at hx
    have e : (X.blk s H scope (compEnvC scope cl Cc X.env) fp).env.scope = relS scope X.env.scope := rfl
    rw [e]
    split at hx
    · rename_i hl
      have := lookup_relS_keep (sc := X.env.scope) (by decide) hl
      exact ⟨.inl this, .inr this⟩
    · rename_i hl
      have := lookup_relS_keep (sc := X.env.scope) (by decide) hl
      exact ⟨.inr this, .inl (by show (scope.names.lookup x == some .cell) = true; rw [hl]; rfl)⟩
    · cases hx
  room := h.room
  gu := h.gu
  pass := fun pins σ H s e s' I hq => TB.cx0 _ _ _ _ _ hq

theorem wipe_same {vs : List Nat} (σ σ' : L2.St) : σ'.length = σ.length → (∀ i, i ∉ vs → σ'[i]? = σ[i]?) → L2.wipe σ' vs = L2.wipe σ vs := by
  induction vs with
  | nil =>
    intro hl hs
    exact List.ext_getElem? fun i => hs i (by simp)
  | cons v vs ih =>
    intro hl hs
    show (L2.wipe σ' vs).set v none = (L2.wipe σ vs).set v none
    apply List.ext_getElem?
    intro i
    by_cases hi : v = i
    · subst hi
      by_cases hv : v < σ.length
      · rw [List.getElem?_set_self (by rw [wipe_length, hl]; exact hv), List.getElem?_set_self (by rw [wipe_length]; exact hv)]
      · rw [List.getElem?_eq_none (by simp [wipe_length, hl]; omega), List.getElem?_eq_none (by simp [wipe_length]; omega)]
    · rw [List.getElem?_set_ne hi, List.getElem?_set_ne hi]
      by_cases hm : i ∈ vs
      · have : ∀ τ : L2.St, (L2.wipe τ vs)[i]? = if i < τ.length then some none else none := by
          intro τ
          exact wipe_at hm
        rw [this, this, hl]
      · rw [wipe_out hm, wipe_out hm]
        exact hs i (by simp [hm]; exact fun z => hi z.symm)
where
  wipe_at {vs : List Nat} {τ : L2.St} {i : Nat} (hm : i ∈ vs) : (L2.wipe τ vs)[i]? = if i < τ.length then some none else none := by
    induction vs with
    | nil => cases hm
    | cons v vs ih =>
      show ((L2.wipe τ vs).set v none)[i]? = _
      by_cases hi : v = i
      · subst hi
        split
        · rename_i h; exact List.getElem?_set_self (by rw [wipe_length]; exact h)
        · rename_i h; exact List.getElem?_eq_none (by simp [wipe_length]; omega)
      · rw [List.getElem?_set_ne hi]
        exact ih (by rcases List.mem_cons.mp hm with e | e; exact absurd e.symm hi; exact e)
theorem wipe_wipe {vs : List Nat} {σ σ' : L2.St} (h : ∀ i, i ∉ vs → σ'[i]? = (L2.wipe σ vs)[i]?) (hl : σ'.length = (L2.wipe σ vs).length) : L2.wipe σ' vs = L2.wipe σ vs := by
  refine wipe_same _ _ (by rw [hl, wipe_length]) fun i hi => ?_
  rw [h i hi, wipe_out hi]
theorem s_comp (TB : Tab Γ S C CX k) (h : XOk Γ S CX k c X E) {g : Mp.G} {own : List (Str × Nat)} {it : Mp.It} {t : Ts} {elt iter : Expr} {ifs : List Expr} {scope : Scope} (ok : blkC S.N c.sc scope own = true)
    (sub : (slots g).all (fun i => (own.map (·.2)).contains i) = true) (hset : noSet iter = true) (hit : PI X tg iter (tI Γ E C it))
    (hg : ∀ X', XOk Γ S CX k ⟨scope, relS scope c.sc⟩ X' E0 → PG X' tg (tGt Γ g)) (ht : ∀ X', XOk Γ S CX k ⟨scope, relS scope c.sc⟩ X' E0 → PTs X' ifs (tTs Γ E0 C t))
    (he : ∀ X', XOk Γ S CX k ⟨scope, relS scope c.sc⟩ X' E0 → PE X' elt (tE Γ E0 C a)) : PE X (.ListComp elt [⟨tg, iter, ifs, 0⟩] scope p) (tE Γ E C (.comp g own it t a)) := by
  have bo : BlkOk X.N X.env.scope scope own := by rw [h.N, h.sc]; exact blkOk_by ok
  refine PE.imp (pe_lc h.calm (by rw [h.N]; exact TB.nd) hit bo (fun s H Cc cl fp => hg _ (blk_ok TB h s H Cc cl fp bo.uniq)) (fun s H Cc cl fp => ht _ (blk_ok TB h s H Cc cl fp bo.uniq)) (fun s H Cc cl fp => he _ (blk_ok TB h s H Cc cl fp bo.uniq)) (set_plain hset)) ?_
  rintro σ H Q ⟨H0, G0, ρ0, M0, env0, rel0, q0⟩
  simp only [evE] at q0
  split at q0
  · exact q0.elim
  rename_i hfree
  refine ⟨H0, G0, ρ0, M0, env0, rel0, Post.mono (Post.bind (R1 := ItOk Γ) q0) ?_⟩
  rintro J H1 ⟨G1, ρ1, M1, ds, st1, c1, itok, q1⟩ D hD
  have rel1 := rel0.adv st1 c1
  obtain ⟨hlen, itok⟩ := itok
  generalize hstep : (fun (d : Mp.D) M => match bindG g d (wipeE env0 own) with
        | some env2 => (evTs C t env2 M).bind fun b M => if b = true then (evE C a env2 M).bind fun y M => Res.ok (some y) M else .ok none M
        | none => .stk) = step at q1
  let B : Nat → Hp → Prop := fun i H => ∃ G2 ρ2 M2 acc vs, Adv G1 ρ1 H1 G2 ρ2 H ∧ Core Γ G2 ρ2 M2 H ∧ H D = some (.lst vs) ∧ G2 D = none ∧ D ∉ ρ2 ∧ Reps Γ G2 ρ2 vs acc ∧ vs.length ≤ i ∧
      Post (XPf Γ E) (RepS Γ) Γ G1 ρ1 H1 ((compL step (ds.drop i) acc M2).bind fun ys M => .ok (.lst ys) M) Q
  refine ⟨fun i m H => m = ds.length - i ∧ i ≤ ds.length ∧ B i H, ⟨ds.length, by simp, Nat.zero_le _, G1, ρ1, M1, [], [], Adv.laid hD, c1.laid hD, upd_same, (c1.fresh hD).2, (c1.fresh hD).1, .nil, Nat.le_refl _, q1⟩, ?_⟩
  rintro i m H ⟨rfl, hi, G2, ρ2, M2, acc, vs, st2, c2, hHD, hGD, hρD, racc, hvl, q2⟩
  by_cases hlt : i < ds.length
  · obtain ⟨go, yld⟩ := (itok G2 ρ2 M2 H i st2.gg st2.pp c2).1 ds[i] (List.getElem?_eq_getElem hlt)
    refine .inr ⟨go, B (i + 1), fun H' hb => ⟨ds.length - (i + 1), by omega, rfl, hlt, hb⟩, fun xv H3 hy => ?_⟩
    obtain ⟨G3, st3, c3, r3⟩ := yld xv H3 hy
    rw [List.drop_eq_getElem_cons hlt] at q2
    simp only [compL] at q2
    have st13 := st2.trans c2 st3
    have relW : Rel Γ H0 G3 ρ2 M2 (L2.wipe σ (own.map (·.2))) (wipeE env0 own) H3 := (rel1.adv st13 c3).wipe own
    have hs : step ds[i] M2 = (match bindG g ds[i] (wipeE env0 own) with
        | some env2 => (evTs C t env2 M2).bind fun b M => if b = true then (evE C a env2 M).bind fun y M => Res.ok (some y) M else .ok none M
        | none => .stk) := by rw [← hstep]
    rw [hs] at q2
    cases eb : bindG g ds[i] (wipeE env0 own) with
    | none => rw [eb] at q2; exact q2.elim
    | some env2 =>
      rw [eb] at q2
      simp only at q2
      have hH3D : H3 D = some (.lst vs) := st3.keep D _ hρD hHD
      have hG3D : G3 D = none := st3.gnew D hGD (by rw [hHD]; simp)
      refine ⟨H0, G3, ρ2, M2, wipeE env0 own, ds[i], env2, relW, r3, eb, fun σ' sb rel' => ⟨?_, ?_⟩⟩
      · refine wipe_wipe (fun j hj => sb.2 j fun hm => hj ?_) sb.1
        rw [List.all_eq_true] at sub
        have := sub j hm
        simpa using this
      · refine ⟨H0, G3, ρ2, M2, env2, rel', ?_⟩
        show Post (XPf Γ E0) (RepEq Bool) Γ G3 ρ2 H3 (evTs C t env2 M2) _
        cases e1 : evTs C t env2 M2 with
        | exc y M' => rw [e1] at q2; exact q2.elim
        | stk => rw [e1] at q2; exact q2.elim
        | ok b M3 =>
          rw [e1, Res.bind_ok] at q2
          rintro G4 ρ4 H4 b' st4 c4 rfl
          have hH4D : H4 D = some (.lst vs) := st4.keep D _ hρD hH3D
          have hG4D : G4 D = none := st4.gnew D hG3D (by rw [hH3D]; simp)
          have hρ4 : D ∉ ρ4 := fun hm => by
            have := st4.new D hm hρD
            rw [hH3D] at this; cases this
          have st14 := st13.trans c3 st4
          have racc4 : Reps Γ G4 ρ4 vs acc := Reps.mono (st3.gg.trans st4.gg) st4.pp racc
          cases b' with
          | false =>
            simp only [Bool.false_eq_true, if_false] at q2
            exact ⟨G4, ρ4, M3, acc, vs, st14, c4, hH4D, hG4D, hρ4, racc4, by omega, q2⟩
          | true =>
            simp only [if_true] at q2
            refine ⟨H0, G4, ρ4, M3, env2, rel'.adv st4 c4, ?_⟩
            show Post (XPf Γ E0) (RepS Γ) Γ G4 ρ4 H4 (evE C a env2 M3) _
            cases e2 : evE C a env2 M3 with
            | exc y M' => rw [e2] at q2; exact q2.elim
            | stk => rw [e2] at q2; exact q2.elim
            | ok y M5 =>
              rw [e2, Res.bind_ok] at q2
              intro G5 ρ5 H5 v5 st5 c5 r5
              have hH5D : H5 D = some (.lst vs) := st5.keep D _ hρ4 hH4D
              have hG5D : G5 D = none := st5.gnew D hG4D (by rw [hH4D]; simp)
              have hρ5 : D ∉ ρ5 := fun hm => by
                have := st5.new D hm hρ4
                rw [hH4D] at this; cases this
              have st15 := st14.trans c4 st5
              refine ⟨vs, hH5D, by omega, G5, ρ5, M5, acc ++ [y], vs ++ [v5], ?_, ?_, upd_same, hG5D, hρ5, (Reps.mono st5.gg st5.pp racc4).append (.cons r5 .nil), by simp; omega, q2⟩
              · refine ⟨st15.gg, st15.pp, st15.new, fun q o n e => ?_, st15.gnew⟩
                rw [upd_ne (ne_of_none e hD)]
                exact st15.keep q o n e
              · refine ⟨fun q o e => ?_, c5.off, c5.nd, c5.len, fun i o ad e1 e2 => ?_⟩
                · have : q ≠ D := fun z => by rw [z, hG5D] at e; cases e
                  rw [upd_ne this]; exact c5.gh q o e
                · have : ad ≠ D := fun z => hρ5 (z ▸ List.mem_of_getElem? e2)
                  exact ObRel.mono (Same.refl _) (Pre.refl _) (upd_ne this) (c5.st i o ad e1 e2)
  · have ei : i = ds.length := by omega
    refine .inl ⟨(itok G2 ρ2 M2 H i st2.gg st2.pp c2).2 (by omega), ?_⟩
    rw [ei, List.drop_length] at q2
    simp only [compL, Res.bind_ok] at q2
    have sg := sub_upd (o := HO.lst vs) hGD
    refine q2 (upd G2 D (.lst vs)) ρ2 H (.ref D) ⟨st2.gg.trans sg, st2.pp, st2.new, st2.keep, fun q e n => ?_⟩ ⟨fun q o e => ?_, fun ad hm => ?_, c2.nd, c2.len, fun i o ad e1 e2 => ObRel.mono sg (Pre.refl _) rfl (c2.st i o ad e1 e2)⟩ (.lst (.of upd_same) (Reps.mono sg (Pre.refl _) racc))
    · have : q ≠ D := fun z => n (z ▸ hD)
      rw [upd_ne this]; exact st2.gnew q e n
    · by_cases hq : q = D
      · subst hq; rw [upd_same] at e; cases e; exact hHD
      · rw [upd_ne hq] at e; exact c2.gh q o e
    · have : ad ≠ D := fun z => hρD (z ▸ hm)
      rw [upd_ne this]; exact c2.off ad hm
end
end Mp
end

section
set_option Elab.async false
set_option linter.all false
set_option maxRecDepth 100000
/-! Dict displays; all expressions. -/
namespace Mp
open PySem PySem.Spec L2
section
variable {Γ : Cfg} {S : Sta} {C : Cal} {CX : CXT} {k : Nat} {c : SC} {X : Cx} {E : XK} {x y z tg : Expr} {p : Pos} {a b d : Mp.E}
  {H0 G G' : Hp} {ρ ρ' : List Addr} {M M' : Sto} {σ σ' : L2.St} {env env' : Env} {H H' : Hp}

theorem putK_new {k : Key} {v : V} : ∀ {us : List (Key × V)}, k ∉ us.map (·.1) → putK us k v = us ++ [(k, v)] := by
  intro us h
  unfold putK
  rw [if_neg]
  intro e
  rw [List.any_eq_true] at e
  obtain ⟨q, hq, e⟩ := e
  exact h (List.mem_map.mpr ⟨q, hq, of_decide_eq_true e⟩)
theorem merge_nodup : ∀ (more acc : List (Key × V)), (more.map (·.1)).Nodup → (∀ q ∈ more, q.1 ∉ acc.map (·.1)) → mergeK acc more = acc ++ more
  | [], acc, _, _ => by simp [mergeK]
  | q :: more, acc, nd, h => by
    simp only [List.map_cons, List.nodup_cons] at nd
    have e : mergeK acc (q :: more) = mergeK (acc ++ [q]) more := by
      show more.foldl _ (putK acc q.1 q.2) = more.foldl _ (acc ++ [q])
      rw [putK_new (h q (by simp))]
    rw [e, merge_nodup more (acc ++ [q]) nd.2 fun r hr hm => ?_]
    · simp
    · rw [List.map_append, List.mem_append] at hm
      rcases hm with hm | hm
      · exact h r (by simp [hr]) hm
      · simp only [List.map_cons, List.map_nil, List.mem_singleton] at hm
        exact nd.1 (hm ▸ List.mem_map.mpr ⟨r, hr, rfl⟩)
/-- the pairs of a display -/
def trsOf (Γ : Cfg) (E : XK) (C : Cal) : List Str → Es → List (TE × TE)
  | n :: ns, .cons e r => (tC (.str n), tE Γ E C e) :: trsOf Γ E C ns r
  | _, _ => []
theorem tPairs_of : ∀ {ns : List Str} {es : Es} {σ : L2.St} {H : Hp} {Q : List (V × V) → Hp → Prop}, ns.length = esLen es → tEs Γ E C es σ H (fun vs H1 => Q ((ns.map V.str).zip vs) H1) → tPairs (trsOf Γ E C ns es) σ H Q
  | [], .nil, σ, H, Q, _, h => by
    obtain ⟨H0, G, ρ, M, env, rel, q⟩ := h
    exact Post.now (b := ([] : List V)) rel.toCore q Reps.nil
  | n :: ns, .cons e r, σ, H, Q, hl, h => by
    refine tG.mono (tG.bind2 (R1 := RepS Γ) (R2 := RepLS Γ) (k := fun _ x xs M => Res.ok (x :: xs) M) persS h) fun v H1 q1 => ?_
    refine tPairs_of (by simpa [esLen] using hl) (tG.mono q1 ?_)
    rintro u H2 ⟨H0, G, ρ, M, env, d1, d2, rel, r1, r2, q2⟩
    exact Post.now (b := v :: u) rel.toCore q2 (.cons r1 r2)
  | [], .cons _ _, _, _, _, hl, _ => by simp [esLen] at hl
  | _ :: _, .nil, _, _, _, hl, _ => by simp [esLen] at hl
theorem zip_kv : ∀ (ns : List Str) (vs : List V), (ns.map V.str).zip vs = ((ns.map fun n => (Sum.inr n : Key)).zip vs).map (fun kv => (kV kv.1, kv.2))
  | [], _ => rfl
  | _ :: _, [] => rfl
  | n :: ns, v :: vs => by simp [zip_kv ns vs, kV]
theorem zip_fst {α β : Type} : ∀ {as : List α} {bs : List β}, as.length = bs.length → (as.zip bs).map (·.1) = as
  | [], [], _ => rfl
  | [], _ :: _, h => by simp at h
  | _ :: _, [], h => by simp at h
  | a :: as, b :: bs, h => by simp [zip_fst (as := as) (bs := bs) (by simpa using h)]
theorem zip_snd {α β : Type} : ∀ {as : List α} {bs : List β}, as.length = bs.length → (as.zip bs).map (·.2) = bs
  | [], [], _ => rfl
  | [], _ :: _, h => by simp at h
  | _ :: _, [], h => by simp at h
  | a :: as, b :: bs, h => by simp [zip_snd (as := as) (bs := bs) (by simpa using h)]
theorem chkStrs_some : ∀ {ns : List Str} {keys : List (Option Expr)}, chkStrs ns keys = true → keys.all (·.isSome) = true ∧ keys.length = ns.length
  | [], [], _ => ⟨rfl, rfl⟩
  | [], _ :: _, h => by simp [chkStrs] at h
  | _ :: _, [], h => by simp [chkStrs] at h
  | n :: ns, none :: r, h => by simp [chkStrs] at h
  | n :: ns, some e :: r, h => by
    cases e with
    | Constant cc j q =>
      cases cc with
      | str s =>
        simp only [chkStrs, Bool.and_eq_true] at h
        obtain ⟨h1, h2⟩ := chkStrs_some h.2
        simp [h1, h2]
      | _ => simp [chkStrs] at h
    | _ => simp [chkStrs] at h
theorem s_dsp (h : XOk Γ S CX k c X E) {ns : List Str} {es : Es} {keys : List (Option Expr)} {vals : List Expr} (h1 : ns.length ≤ 15) (h2 : ns ≠ []) (h3 : ns.Nodup) (h4 : keys.length = vals.length) (h5 : chkStrs ns keys = true) (h6 : esLen es = vals.length)
    (hp : PPs X p keys vals (trsOf Γ E C ns es)) : PE X (.Dict keys vals p) (tE Γ E C (.dsp ns es)) := by
  obtain ⟨k1, k2⟩ := chkStrs_some h5
  refine PE.imp (pe_disp hp k1 h4 (fun z => h2 (by rw [z] at k2; exact List.length_eq_zero_iff.mp k2.symm)) (by omega)) fun σ H Q q => ?_
  obtain ⟨H0, G, ρ, M, env, rel, q⟩ := q
  intro D hD
  have c1 : Core Γ G ρ M (upd H D (.dK [])) := rel.toCore.laid hD
  have st1 : Adv G ρ H G ρ (upd H D (.dK [])) := Adv.laid hD
  refine tPairs_of (by omega) ⟨H0, G, ρ, M, env, rel.adv st1 c1, ?_⟩
  have q' : Post (XPf Γ E) (RepS Γ) Γ G ρ H ((evEs C es env M).bind fun ys M => .ok (.obj M.length) (M ++ [.dct (ns.zip ys)])) Q := q
  show Post (XPf Γ E) (RepLS Γ) Γ G ρ (upd H D (.dK [])) (evEs C es env M) _
  cases e : evEs C es env M with
  | exc y M' =>
    rw [e] at q'
    exact fun G' ρ' H' st c2 => q' G' ρ' H' (st1.trans c1 st) c2
  | stk => rw [e] at q'; exact q'
  | ok ys M2 =>
    rw [e, Res.bind_ok] at q'
    intro G2 ρ2 H2 vs st2 c2 r2
    have hDρ : D ∉ ρ := (rel.toCore.fresh hD).1
    have hH2 : H2 D = some (.dK []) := st2.keep D _ hDρ upd_same
    have hG2 : G2 D = none := st2.gnew D (rel.toCore.fresh hD).2 (by rw [upd_same]; simp)
    have hρ2 : D ∉ ρ2 := fun hm => by
      have := st2.new D hm hDρ
      rw [upd_same] at this; cases this
    have st12 := st1.trans c1 st2
    have lv := r2.len
    have hlen : ns.length = ys.length := by rw [evEs_len es e]; omega
    have hlen2 : ns.length = vs.length := by rw [lv]; exact hlen
    have hkeys : ((ns.map fun n => (Sum.inr n : Key)).zip vs).map (·.1) = ns.map fun n => (Sum.inr n : Key) := zip_fst (by simpa using hlen2)
    refine ⟨hH2, (ns.map fun n => (Sum.inr n : Key)).zip vs, zip_kv ns vs, by simp; omega, ?_⟩
    have nd : (((ns.map fun n => (Sum.inr n : Key)).zip vs).map (·.1)).Nodup := by
      rw [hkeys]
      exact List.pairwise_map.mpr (h3.imp fun hne e => hne (Sum.inr.inj e))
    rw [merge_nodup _ [] nd (by simp), List.nil_append]
    have pl : ρ2.length = M2.length := c2.len
    have pp : Pre ρ2 (ρ2 ++ [D]) := fun i ad e => by rw [List.getElem?_append_left (List.getElem?_eq_some_iff.mp e).1]; exact e
    refine q' G2 (ρ2 ++ [D]) _ (.ref D) ⟨st12.gg, st12.pp.trans pp, fun ad hm n => ?_, fun qa o n e => ?_, st12.gnew⟩ ⟨fun qa o e => ?_, fun ad hm => ?_, ?_, by simp [pl], fun i o ad e1 e2 => ?_⟩ (.obj (by rw [← pl]; simp))
    · rcases List.mem_append.mp hm with hm | hm
      · exact st12.new ad hm n
      · have : ad = D := by simpa using hm
        rw [this]; exact hD
    · rw [upd_ne (ne_of_none e hD)]; exact st12.keep qa o n e
    · have : qa ≠ D := fun z => by rw [z, hG2] at e; cases e
      rw [upd_ne this]; exact c2.gh qa o e
    · rcases List.mem_append.mp hm with hm | hm
      · exact c2.off ad hm
      · have : ad = D := by simpa using hm
        rw [this]; exact hG2
    · rw [List.nodup_append]
      refine ⟨c2.nd, by simp, fun ad hm bd hb => ?_⟩
      have : bd = D := by simpa using hb
      rw [this]
      exact fun z => hρ2 (z ▸ hm)
    · by_cases hi : i < ρ2.length
      · rw [List.getElem?_append_left (by rw [← pl]; exact hi)] at e1
        rw [List.getElem?_append_left hi] at e2
        have : ad ≠ D := fun z => hρ2 (z ▸ List.mem_of_getElem? e2)
        exact ObRel.mono (Same.refl _) pp (upd_ne this) (c2.st i o ad e1 e2)
      · rw [List.getElem?_append_right (by omega)] at e1 e2
        have hi0 : i = ρ2.length := by
          have := (List.getElem?_eq_some_iff.mp e2).1
          simp at this; omega
        rw [hi0] at e1 e2
        simp [pl] at e1 e2
        subst e1 e2
        refine ⟨_, upd_same, ?_, ?_⟩
        · rw [hkeys]
          have := zip_fst (as := ns) (bs := ys) hlen
          show _ = (ns.zip ys).map (fun p => (Sum.inr p.1 : Key))
          have e9 : (ns.zip ys).map (fun p => (Sum.inr p.1 : Key)) = ((ns.zip ys).map (·.1)).map (fun n => (Sum.inr n : Key)) := by rw [List.map_map]; rfl
          rw [e9, this]
        · rw [zip_snd (by simpa using hlen2), zip_snd hlen]
          exact Reps.mono (Same.refl _) pp r2

mutual
theorem sndE (TB : Tab Γ S C CX k) : ∀ (ir : Mp.E) {c : SC} {X : Cx} {E : XK}, XOk Γ S CX k c X E → ∀ (e : Expr), chkE S c ir e = true → PE X e (tE Γ E C ir)
  | .cint i, c, X, E, h, e, hc => by
    cases e with
    | Constant cc j q => cases cc with
      | int m => simp only [chkE, decide_eq_true_eq] at hc; subst hc; exact s_cint
      | _ => simp [chkE] at hc
    | _ => simp [chkE] at hc
  | .cstr i, c, X, E, h, e, hc => by
    cases e with
    | Constant cc j q => cases cc with
      | str m => simp only [chkE, decide_eq_true_eq] at hc; subst hc; exact s_cstr
      | _ => simp [chkE] at hc
    | _ => simp [chkE] at hc
  | .cbl i, c, X, E, h, e, hc => by
    cases e with
    | Constant cc j q => cases cc with
      | bool m => simp only [chkE, decide_eq_true_eq] at hc; subst hc; exact s_cbl
      | _ => simp [chkE] at hc
    | _ => simp [chkE] at hc
  | .cnon, c, X, E, h, e, hc => by
    cases e with
    | Constant cc j q => cases cc with
      | none => exact s_cnon
      | _ => simp [chkE] at hc
    | _ => simp [chkE] at hc
  | .var i, c, X, E, h, e, hc => by
    cases e with
    | Name n q => simp only [chkE, Bool.and_eq_true] at hc; exact s_var h hc.1 hc.2
    | _ => simp [chkE] at hc
  | .own i, c, X, E, h, e, hc => by
    cases e with
    | Name n q => simp only [chkE, Bool.and_eq_true] at hc; exact s_own h hc.1 hc.2
    | _ => simp [chkE] at hc
  | .glob i, c, X, E, h, e, hc => by
    cases e with
    | Name n q => simp only [chkE, Bool.and_eq_true] at hc; exact s_glob TB h hc.1 hc.2
    | _ => simp [chkE] at hc
  | .fnv i, c, X, E, h, e, hc => by
    cases e with
    | Name n q => simp only [chkE, Bool.and_eq_true] at hc; exact s_fnv TB h hc.1 hc.2
    | _ => simp [chkE] at hc
  | .tup es, c, X, E, h, e, hc => by
    cases e with
    | Tuple xs n q => simp only [chkE, Bool.and_eq_true, decide_eq_true_eq] at hc; exact s_tup (by rw [chkEs_len hc.2]; exact hc.1) (sndEs TB es h xs hc.2)
    | _ => simp [chkE] at hc
  | .lst es, c, X, E, h, e, hc => by
    cases e with
    | List xs q => simp only [chkE, Bool.and_eq_true, decide_eq_true_eq] at hc; exact s_lst (by rw [chkEs_len hc.2]; exact hc.1) (sndEs TB es h xs hc.2)
    | _ => simp [chkE] at hc
  | .bin o a b, c, X, E, h, e, hc => by
    cases e with
    | BinOp x op y q => simp only [chkE, Bool.and_eq_true, decide_eq_true_eq] at hc; obtain ⟨⟨rfl, h1⟩, h2⟩ := hc; exact s_bin h (sndE TB a h x h1) (sndE TB b h y h2)
    | _ => simp [chkE] at hc
  | .neg a, c, X, E, h, e, hc => by
    cases e with
    | UnaryOp op x q => cases op with
      | USub => simp only [chkE] at hc; exact s_neg (sndE TB a h x hc)
      | _ => simp [chkE] at hc
    | _ => simp [chkE] at hc
  | .cmp o a b, c, X, E, h, e, hc => by
    cases e with
    | Compare x ops ys q =>
      match ops, ys, hc with
      | [op], [y], hc =>
        simp only [chkE, Bool.and_eq_true, decide_eq_true_eq] at hc
        obtain ⟨⟨⟨rfl, h1⟩, h2⟩, h3⟩ := hc
        exact s_cmp h (sndP h h1 (sndE TB a h x h1)) (sndP h h2 (sndE TB b h y h2)) h3
      | [], _, hc => simp [chkE] at hc
      | [_], [], hc => simp [chkE] at hc
      | [_], _ :: _ :: _, hc => simp [chkE] at hc
      | _ :: _ :: _, _, hc => simp [chkE] at hc
    | _ => simp [chkE] at hc
  | .andv a b, c, X, E, h, e, hc => by
    cases e with
    | BoolOp op vs q =>
      match op, vs, hc with
      | .And, x :: y :: r, hc => simp only [chkE, Bool.and_eq_true] at hc; exact s_andv h (sndE TB a h x hc.1) (sndE TB b h _ hc.2)
      | .And, [], hc => simp [chkE] at hc
      | .And, [_], hc => simp [chkE] at hc
      | .Or, _, hc => simp [chkE] at hc
    | _ => simp [chkE] at hc
  | .orv a b, c, X, E, h, e, hc => by
    cases e with
    | BoolOp op vs q =>
      match op, vs, hc with
      | .Or, x :: y :: r, hc => simp only [chkE, Bool.and_eq_true] at hc; exact s_orv h (sndE TB a h x hc.1) (sndE TB b h _ hc.2)
      | .Or, [], hc => simp [chkE] at hc
      | .Or, [_], hc => simp [chkE] at hc
      | .And, _, hc => simp [chkE] at hc
    | _ => simp [chkE] at hc
  | .one a, c, X, E, h, e, hc => by
    cases e with
    | BoolOp op vs q =>
      match vs, hc with
      | [x], hc => simp only [chkE] at hc; exact PE.imp (pe_one (sndE TB a h x hc)) fun σ H Q q => q
      | [], hc => simp [chkE] at hc
      | _ :: _ :: _, hc => simp [chkE] at hc
    | _ => simp [chkE] at hc
  | .notv a, c, X, E, h, e, hc => by
    cases e with
    | UnaryOp op x q => cases op with
      | Not => simp only [chkE] at hc; exact s_notv h (sndE TB a h x hc)
      | _ => simp [chkE] at hc
    | _ => simp [chkE] at hc
  | .ife t a b, c, X, E, h, e, hc => by
    cases e with
    | IfExp z x y q => simp only [chkE, Bool.and_eq_true] at hc; exact s_ife (sndT TB t h z hc.1.1) (sndE TB a h x hc.1.2) (sndE TB b h y hc.2)
    | _ => simp [chkE] at hc
  | .idx a b, c, X, E, h, e, hc => by
    cases e with
    | Subscript x y q => simp only [chkE, Bool.and_eq_true] at hc; exact s_idx h (sndP h hc.1.1 (sndE TB a h x hc.1.1)) (sndE TB b h y hc.1.2) hc.2
    | _ => simp [chkE] at hc
  | .dgt a b, c, X, E, h, e, hc => by
    cases e with
    | Subscript x y q => simp only [chkE, Bool.and_eq_true] at hc; exact s_dgt h (sndE TB a h x hc.1.1) (sndE TB b h y hc.1.2) hc.2
    | _ => simp [chkE] at hc
  | .slc a lo hi, c, X, E, h, e, hc => by
    cases e with
    | Subscript x y q =>
      cases y with
      | Slice l u st q2 =>
        cases st with
        | none => simp only [chkE, Bool.and_eq_true] at hc; exact s_slc h (sndP h hc.1.1 (sndE TB a h x hc.1.1)) (sndO TB lo h l hc.1.2) (sndO TB hi h u hc.2)
        | some _ => simp [chkE] at hc
      | _ => simp [chkE] at hc
    | _ => simp [chkE] at hc
  | .call f sh es ks, c, X, E, h, e, hc => by
    cases e with
    | Call fe args kws q =>
      cases fe with
      | Name n q2 =>
        simp only [chkE, Bool.and_eq_true] at hc
        obtain ⟨⟨⟨h1, h2⟩, h3⟩, h4⟩ := hc
        cases hk : S.kw f sh with
        | none => rw [hk] at h4; cases h4
        | some ns =>
          rw [hk] at h4
          simp only [Bool.and_eq_true] at h4
          refine s_call TB h h1 h2 hk h3 (fun hn => ?_) h4.2 (sndEs TB es h args h3) (sndKs TB ks h ns kws h4.2)
          cases ns with
          | nil => exact absurd rfl hn
          | cons _ _ => cases args with
            | nil => exact absurd h4.1 (by simp)
            | cons _ _ => simp
      | _ => simp [chkE] at hc
    | _ => simp [chkE] at hc
  | .callv i es, c, X, E, h, e, hc => by cases e <;> simp [chkE] at hc
  | .blt b es, c, X, E, h, e, hc => by
    cases e with
    | Call fe args kws q =>
      cases fe with
      | Name n q2 =>
        cases kws with
        | nil =>
          cases args with
          | nil => simp [chkE] at hc
          | cons x xs =>
            simp only [chkE, Bool.and_eq_true, decide_eq_true_eq] at hc
            obtain ⟨⟨⟨⟨⟨rfl, h1⟩, h2⟩, h3⟩, _⟩, h5⟩ := hc
            exact s_blt TB h h1 h2 h3 (chkEs_star h5) (sndPs TB es h (x :: xs) h5)
        | cons _ _ => simp [chkE] at hc
      | _ => simp [chkE] at hc
    | _ => simp [chkE] at hc
  | .isi a t, c, X, E, h, e, hc => by
    cases e with
    | Call fe args kws q =>
      cases fe with
      | Name n q2 =>
        match args, kws, hc with
        | [x, .Name m q3], [], hc =>
          simp only [chkE, Bool.and_eq_true, decide_eq_true_eq] at hc
          obtain ⟨⟨⟨⟨⟨⟨⟨rfl, h1⟩, h2⟩, rfl⟩, h3⟩, h4⟩, h5⟩, h6⟩ := hc
          exact s_isi TB h h1 h2 h3 h4 h6 (sndP h h5 (sndE TB a h x h5))
        | [], _, hc => simp [chkE] at hc
        | [_], _, hc => simp [chkE] at hc
        | _ :: _ :: _ :: _, _, hc => simp [chkE] at hc
        | [x, y], _ :: _, hc => cases y <;> simp [chkE] at hc
        | [x, y], [], hc => cases y <;> first | (exfalso; simp [chkE] at hc; done) | skip
                            rename_i m q3
                            simp only [chkE, Bool.and_eq_true, decide_eq_true_eq] at hc
                            obtain ⟨⟨⟨⟨⟨⟨⟨rfl, h1⟩, h2⟩, rfl⟩, h3⟩, h4⟩, h5⟩, h6⟩ := hc
                            exact s_isi TB h h1 h2 h3 h4 h6 (sndP h h5 (sndE TB a h x h5))
      | _ => simp [chkE] at hc
    | _ => simp [chkE] at hc
  | .comp g own it t a, c, X, E, h, e, hc => by
    cases e with
    | ListComp x gens scope q =>
      match gens, hc with
      | [⟨tg, iter, ifs, as⟩], hc =>
        simp only [chkE, Bool.and_eq_true, decide_eq_true_eq] at hc
        obtain ⟨⟨⟨⟨⟨⟨⟨rfl, h1⟩, h2⟩, h3⟩, h4⟩, h5⟩, h6⟩, h7⟩ := hc
        exact s_comp TB h h1 h2 h3 (sndI TB it h iter h4) (fun X' h' => sndG h' TB.nd g tg h5) (fun X' h' => sndTs TB t h' ifs h6) (fun X' h' => sndE TB a h' x h7)
      | [], hc => simp [chkE] at hc
      | _ :: _ :: _, hc => simp [chkE] at hc
    | _ => simp [chkE] at hc
  | .dsp ns es, c, X, E, h, e, hc => by
    cases e with
    | Dict keys vals q =>
      simp only [chkE, Bool.and_eq_true, decide_eq_true_eq] at hc
      obtain ⟨⟨⟨⟨⟨h1, h2⟩, h3⟩, h4⟩, h5⟩, h6⟩ := hc
      exact s_dsp h h1 h2 h3 h4 h5 (chkEs_len h6) (sndPP TB es h ns keys vals q h4 h5 h6)
    | _ => simp [chkE] at hc
theorem sndEs (TB : Tab Γ S C CX k) : ∀ (es : Es) {c : SC} {X : Cx} {E : XK}, XOk Γ S CX k c X E → ∀ (xs : List Expr), chkEs S c es xs = true → PA X xs (tEs Γ E C es)
  | .nil, c, X, E, h, [], hc => a_nil
  | .nil, c, X, E, h, _ :: _, hc => by simp [chkEs] at hc
  | .cons e r, c, X, E, h, [], hc => by simp [chkEs] at hc
  | .cons e r, c, X, E, h, x :: xs, hc => by
    simp only [chkEs, Bool.and_eq_true] at hc
    exact a_cons (sndE TB e h x hc.1.2) (sndEs TB r h xs hc.2) hc.1.1
theorem sndPs (TB : Tab Γ S C CX k) : ∀ (es : Es) {c : SC} {X : Cx} {E : XK}, XOk Γ S CX k c X E → ∀ (xs : List Expr), chkEs S c es xs = true → PA X xs (tPs Γ E C es)
  | .nil, c, X, E, h, [], hc => b_nil
  | .nil, c, X, E, h, _ :: _, hc => by simp [chkEs] at hc
  | .cons e r, c, X, E, h, [], hc => by simp [chkEs] at hc
  | .cons e r, c, X, E, h, x :: xs, hc => by
    simp only [chkEs, Bool.and_eq_true] at hc
    exact b_cons (sndP h hc.1.2 (sndE TB e h x hc.1.2)) (sndPs TB r h xs hc.2) hc.1.1
theorem sndKs (TB : Tab Γ S C CX k) : ∀ (es : Es) {c : SC} {X : Cx} {E : XK}, XOk Γ S CX k c X E → ∀ (ns : List Str) (xs : List Keyword), chkKs S c ns es xs = true → PK X xs (tEs Γ E C es)
  | .nil, c, X, E, h, [], [], hc => k_nil
  | .nil, c, X, E, h, [], _ :: _, hc => by simp [chkKs] at hc
  | .nil, c, X, E, h, _ :: _, _, hc => by simp [chkKs] at hc
  | .cons e r, c, X, E, h, [], _, hc => by simp [chkKs] at hc
  | .cons e r, c, X, E, h, _ :: _, [], hc => by simp [chkKs] at hc
  | .cons e r, c, X, E, h, n :: ns, ⟨none, x, q⟩ :: xs, hc => by simp [chkKs] at hc
  | .cons e r, c, X, E, h, n :: ns, ⟨some m, x, q⟩ :: xs, hc => by
    simp only [chkKs, Bool.and_eq_true] at hc
    exact k_cons (sndE TB e h x hc.1.2) (sndKs TB r h ns xs hc.2)
theorem sndPP (TB : Tab Γ S C CX k) : ∀ (es : Es) {c : SC} {X : Cx} {E : XK}, XOk Γ S CX k c X E → ∀ (ns : List Str) (keys : List (Option Expr)) (xs : List Expr) (q : Pos), keys.length = xs.length → chkStrs ns keys = true → chkEs S c es xs = true → PPs X q keys xs (trsOf Γ E C ns es)
  | .nil, c, X, E, h, ns, keys, [], q, hl, hs, hc => by
    cases keys with
    | nil => cases ns with
      | nil => exact pps_nil
      | cons _ _ => simp [chkStrs] at hs
    | cons _ _ => simp at hl
  | .nil, c, X, E, h, ns, keys, _ :: _, q, hl, hs, hc => by simp [chkEs] at hc
  | .cons e r, c, X, E, h, ns, keys, [], q, hl, hs, hc => by simp [chkEs] at hc
  | .cons e r, c, X, E, h, ns, keys, x :: xs, q, hl, hs, hc => by
    simp only [chkEs, Bool.and_eq_true] at hc
    match ns, keys, hl, hs with
    | n :: ns, some kx :: keys, hl, hs =>
      cases kx with
      | Constant cc j q2 =>
        cases cc with
        | str s =>
          simp only [chkStrs, Bool.and_eq_true, decide_eq_true_eq] at hs
          obtain ⟨rfl, hs⟩ := hs
          exact pps_cons pe_str (sndE TB e h x hc.1.2) (sndPP TB r h ns keys xs q (by simpa using hl) hs hc.2)
        | _ => simp [chkStrs] at hs
      | _ => simp [chkStrs] at hs
    | _, [], hl, _ => simp at hl
    | [], _ :: _, _, hs => simp [chkStrs] at hs
    | _ :: _, none :: _, _, hs => simp [chkStrs] at hs
theorem sndO (TB : Tab Γ S C CX k) : ∀ (o : O) {c : SC} {X : Cx} {E : XK}, XOk Γ S CX k c X E → ∀ (x : Option Expr), chkO S c o x = true → PO X x (tO Γ E C o)
  | .non, c, X, E, h, none, hc => o_non
  | .non, c, X, E, h, some _, hc => by simp [chkO] at hc
  | .som e, c, X, E, h, none, hc => by simp [chkO] at hc
  | .som e, c, X, E, h, some x, hc => by simp only [chkO] at hc; exact o_som (sndE TB e h x hc)
theorem sndW (TB : Tab Γ S C CX k) : ∀ (t : T) {c : SC} {X : Cx} {E : XK}, XOk Γ S CX k c X E → ∀ (op : BoolOp) (vs : List Expr) (q : Pos), chkT S c t (.BoolOp op vs q) = true → PW X (.BoolOp op vs q) (tT Γ E C t)
  | .val e, c, X, E, h, op, vs, q, hc => by simp [chkT, plainT] at hc
  | .cmp o a b, c, X, E, h, op, vs, q, hc => by simp [chkT] at hc
  | .not t, c, X, E, h, op, vs, q, hc => by simp [chkT] at hc
  | .and a b, c, X, E, h, op, vs, q, hc => by
    match op, vs, hc with
    | .And, x :: y :: r, hc => simp only [chkT, Bool.and_eq_true] at hc; exact w_and (sndT TB a h x hc.1) (sndW TB b h _ _ _ hc.2)
    | .And, [], hc => simp [chkT] at hc
    | .And, [_], hc => simp [chkT] at hc
    | .Or, _, hc => simp [chkT] at hc
  | .or a b, c, X, E, h, op, vs, q, hc => by
    match op, vs, hc with
    | .Or, x :: y :: r, hc => simp only [chkT, Bool.and_eq_true] at hc; exact w_or (sndT TB a h x hc.1) (sndW TB b h _ _ _ hc.2)
    | .Or, [], hc => simp [chkT] at hc
    | .Or, [_], hc => simp [chkT] at hc
    | .And, _, hc => simp [chkT] at hc
  | .one a, c, X, E, h, op, vs, q, hc => by
    match vs, hc with
    | [x], hc => simp only [chkT] at hc; exact w_one (sndT TB a h x hc)
    | [], hc => simp [chkT] at hc
    | _ :: _ :: _, hc => simp [chkT] at hc
theorem sndT (TB : Tab Γ S C CX k) : ∀ (t : T) {c : SC} {X : Cx} {E : XK}, XOk Γ S CX k c X E → ∀ (e : Expr), chkT S c t e = true → PT X e (tT Γ E C t)
  | .val a, c, X, E, h, e, hc => by
    simp only [chkT, Bool.and_eq_true] at hc
    exact t_val h (sndP h hc.2 (sndE TB a h e hc.2)) hc.1
  | .cmp o a b, c, X, E, h, e, hc => by
    cases e with
    | Compare x ops ys q =>
      match ops, ys, hc with
      | [op], [y], hc =>
        simp only [chkT, Bool.and_eq_true, decide_eq_true_eq] at hc
        obtain ⟨⟨⟨rfl, h1⟩, h2⟩, h3⟩ := hc
        exact t_cmp h (sndP h h1 (sndE TB a h x h1)) (sndP h h2 (sndE TB b h y h2)) h3
      | [], _, hc => simp [chkT] at hc
      | [_], [], hc => simp [chkT] at hc
      | [_], _ :: _ :: _, hc => simp [chkT] at hc
      | _ :: _ :: _, _, hc => simp [chkT] at hc
    | _ => simp [chkT] at hc
  | .not t, c, X, E, h, e, hc => by
    cases e with
    | UnaryOp op x q => cases op with
      | Not => simp only [chkT] at hc; exact t_not (sndT TB t h x hc)
      | _ => simp [chkT] at hc
    | _ => simp [chkT] at hc
  | .and a b, c, X, E, h, e, hc => by
    cases e with
    | BoolOp op vs q =>
      match op, vs, hc with
      | .And, x :: y :: r, hc => simp only [chkT, Bool.and_eq_true] at hc; exact (w_and (sndT TB a h x hc.1) (sndW TB b h _ _ _ hc.2)).pt
      | .And, [], hc => simp [chkT] at hc
      | .And, [_], hc => simp [chkT] at hc
      | .Or, _, hc => simp [chkT] at hc
    | _ => simp [chkT] at hc
  | .or a b, c, X, E, h, e, hc => by
    cases e with
    | BoolOp op vs q =>
      match op, vs, hc with
      | .Or, x :: y :: r, hc => simp only [chkT, Bool.and_eq_true] at hc; exact (w_or (sndT TB a h x hc.1) (sndW TB b h _ _ _ hc.2)).pt
      | .Or, [], hc => simp [chkT] at hc
      | .Or, [_], hc => simp [chkT] at hc
      | .And, _, hc => simp [chkT] at hc
    | _ => simp [chkT] at hc
  | .one a, c, X, E, h, e, hc => by
    cases e with
    | BoolOp op vs q =>
      match vs, hc with
      | [x], hc => simp only [chkT] at hc; exact (w_one (sndT TB a h x hc)).pt
      | [], hc => simp [chkT] at hc
      | _ :: _ :: _, hc => simp [chkT] at hc
    | _ => simp [chkT] at hc
theorem sndTs (TB : Tab Γ S C CX k) : ∀ (t : Ts) {c : SC} {X : Cx} {E : XK}, XOk Γ S CX k c X E → ∀ (es : List Expr), chkTs S c t es = true → PTs X es (tTs Γ E C t)
  | .nil, c, X, E, h, [], hc => ⟨fun pins s σ H Q I ⟨H0, G, ρ, M, env, rel, q⟩ => pts_nil.run pins s σ H Q I (Post.now rel.toCore q rfl)⟩
  | .nil, c, X, E, h, _ :: _, hc => by simp [chkTs] at hc
  | .one t, c, X, E, h, [], hc => by simp [chkTs] at hc
  | .one t, c, X, E, h, [x], hc => by
    simp only [chkTs] at hc
    exact ⟨fun pins s σ H Q I q => (pts_one (sndT TB t h x hc)).run pins s σ H Q I q⟩
  | .one t, c, X, E, h, _ :: _ :: _, hc => by simp [chkTs] at hc
theorem sndI (TB : Tab Γ S C CX k) : ∀ (it : Mp.It) {c : SC} {X : Cx} {E : XK} {tg : Expr}, XOk Γ S CX k c X E → ∀ (e : Expr), chkI S c it e = true → PI X tg e (tI Γ E C it)
  | .seq a, c, X, E, tg, h, e, hc => by
    simp only [chkI, Bool.and_eq_true] at hc
    exact s_seq h (sndE TB a h e hc.2)
  | .rng1 a, c, X, E, tg, h, e, hc => by
    cases e with
    | Call fe args kws q =>
      cases fe with
      | Name n q2 =>
        match args, kws, hc with
        | [x], [], hc =>
          simp only [chkI, Bool.and_eq_true, decide_eq_true_eq] at hc
          obtain ⟨⟨⟨⟨rfl, h1⟩, h2⟩, h3⟩, h4⟩ := hc
          exact s_rng1 TB h h1 h2 h3 (sndE TB a h x h4)
        | [], _, hc => simp [chkI] at hc
        | [_], _ :: _, hc => simp [chkI] at hc
        | _ :: _ :: _, _, hc => simp [chkI] at hc
      | _ => simp [chkI] at hc
    | _ => simp [chkI] at hc
  | .rng2 a b, c, X, E, tg, h, e, hc => by
    cases e with
    | Call fe args kws q =>
      cases fe with
      | Name n q2 =>
        match args, kws, hc with
        | [x, y], [], hc =>
          simp only [chkI, Bool.and_eq_true, decide_eq_true_eq] at hc
          obtain ⟨⟨⟨⟨⟨⟨rfl, h1⟩, h2⟩, h3⟩, h4⟩, h5⟩, h6⟩ := hc
          exact s_rng2 TB h h1 h2 h3 h4 (sndE TB a h x h5) (sndE TB b h y h6)
        | [], _, hc => simp [chkI] at hc
        | [_], _, hc => simp [chkI] at hc
        | [_, _], _ :: _, hc => simp [chkI] at hc
        | _ :: _ :: _ :: _, _, hc => simp [chkI] at hc
      | _ => simp [chkI] at hc
    | _ => simp [chkI] at hc
end
end
end Mp
end

section
set_option Elab.async false
set_option linter.all false
set_option maxRecDepth 100000
/-! Statements. -/
namespace Mp
open PySem PySem.Spec L2

/-- where a def began, and a place on the way -/
structure Anc where
  G0 : Hp
  ρ0 : List Addr
  H0 : Hp
  GA : Hp
  ρA : List Addr
structure At (A : Anc) (G : Hp) (ρ : List Addr) (H : Hp) : Prop where
  adv : Adv A.G0 A.ρ0 A.H0 G ρ H
  ga : Sub A.GA G
  pa : Pre A.ρA ρ

def PostS (XE : XW) (Γ : Cfg) (A : Anc) (r : SRes) (D : Ends) : Prop := match r with
  | .next env' M' => ∀ G' ρ' σ' H', At A G' ρ' H' → Rel Γ A.H0 G' ρ' M' σ' env' H' → D.nx σ' H'
  | .ret d M' => ∀ G' ρ' H' v, At A G' ρ' H' → Core Γ G' ρ' M' H' → Rep Γ G' ρ' v d → D.rt v H'
  | .brk env' M' => ∀ G' ρ' σ' H', At A G' ρ' H' → Rel Γ A.H0 G' ρ' M' σ' env' H' → D.bk σ' H'
  | .cnt env' M' => ∀ G' ρ' σ' H', At A G' ρ' H' → Rel Γ A.H0 G' ρ' M' σ' env' H' → D.ct σ' H'
  | .exc x M' => ∀ G' ρ' H', At A G' ρ' H' → Core Γ G' ρ' M' H' → XE x G' ρ' H'
  | .stk => False
def tSt (XE : XW) (Γ : Cfg) (ev : Env → Sto → SRes) : TS := fun D σ H => ∃ A G ρ M env, At A G ρ H ∧ Rel Γ A.H0 G ρ M σ env H ∧ PostS XE Γ A (ev env M) D

section
variable {Γ : Cfg} {S : Sta} {C : Cal} {CX : CXT} {k : Nat} {c : SC} {X : Cx} {E : XK} {x y z tg : Expr} {p : Pos} {a b d : Mp.E}
  {A : Anc} {G G' : Hp} {ρ ρ' : List Addr} {M M' : Sto} {σ σ' : L2.St} {env env' : Env} {H H' : Hp} {D : Ends} {XE : XW}
theorem At.step (a : At A G ρ H) (c : Core Γ G ρ M H) (b : Adv G ρ H G' ρ' H') : At A G' ρ' H' := ⟨a.adv.trans c b, a.ga.trans b.gg, a.pa.trans b.pp⟩
theorem PostS.of {α β : Type} {R : RR β α} {r : Res α} {kk : α → Sto → SRes} (at_ : At A G ρ H) (rel : Rel Γ A.H0 G ρ M σ env H) (q : PostS XE Γ A (SRes.of r kk) D) :
    Post XE R Γ G ρ H r (fun v H1 => ∃ G1 ρ1 M1 a, At A G1 ρ1 H1 ∧ Rel Γ A.H0 G1 ρ1 M1 σ env H1 ∧ R G1 ρ1 H1 v a ∧ PostS XE Γ A (kk a M1) D) := by
  cases r with
  | ok a M' => exact fun G' ρ' H' b st c2 hr => ⟨G', ρ', M', a, at_.step rel.toCore st, rel.adv st c2, hr, q⟩
  | exc x M' => exact fun G' ρ' H' st c2 => q G' ρ' H' (at_.step rel.toCore st) c2
  | stk => exact q
/-- an expression at the head of a statement -/
theorem tS_of {α β : Type} {R : RR β α} {ev : Env → Sto → Res α} {kk : Env → α → Sto → SRes} (q : tSt XE Γ (fun env M => SRes.of (ev env M) (kk env)) D σ H) :
    tG XE R Γ ev σ H (fun v H1 => ∃ A G1 ρ1 M1 env a, At A G1 ρ1 H1 ∧ Rel Γ A.H0 G1 ρ1 M1 σ env H1 ∧ R G1 ρ1 H1 v a ∧ PostS XE Γ A (kk env a M1) D) := by
  obtain ⟨A, G, ρ, M, env, at_, rel, q⟩ := q
  refine ⟨A.H0, G, ρ, M, env, rel, Post.mono (PostS.of (R := R) at_ rel q) ?_⟩
  rintro v H1 ⟨G1, ρ1, M1, a, h1, h2, h3, h4⟩
  exact ⟨A, G1, ρ1, M1, env, a, h1, h2, h3, h4⟩

abbrev tSs (Γ : Cfg) (E : XK) (C : Cal) (s : List Mp.S) : TS := tSt (XPf Γ E) Γ (fun env M => evSs C s env M)
abbrev tS1 (Γ : Cfg) (E : XK) (C : Cal) (s : Mp.S) : TS := tSt (XPf Γ E) Γ (fun env M => evS C s env M)

theorem ss_nil : PSs X [] (tSs Γ E C []) := PSs.imp pss_nil fun D σ H ⟨A, G, ρ, M, env, at_, rel, q⟩ => by
  simp only [evSs] at q
  exact q G ρ σ H at_ rel
theorem ss_cons {st : Stmt} {r : List Stmt} {s : Mp.S} {rs : List Mp.S} (h1 : PS X st (tS1 Γ E C s)) (h2 : PSs X r (tSs Γ E C rs)) : PSs X (st :: r) (tSs Γ E C (s :: rs)) := by
  refine PSs.imp (pss_cons h1 h2) fun D σ H ⟨A, G, ρ, M, env, at_, rel, q⟩ => ⟨A, G, ρ, M, env, at_, rel, ?_⟩
  simp only [evSs] at q
  show PostS _ _ _ (evS C s env M) _
  cases e : evS C s env M with
  | next env' M' =>
    rw [e] at q
    intro G' ρ' σ' H' a2 r2
    exact ⟨A, G', ρ', M', env', a2, r2, q⟩
  | ret d M' => rw [e] at q; exact q
  | brk env' M' => rw [e] at q; exact q
  | cnt env' M' => rw [e] at q; exact q
  | exc x M' => rw [e] at q; exact q
  | stk => rw [e] at q; exact q

/-! ### simple statements -/
theorem st_pas : PS X (.Pass p) (tS1 Γ E C .pas) := PS.imp ps_pass fun D σ H ⟨A, G, ρ, M, env, at_, rel, q⟩ => by
  simp only [evS] at q
  exact q G ρ σ H at_ rel
theorem st_brk : PS X (.Break p) (tS1 Γ E C .brk) := PS.imp ps_break fun D σ H ⟨A, G, ρ, M, env, at_, rel, q⟩ => by
  simp only [evS] at q
  exact q G ρ σ H at_ rel
theorem st_cnt : PS X (.Continue p) (tS1 Γ E C .cnt) := PS.imp ps_continue fun D σ H ⟨A, G, ρ, M, env, at_, rel, q⟩ => by
  simp only [evS] at q
  exact q G ρ σ H at_ rel
theorem st_retn : PS X (.Return none p) (tS1 Γ E C .retn) := PS.imp ps_retN fun D σ H ⟨A, G, ρ, M, env, at_, rel, q⟩ => by
  simp only [evS] at q
  exact q G ρ H .non at_ rel.toCore .non
theorem st_ret (ha : PE X x (tE Γ E C a)) : PS X (.Return (some x) p) (tS1 Γ E C (.ret a)) := PS.imp (ps_ret ha) fun D σ H q => by
  have q' : tSt (XPf Γ E) Γ (fun env M => .of (evE C a env M) fun x M => .ret x M) D σ H := by
    obtain ⟨A, G, ρ, M, env, at_, rel, q⟩ := q
    simp only [evS] at q
    exact ⟨A, G, ρ, M, env, at_, rel, q⟩
  refine tG.mono (tS_of (R := RepS Γ) (kk := fun _ x M => .ret x M) q') ?_
  rintro v H1 ⟨A, G1, ρ1, M1, env, dd, at1, rel1, r1, q1⟩
  exact q1 G1 ρ1 H1 v at1 rel1.toCore r1
theorem st_expr (hn : noComp x = true) (ha : PE X x (tE Γ E C a)) : PS X (.Expr x p) (tS1 Γ E C (.expr a)) := PS.imp (ps_expr ha (swap_plain hn)) fun D σ H q => by
  have q' : tSt (XPf Γ E) Γ (fun env M => .of (evE C a env M) fun _ M => .next env M) D σ H := by
    obtain ⟨A, G, ρ, M, env, at_, rel, q⟩ := q
    simp only [evS] at q
    exact ⟨A, G, ρ, M, env, at_, rel, q⟩
  refine tG.mono (tS_of (R := RepS Γ) (kk := fun env _ M => .next env M) q') ?_
  rintro v H1 ⟨A, G1, ρ1, M1, env, dd, at1, rel1, r1, q1⟩
  exact q1 G1 ρ1 σ H1 at1 rel1
theorem st_asg (TB : Tab Γ S C CX k) (h : XOk Γ S CX k c X E) {i : Nat} {n : Str} {p' : Pos} (h1 : at? S.N i n = true) (h2 : stB c.o n = true) (hn : noComp x = true) (ha : PE X x (tE Γ E C a)) : PS X (.Assign [.Name n p'] x p) (tS1 Γ E C (.asg (.nm i) a)) := by
  obtain ⟨e1, e2⟩ := at_ok h1
  obtain ⟨l1, l2⟩ := h.sto n h2
  refine PS.imp (ps_set (i := i) (by rw [h.N]; exact TB.nd) (by rw [h.N]; exact e1) l1 ha (swap_plain hn) l2) fun D σ H q => ?_
  have q' : tSt (XPf Γ E) Γ (fun env M => .of (evE C a env M) fun x M => (match bindG (.nm i) x env with | some env' => .next env' M | none => .stk)) D σ H := by
    obtain ⟨A, G, ρ, M, env, at_, rel, q⟩ := q
    simp only [evS] at q
    exact ⟨A, G, ρ, M, env, at_, rel, q⟩
  refine tG.mono (tS_of (R := RepS Γ) (kk := fun env x M => (match bindG (.nm i) x env with | some env' => .next env' M | none => .stk)) q') ?_
  rintro v H1 ⟨A, G1, ρ1, M1, env, dd, at1, rel1, r1, q1⟩
  simp only [bindG] at q1
  split at q1
  · rename_i hi
    split at hi
    · cases hi
      exact q1 G1 ρ1 _ H1 at1 (rel1.setVal r1)
    · cases hi
  · exact q1.elim
theorem st_asgT (TB : Tab Γ S C CX k) (h : XOk Γ S CX k c X E) {gs : List Mp.G} {ts : List Expr} {n : Nat} {p' : Pos} (hg : PG X (.Tuple ts n p') (tGt Γ (.tp gs))) (hn : noComp x = true) (hw : swappedStores [.Tuple ts n p'] x X.env = pure none) (ha : PE X x (tE Γ E C a)) :
    PS X (.Assign [.Tuple ts n p'] x p) (tS1 Γ E C (.asg (.tp gs) a)) := by
  refine PS.imp (ps_asg ha hg (by unfold swapsWithSole; exact swap_plain hn) hw rfl) fun D σ H q => ?_
  have q' : tSt (XPf Γ E) Γ (fun env M => .of (evE C a env M) fun x M => (match bindG (.tp gs) x env with | some env' => .next env' M | none => .stk)) D σ H := by
    obtain ⟨A, G, ρ, M, env, at_, rel, q⟩ := q
    simp only [evS] at q
    exact ⟨A, G, ρ, M, env, at_, rel, q⟩
  refine tG.mono (tS_of (R := RepS Γ) (kk := fun env x M => (match bindG (.tp gs) x env with | some env' => .next env' M | none => .stk)) q') ?_
  rintro v H1 ⟨A, G1, ρ1, M1, env, dd, at1, rel1, r1, q1⟩
  cases e : bindG (.tp gs) dd env with
  | none => rw [e] at q1; exact q1.elim
  | some env' =>
    rw [e] at q1
    exact ⟨A.H0, G1, ρ1, M1, env, dd, env', rel1, r1, e, fun σ' _ rel' => q1 G1 ρ1 σ' H1 at1 rel'⟩
theorem st_ifs {t : T} {as bs : List Mp.S} {xs ys : List Stmt} (ht : PT X z (tT Γ E C t)) (ha : PSs X xs (tSs Γ E C as)) (hb : PSs X ys (tSs Γ E C bs)) : PS X (.If z xs ys p) (tS1 Γ E C (.ifs t as bs)) := by
  refine PS.imp (ps_if ht ha hb) fun D σ H q => ?_
  have q' : tSt (XPf Γ E) Γ (fun env M => .of (evT C t env M) fun t M => if t = true then evSs C as env M else evSs C bs env M) D σ H := by
    obtain ⟨A, G, ρ, M, env, at_, rel, q⟩ := q
    simp only [evS] at q
    exact ⟨A, G, ρ, M, env, at_, rel, q⟩
  refine tG.mono (tS_of (R := RepEq Bool) (kk := fun env t M => if t = true then evSs C as env M else evSs C bs env M) q') ?_
  rintro v H1 ⟨A, G1, ρ1, M1, env, dd, at1, rel1, rfl, q1⟩
  cases v with
  | true => exact ⟨A, G1, ρ1, M1, env, at1, rel1, q1⟩
  | false => exact ⟨A, G1, ρ1, M1, env, at1, rel1, q1⟩

/-! ### lists of the frame's own -/
theorem Rel.setOwn {H0 : Hp} (r : Rel Γ H0 G ρ M σ env H) {i : Nat} {q : Addr} {vs : List V} {ds : List Mp.D} (hi : i < env.length) (h0 : H0 q = none) (hq : H q = none) (rs : Reps Γ G ρ vs ds) :
    Rel Γ H0 G ρ M (σ.set i (some (V.ref q))) (env.set i (Slot.own ds)) (upd H q (.lst vs)) := by
  have hf := r.toCore.fresh hq
  have r' := r.adv (Adv.laid (G := G) (ρ := ρ) (o := .lst vs) hq) (r.toCore.laid hq)
  have old : ∀ (j : Nat) (ad : Addr) (es : List Mp.D), env[j]? = some (Slot.own es) → σ[j]? = some (some (V.ref ad)) → ad ≠ q := by
    intro j ad es e1 e2 z
    obtain ⟨a', vs', f1, _, _, _, f2, _⟩ := r.sl j _ e1
    rw [e2] at f1
    cases f1
    rw [z, hq] at f2; cases f2
  refine ⟨r'.toCore, by simpa using r.slen, fun j s e => ?_, fun j l ad ds' es e1 e2 e3 e4 => ?_⟩
  · by_cases hj : i = j
    · subst hj
      rw [List.getElem?_set_self hi] at e
      cases e
      exact ⟨q, vs, List.getElem?_set_self (by rw [r.slen]; exact hi), hf.2, hf.1, h0, upd_same, rs⟩
    · rw [List.getElem?_set_ne hj] at e ⊢
      exact r'.sl j s e
  · by_cases h1 : i = j
    · by_cases h2 : i = l
      · exact h1.symm.trans h2
      · subst h1
        rw [List.getElem?_set_ne h2] at e2 e4
        rw [List.getElem?_set_self (by rw [r.slen]; exact hi)] at e3
        cases e3
        exact absurd rfl (old l _ es e2 e4)
    · by_cases h2 : i = l
      · subst h2
        rw [List.getElem?_set_ne h1] at e1 e3
        rw [List.getElem?_set_self (by rw [r.slen]; exact hi)] at e4
        cases e4
        exact absurd rfl (old j _ ds' e1 e3)
      · rw [List.getElem?_set_ne h1] at e1 e3
        rw [List.getElem?_set_ne h2] at e2 e4
        exact r.dis j l ad ds' es e1 e2 e3 e4
theorem At.fresh (a : At A G ρ H) (c : Core Γ G ρ M H) {q : Addr} (h : H q = none) : A.H0 q = none := by
  cases e : A.H0 q with
  | none => rfl
  | some o =>
    by_cases hq : q ∈ A.ρ0
    · obtain ⟨o', e'⟩ := c.there (a.adv.pp.mem hq)
      rw [h] at e'; cases e'
    · rw [a.adv.keep q o hq e] at h; cases h
theorem st_ownL (TB : Tab Γ S C CX k) (h : XOk Γ S CX k c X E) {i : Nat} {n : Str} {p' p2 : Pos} {es : Es} {xs : List Expr} (h1 : at? S.N i n = true) (h2 : stB c.o n = true) (hl : esLen es ≤ 1000) (ha : PA X xs (tEs Γ E C es)) :
    PS X (.Assign [.Name n p'] (.List xs p2) p) (tS1 Γ E C (.ownL i es)) := by
  obtain ⟨e1, e2⟩ := at_ok h1
  obtain ⟨l1, l2⟩ := h.sto n h2
  refine PS.imp (ps_set (i := i) (by rw [h.N]; exact TB.nd) (by rw [h.N]; exact e1) l1 (pe_lst ha) (swap_plain rfl) l2) fun D σ H q => ?_
  have q' : tSt (XPf Γ E) Γ (fun env M => .of (evEs C es env M) fun xs M => if i < env.length then .next (env.set i (.own xs)) M else .stk) D σ H := by
    obtain ⟨A, G, ρ, M, env, at_, rel, q⟩ := q
    simp only [evS] at q
    exact ⟨A, G, ρ, M, env, at_, rel, q⟩
  obtain ⟨A, G, ρ, M, env, at_, rel, q2⟩ := q'
  have q3 := PostS.of (R := RepLS Γ) at_ rel q2
  refine ⟨A.H0, G, ρ, M, env, rel, ?_⟩
  show Post _ _ _ _ _ _ (evEs C es env M) _
  cases e : evEs C es env M with
  | exc y M' => rw [e] at q3; exact q3
  | stk => rw [e] at q3; exact q3
  | ok ys M' =>
    rw [e] at q3
    intro G' ρ' H' vs st c2 hr
    obtain ⟨G1, ρ1, M1, ds, at1, rel1, r1, q4⟩ := q3 G' ρ' H' vs st c2 hr
    have hvl : vs.length = esLen es := by rw [Reps.len hr]; exact evEs_len es e
    refine ⟨small_line (by omega), fun ad hd => ?_⟩
    split at q4
    · rename_i hi
      exact q4 G1 ρ1 _ _ (at1.step rel1.toCore (Adv.laid hd)) (rel1.setOwn hi (at1.fresh rel1.toCore hd) hd r1)
    · exact q4.elim
theorem Rel.writeOwn {H0 : Hp} (r : Rel Γ H0 G ρ M σ env H) {i : Nat} {q : Addr} {vs : List V} {ds ds' : List Mp.D} (e : env[i]? = some (.own ds)) (eq : σ[i]? = some (some (V.ref q))) (rs : Reps Γ G ρ vs ds') :
    Rel Γ H0 G ρ M σ (env.set i (Slot.own ds')) (upd H q (.lst vs)) := by
  have hi : i < env.length := (List.getElem?_eq_some_iff.mp e).1
  obtain ⟨ad, vs0, e1, g, n, h0, l, _⟩ := r.sl i _ e
  rw [eq] at e1
  cases e1
  refine ⟨⟨fun b o eb => ?_, r.off, r.nd, r.len, fun j o ad e1 e2 => ?_⟩, by simpa using r.slen, fun j s es => ?_, fun j l' ad ds1 ds2 e1 e2 e3 e4 => ?_⟩
  · have : b ≠ q := fun z => by rw [z, g] at eb; cases eb
    rw [upd_ne this]; exact r.gh b o eb
  · have : ad ≠ q := fun z => n (z ▸ List.mem_of_getElem? e2)
    exact ObRel.mono (Same.refl _) (Pre.refl _) (upd_ne this) (r.st j o ad e1 e2)
  · by_cases hj : i = j
    · subst hj
      rw [List.getElem?_set_self hi] at es
      cases es
      exact ⟨q, vs, eq, g, n, h0, upd_same, rs⟩
    · rw [List.getElem?_set_ne hj] at es
      have rj := r.sl j s es
      cases s with
      | non => trivial
      | val d => exact rj
      | own es' =>
        obtain ⟨ad, vs1, f1, f2, f3, f4, f5, f6⟩ := rj
        refine ⟨ad, vs1, f1, f2, f3, f4, ?_, f6⟩
        have : ad ≠ q := fun z => hj (r.dis i j q ds es' e es eq (z ▸ f1))
        rw [upd_ne this]; exact f5
  · have old : ∀ (m : Nat) (es : List Mp.D), (env.set i (Slot.own ds'))[m]? = some (.own es) → ∃ es', env[m]? = some (.own es') := by
      intro m es em
      by_cases hm : i = m
      · subst hm; exact ⟨_, e⟩
      · rw [List.getElem?_set_ne hm] at em; exact ⟨_, em⟩
    obtain ⟨x1, y1⟩ := old j ds1 e1
    obtain ⟨x2, y2⟩ := old l' ds2 e2
    exact r.dis j l' ad x1 x2 y1 y2 e3 e4
theorem At.write (a : At A G ρ H) {q : Addr} {o : HO} (h : A.H0 q = none) : At A G ρ (upd H q o) :=
  ⟨⟨a.adv.gg, a.adv.pp, a.adv.new, fun b o' n e => by rw [upd_ne (ne_of_none e h)]; exact a.adv.keep b o' n e, a.adv.gnew⟩, a.ga, a.pa⟩
theorem st_app (h : XOk Γ S CX k c X E) {i : Nat} {n : Str} {p1 p2 p3 : Pos} (h1 : at? S.N i n = true) (h2 : visB c.sc n = true) (hp : (p2.endLine == p3.line) = true) (hs : noStar x = true) (ha : PE X x (tE Γ E C a)) :
    PS X (.Expr (.Call (.Attribute (.Name n p1) "append" p2) [x] [] p3) p) (tS1 Γ E C (.app i a)) := by
  refine PS.imp (ps_expr (pe_bm PySem.F.plainAttrs_list PySem.F.slot_list_append PySem.F.type_list_append mt_append (pe_slot h h1 h2) (pa_cons ha pa_nil (star_of hs)) rfl (by rw [star_of hs]; rfl) hp (star_of hs) rfl) (swap_plain rfl)) fun D σ H q => ?_
  obtain ⟨A, G, ρ, M, env, at_, rel, q2⟩ := q
  simp only [evS] at q2
  cases es : env[i]? with
  | none => rw [es] at q2; exact q2.elim
  | some s =>
    rw [es] at q2
    cases s with
    | own ds =>
      have q3 := PostS.of (R := RepS Γ) at_ rel q2
      obtain ⟨ad, vs, e1, g, nn, h0, l, r⟩ := rel.sl i _ es
      refine ⟨.ref ad, e1, .inl ⟨rfl, vs, .of l⟩, A.H0, G, ρ, M, env, rel, Post.mono q3 ?_⟩
      rintro v1 H1 ⟨G1, ρ1, M1, dd, at1, rel1, r1, q4⟩
      obtain ⟨ad', vs', e1', g', nn', h0', l', r'⟩ := rel1.sl i _ es
      rw [e1] at e1'
      cases e1'
      split at q4
      · rename_i hlt
        refine ⟨ad, vs', v1, rfl, rfl, l', ?_, ?_⟩
        · rw [r'.len, sizeLine_eq]; unfold line at hlt; omega
        · exact q4 G1 ρ1 σ _ (at1.write h0') (rel1.writeOwn es e1 (r'.append (.cons r1 .nil)))
      · exact q4.elim
    | _ => exact q2.elim

/-! ### x op= e -/
theorem ip_bin {G : Hp} {ρ : List Addr} {M : Sto} (o : Bop) : PIp X (opB o) (fun x y H Q => ∃ G ρ M a b, Core Γ G ρ M H ∧ Rep Γ G ρ x a ∧ Rep Γ G ρ y b ∧ (∃ i j, a = .int i ∧ b = .int j) ∧ AugOk o = true ∧ Post XE (RepS Γ) Γ G ρ H (binD o a b M) Q) := by
  intro pins s σ' H x y v u Q I rx ry h
  obtain ⟨G, ρ, M, a, b, rel, ra, rb, ⟨i, j, rfl, rfl⟩, ho, p⟩ := h
  cases ra
  cases rb
  cases o with
  | add => exact iop_add pins s σ' H _ _ v u Q I rx ry ⟨i, j, rfl, rfl, Post.now rel p (.int _)⟩
  | sub => exact iop_sub pins s σ' H _ _ v u Q I rx ry ⟨i, j, rfl, rfl, Post.now rel p (.int _)⟩
  | _ => cases ho
theorem st_aug (TB : Tab Γ S C CX k) (h : XOk Γ S CX k c X E) {i : Nat} {n : Str} {o : Bop} {p' : Pos} (h1 : at? S.N i n = true) (h2 : stB c.o n = true) (ha : PE X x (tE Γ E C a)) : PS X (.AugAssign (.Name n p') (opB o) x p) (tS1 Γ E C (.aug i o a)) := by
  obtain ⟨e1, e2⟩ := at_ok h1
  obtain ⟨l1, l2⟩ := h.sto n h2
  refine PS.imp (ps_aug (i := i) (by rw [h.N]; exact TB.nd) (by rw [h.N]; exact e1) l1 ha (ip_bin (Γ := Γ) (XE := XPf Γ E) (G := fun _ => none) (ρ := []) (M := []) o) l2) fun D σ H q => ?_
  obtain ⟨A, G, ρ, M, env, at_, rel, q2⟩ := q
  simp only [evS] at q2
  cases es : env[i]? with
  | none => rw [es] at q2; exact q2.elim
  | some s =>
    rw [es] at q2
    cases s with
    | val d0 =>
      obtain ⟨v0, f1, f2⟩ := rel.sl i _ es
      refine ⟨v0, f1, A.H0, G, ρ, M, env, rel, Post.mono (PostS.of (R := RepS Γ) at_ rel q2) ?_⟩
      rintro v1 H1 ⟨G1, ρ1, M1, dd, at1, rel1, r1, q4⟩
      obtain ⟨v0', f1', f2'⟩ := rel1.sl i _ es
      rw [f1] at f1'
      cases f1'
      cases d0 with
      | int i0 =>
        cases dd with
        | int j0 =>
          by_cases ho : AugOk o = true
          · simp only [if_pos ho] at q4
            refine ⟨G1, ρ1, M1, _, _, rel1.toCore, f2', r1, ⟨i0, j0, rfl, rfl⟩, ho, Post.mono (PostS.of (R := RepS Γ) at1 rel1 q4) ?_⟩
            rintro v2 H2 ⟨G2, ρ2, M2, d2, at2, rel2, r2, q5⟩
            exact q5 G2 ρ2 _ H2 at2 (rel2.setVal r2)
          · simp only [if_neg ho] at q4; exact q4.elim
        | _ => exact q4.elim
      | _ => exact q4.elim
    | _ => exact q2.elim
end
end Mp
end

section
set_option Elab.async false
set_option linter.all false
set_option maxRecDepth 100000
/-! Statements: pairs, stores into dicts, loops. -/
namespace Mp
open PySem PySem.Spec L2
section
variable {Γ : Cfg} {S : Sta} {C : Cal} {CX : CXT} {k : Nat} {c : SC} {X : Cx} {E : XK} {x y z tg : Expr} {p : Pos} {a b d : Mp.E}
  {A : Anc} {G G' : Hp} {ρ ρ' : List Addr} {M M' : Sto} {σ σ' : L2.St} {env env' : Env} {H H' : Hp} {D : Ends} {XE : XW}

/-! ### a, b = x, y -/
theorem swap_two {n1 n2 : Str} {p1 p2 pt pt2 : Pos} {kt k2 : Nat} {env : PySem.Env} (hk : env.scope.kind = .function) (h1 : env.scope.names.lookup n1 = some .local) (h2 : env.scope.names.lookup n2 = some .local) (hp : p1.line = p2.line) (hn : n1 ≠ n2)
    (hs : noStar x = true) (hs2 : noStar y = true) (hf : (foldedForSure 8 x && foldedForSure 8 y) = false) (hc : (constantsAlone 8 x && constantsAlone 8 y) = false) :
    swappedStores [.Tuple [.Name n1 p1, .Name n2 p2] kt pt] (.Tuple [x, y] k2 pt2) env = pure (some [n1, n2]) := by
  have ka : env.kindOf n1 = some .local := h1
  have kb : env.kindOf n2 = some .local := h2
  have kk : env.blockKind = .function := by unfold Env.blockKind; rw [hk]; rfl
  have st : ([x, y].any fun | .Starred .. => true | _ => false) = false := by
    have e1 : ∀ {w : Expr}, noStar w = true → (match w with | .Starred .. => true | _ => false) = false := by intro w h; cases w <;> first | rfl | cases h
    simp only [List.any_cons, List.any_nil, Bool.or_false]
    rw [Bool.or_eq_false_iff]
    exact ⟨e1 hs, e1 hs2⟩
  unfold swappedStores
  have hl : (p1.line == ((some (Expr.Name n1 p1)).map (·.pos.line)).getD 0) = true := by simp [Expr.pos]
  simp [kk, st, ka, kb, Expr.pos, hp, hn, hf, hc]
  have e2 : [n1, n2].eraseDups.length = 2 := by
    have hb : (n2 == n1) = false := beq_eq_false_iff_ne.mpr fun e => hn e.symm
    simp [List.eraseDups_cons, hb]
  rw [if_neg (by
    rintro (h | h)
    · cases x <;> first | exact Bool.noConfusion hs | exact Bool.noConfusion h
    · cases y <;> first | exact Bool.noConfusion hs2 | exact Bool.noConfusion h), if_pos e2]
theorem st_par (TB : Tab Γ S C CX k) (h : XOk Γ S CX k c X E) {i j : Nat} {n1 n2 : Str} {p1 p2 pt pt2 : Pos} {kt k2 : Nat} (g1 : at? S.N i n1 = true) (g2 : at? S.N j n2 = true) (hij : i ≠ j) (hk : c.sc.kind = .function) (h1 : c.sc.names.lookup n1 = some .local)
    (h2 : c.sc.names.lookup n2 = some .local) (hp : p1.line = p2.line) (hn : n1 ≠ n2) (hs : noStar x = true) (hs2 : noStar y = true) (hf : (foldedForSure 8 x && foldedForSure 8 y) = false) (hc : (constantsAlone 8 x && constantsAlone 8 y) = false)
    (ha : PE X x (tE Γ E C a)) (hb : PE X y (tE Γ E C b)) : PS X (.Assign [.Tuple [.Name n1 p1, .Name n2 p2] kt pt] (.Tuple [x, y] k2 pt2) p) (tS1 Γ E C (.par i j a b)) := by
  obtain ⟨e1, _⟩ := at_ok g1
  obtain ⟨e2, _⟩ := at_ok g2
  refine PS.imp (ps_par (i := i) (j := j) h.calm (by rw [h.N]; exact TB.nd) (by rw [h.N]; exact e1) (by rw [h.N]; exact e2) hij (by rw [h.sc]; exact h1) (by rw [h.sc]; exact h2) (pa_cons ha (pa_cons hb pa_nil (star_of hs2)) (star_of hs))
    (swap_two (by rw [h.sc]; exact hk) (by rw [h.sc]; exact h1) (by rw [h.sc]; exact h2) hp hn hs hs2 hf hc) (by unfold swapsWithSole; exact swap_plain rfl)) fun D σ H q => ?_
  obtain ⟨A, G, ρ, M, env, at_, rel, q2⟩ := q
  simp only [evS] at q2
  refine ⟨A.H0, G, ρ, M, env, rel, Post.mono (PostS.of (R := RepS Γ) at_ rel q2) ?_⟩
  rintro v1 H1 ⟨G1, ρ1, M1, d1, at1, rel1, r1, q3⟩
  refine ⟨A.H0, G1, ρ1, M1, env, rel1, ?_⟩
  show Post _ _ _ _ _ _ (evE C b env M1) _
  cases e : evE C b env M1 with
  | exc y M' => rw [e] at q3; exact fun G' ρ' H' st c2 => q3 G' ρ' H' (at1.step rel1.toCore st) c2
  | stk => rw [e] at q3; exact q3
  | ok dd M' =>
    rw [e] at q3
    intro G' ρ' H' v2 st c2 hr
    have rel2 := rel1.adv st c2
    refine ⟨v1, v2, rfl, ?_⟩
    exact q3 G' ρ' _ H' (at1.step rel1.toCore st) ((rel2.setVal (i := i) (Rep.mono st.gg st.pp r1)).setVal (i := j) hr)

/-! ### d[k] = e -/
theorem Rel.setOb {H0 : Hp} (r : Rel Γ H0 G ρ M σ env H) {n : Nat} {kvs : List (Str × Mp.D)} {q : Addr} {us us' : List (Key × V)} {kvs' : List (Str × Mp.D)} (eq : ρ[n]? = some q) (hn : n < M.length) (e1 : us'.map (·.1) = kvs'.map (fun p => (Sum.inr p.1 : Key)))
    (e2 : Reps Γ G ρ (us'.map (·.2)) (kvs'.map (·.2))) : Rel Γ H0 G ρ (M.set n (.dct kvs')) σ env (upd H q (.dK us')) := by
  have hq : q ∈ ρ := List.mem_of_getElem? eq
  refine ⟨⟨fun b o eb => ?_, r.off, r.nd, by simpa using r.len, fun j o ad f1 f2 => ?_⟩, r.slen, fun j s es => ?_, r.dis⟩
  · have : b ≠ q := fun z => by rw [z, r.off q hq] at eb; cases eb
    rw [upd_ne this]; exact r.gh b o eb
  · by_cases hj : n = j
    · subst hj
      rw [List.getElem?_set_self hn] at f1
      cases f1
      rw [eq] at f2
      cases f2
      exact ⟨us', upd_same, e1, e2⟩
    · rw [List.getElem?_set_ne hj] at f1
      have : ad ≠ q := fun z => by
        subst z
        exact hj ((List.getElem?_inj (List.getElem?_eq_some_iff.mp eq).1 r.nd).mp (eq.trans f2.symm))
      exact ObRel.mono (Same.refl _) (Pre.refl _) (upd_ne this) (r.st j o ad f1 f2)
  · have rj := r.sl j s es
    cases s with
    | non => trivial
    | val d => exact rj
    | own ds =>
      obtain ⟨ad, vs1, g1, g2, g3, g4, g5, g6⟩ := rj
      have : ad ≠ q := fun z => g3 (z ▸ hq)
      exact ⟨ad, vs1, g1, g2, g3, g4, by rw [upd_ne this]; exact g5, g6⟩
theorem At.store (a : At A G ρ H) (c : Core Γ G ρ M H) {q : Addr} {o : HO} (hq : q ∈ ρ) : At A G ρ (upd H q o) := by
  refine ⟨⟨a.adv.gg, a.adv.pp, a.adv.new, fun b o' n e => ?_, a.adv.gnew⟩, a.ga, a.pa⟩
  have : b ≠ q := fun z => by
    subst z
    rw [a.adv.new b hq n] at e; cases e
  rw [upd_ne this]; exact a.adv.keep b o' n e
theorem st_setd (h : XOk Γ S CX k c X E) {p' : Pos} (hn : noComp z = true) (hs : noSlc y = true) (hz : PE X z (tE Γ E C d)) (hx : PE X x (tE Γ E C a)) (hy : PE X y (tE Γ E C b)) :
    PS X (.Assign [.Subscript x y p'] z p) (tS1 Γ E C (.setd a b d)) := by
  refine PS.imp (ps_dput (hu_of h.room) hx hy hz (swap_plain hn)) fun D σ H q => ?_
  obtain ⟨A, G, ρ, M, env, at_, rel, q2⟩ := q
  simp only [evS] at q2
  refine ⟨A.H0, G, ρ, M, env, rel, ?_⟩
  show Post _ _ _ _ _ _ (evE C d env M) _
  cases e : evE C d env M with
  | exc y M' => rw [e] at q2; exact fun G' ρ' H' st c2 => q2 G' ρ' H' (at_.step rel.toCore st) c2
  | stk => rw [e] at q2; exact q2
  | ok dv M1 =>
    rw [e, SRes.of_ok] at q2
    intro G1 ρ1 H1 v st c1 rv
    have rel1 := rel.adv st c1
    have at1 := at_.step rel.toCore st
    refine ⟨A.H0, G1, ρ1, M1, env, rel1, ?_⟩
    show Post _ _ _ _ _ _ (evE C a env M1) _
    cases e2 : evE C a env M1 with
    | exc y M' => rw [e2] at q2; exact fun G' ρ' H' st c2 => q2 G' ρ' H' (at1.step rel1.toCore st) c2
    | stk => rw [e2] at q2; exact q2
    | ok da M2 =>
      rw [e2, SRes.of_ok] at q2
      intro G2 ρ2 H2 va st2 c2 ra
      have rel2 := rel1.adv st2 c2
      have at2 := at1.step rel1.toCore st2
      refine ⟨A.H0, G2, ρ2, M2, env, rel2, ?_⟩
      show Post _ _ _ _ _ _ (evE C b env M2) _
      cases e3 : evE C b env M2 with
      | exc y M' => rw [e3] at q2; exact fun G' ρ' H' st c2 => q2 G' ρ' H' (at2.step rel2.toCore st) c2
      | stk => rw [e3] at q2; exact q2
      | ok db M3 =>
        rw [e3, SRes.of_ok] at q2
        intro G3 ρ3 H3 vb st3 c3 rb
        have rel3 := rel2.adv st3 c3
        have at3 := at2.step rel2.toCore st3
        cases ra with
        | @obj n q eq =>
          cases rb with
          | str s =>
            simp only at q2
            have eq3 := st3.pp _ _ eq
            have hn3 : n < M3.length := by rw [← c3.len]; exact (List.getElem?_eq_some_iff.mp eq3).1
            cases em : M3[n]? with
            | none => rw [em] at q2; exact q2.elim
            | some o =>
              cases o with
              | dct kvs =>
                rw [em] at q2
                simp only at q2
                split at q2
                · rename_i hl
                  obtain ⟨us, f1, f2, f3⟩ := rel3.st n _ q em eq3
                  have rv3 : Rep Γ G3 ρ3 v dv := Rep.mono (st2.gg.trans st3.gg) (st2.pp.trans st3.pp) rv
                  obtain ⟨p1, p2⟩ := dput_rep (k := s) rv3 f2 f3
                  have hul : us.length = kvs.length := by simpa using congrArg List.length f2
                  refine ⟨q, _, rfl, DPut.k (k := Sum.inr s) f1 (by rw [hul, sizeLine_eq]; omega), ?_⟩
                  exact q2 G3 ρ3 σ _ (at3.store c3 (List.mem_of_getElem? eq3)) (rel3.setOb (kvs := kvs) (us := us) eq3 hn3 p1 p2)
                · exact q2.elim
          | _ => exact q2.elim
        | _ => exact q2.elim

/-! ### loops -/
def dropBk (D : Ends) (N : L2.St → Hp → Prop) : Ends := { D with nx := N, ct := N, bk := D.nx }
theorem forL_turn {N : L2.St → Hp → Prop} {step : Mp.D → Env → Sto → SRes} {dd : Mp.D} {ds : List Mp.D} {env : Env} {M : Sto} (q : PostS XE Γ A (forL step (dd :: ds) env M) D)
    (hN : ∀ G' ρ' σ' H' env' M', At A G' ρ' H' → Rel Γ A.H0 G' ρ' M' σ' env' H' → PostS XE Γ A (forL step ds env' M') D → N σ' H') : PostS XE Γ A (step dd env M) { D with nx := N, ct := N, bk := D.nx } := by
  simp only [forL] at q
  cases e : step dd env M with
  | next env' M' => rw [e] at q; exact fun G' ρ' σ' H' a r => hN G' ρ' σ' H' env' M' a r q
  | cnt env' M' => rw [e] at q; exact fun G' ρ' σ' H' a r => hN G' ρ' σ' H' env' M' a r q
  | brk env' M' => rw [e] at q; exact q
  | ret d M' => rw [e] at q; exact q
  | exc x M' => rw [e] at q; exact q
  | stk => rw [e] at q; exact q
noncomputable def stepF (C : Cal) (g : Mp.G) (bs : List Mp.S) : Mp.D → Env → Sto → SRes := fun d env M => match bindG g d env with | some env' => evSs C bs env' M | none => .stk
theorem PostS.anc {A A' : Anc} {r : SRes} (mv : ∀ {G' ρ' H'}, At A' G' ρ' H' → At A G' ρ' H') (h0 : A'.H0 = A.H0) (q : PostS XE Γ A r D) : PostS XE Γ A' r D := by
  cases r with
  | next env' M' => exact fun G' ρ' σ' H' a r => q G' ρ' σ' H' (mv a) (h0 ▸ r)
  | cnt env' M' => exact fun G' ρ' σ' H' a r => q G' ρ' σ' H' (mv a) (h0 ▸ r)
  | brk env' M' => exact fun G' ρ' σ' H' a r => q G' ρ' σ' H' (mv a) (h0 ▸ r)
  | ret d M' => exact fun G' ρ' H' v a => q G' ρ' H' v (mv a)
  | exc x M' => exact fun G' ρ' H' a => q G' ρ' H' (mv a)
  | stk => exact q
theorem st_forr (h : XOk Γ S CX k c X E) (hP : PassesOwn (model X.prog X.w) X.A X.env X.xe) {g : Mp.G} {it : Mp.It} {bs : List Mp.S} {iter : Expr} {body : List Stmt} (hset : noSet iter = true) (hi : PI X tg iter (tI Γ E C it)) (hg : PG X tg (tGt Γ g))
    (hb : PSs X body (tSs Γ E C bs)) : PS X (.For tg iter body [] p) (tS1 Γ E C (.forr g it bs)) := by
  refine PS.imp (ps_for hP h.calm hi hg hb (set_plain hset)) fun D σ H q => ?_
  obtain ⟨A, G, ρ, M, env, at_, rel, q2⟩ := q
  simp only [evS] at q2
  refine ⟨A.H0, G, ρ, M, env, rel, ?_⟩
  show Post _ _ _ _ _ _ (evI C it env M) _
  cases e : evI C it env M with
  | exc y M' => rw [e] at q2; exact fun G' ρ' H' st c2 => q2 G' ρ' H' (at_.step rel.toCore st) c2
  | stk => rw [e] at q2; exact q2
  | ok ds M1 =>
    rw [e, SRes.of_ok] at q2
    intro G1 ρ1 H1 J st c1 hJ
    obtain ⟨hlen, itok⟩ := hJ
    have rel1 := rel.adv st c1
    have at1 := at_.step rel.toCore st
    -- the anchor moves to the loop's head
    let A' : Anc := ⟨A.G0, A.ρ0, A.H0, G1, ρ1⟩
    have q3 : PostS (XPf Γ E) Γ A' (forL (stepF C g bs) ds env M1) D := PostS.anc (A := A) (fun a => ⟨a.adv, at1.ga.trans a.ga, at1.pa.trans a.pa⟩) rfl q2
    let B : Nat → L2.St → Hp → Prop := fun i σ H => ∃ G2 ρ2 M2 env2, At A' G2 ρ2 H ∧ Rel Γ A.H0 G2 ρ2 M2 σ env2 H ∧ PostS (XPf Γ E) Γ A' (forL (stepF C g bs) (ds.drop i) env2 M2) D
    refine ⟨fun i m σ H => m = ds.length - i ∧ i ≤ ds.length ∧ B i σ H, ⟨ds.length, by simp, Nat.zero_le _, G1, ρ1, M1, env, ⟨at1.adv, Same.refl _, Pre.refl _⟩, rel1, q3⟩, ?_⟩
    rintro i m σ2 H2 ⟨rfl, hi2, G2, ρ2, M2, env2, at2, rel2, q4⟩
    by_cases hlt : i < ds.length
    · obtain ⟨go, yld⟩ := (itok G2 ρ2 M2 H2 i at2.ga at2.pa rel2.toCore).1 ds[i] (List.getElem?_eq_getElem hlt)
      refine .inr ⟨go, B (i + 1), fun σ' H' hb => ⟨ds.length - (i + 1), by omega, rfl, hlt, hb⟩, fun xv H3 hy => ?_⟩
      obtain ⟨G3, st3, c3, r3⟩ := yld xv H3 hy
      rw [List.drop_eq_getElem_cons hlt] at q4
      have q5 := forL_turn (N := B (i + 1)) q4 fun G' ρ' σ' H' env' M' a r q => ⟨G', ρ', M', env', a, r, q⟩
      simp only [stepF] at q5
      cases eb : bindG g ds[i] env2 with
      | none => rw [eb] at q5; exact q5.elim
      | some env3 =>
        rw [eb] at q5
        refine ⟨A.H0, G3, ρ2, M2, env2, ds[i], env3, rel2.adv st3 c3, r3, eb, fun σ' _ rel' => ?_⟩
        exact ⟨A', G3, ρ2, M2, env3, at2.step rel2.toCore st3, rel', q5⟩
    · have ei : i = ds.length := by omega
      refine .inl ⟨(itok G2 ρ2 M2 H2 i at2.ga at2.pa rel2.toCore).2 (by omega), ?_⟩
      rw [ei, List.drop_length] at q4
      simp only [forL] at q4
      exact q4 G2 ρ2 σ2 H2 at2 rel2
theorem st_whil (h : XOk Γ S CX k c X E) (hP : PassesOwn (model X.prog X.w) X.A X.env X.xe) {t : T} {bs : List Mp.S} {body : List Stmt} (ht : PT X z (tT Γ E C t)) (hb : PSs X body (tSs Γ E C bs)) : PS X (.While z body [] p) (tS1 Γ E C (.whil t bs)) := by
  refine PS.imp (ps_while hP ht hb) fun D σ H q => ?_
  obtain ⟨A, G, ρ, M, env, at_, rel, q2⟩ := q
  simp only [evS] at q2
  unfold whileD at q2
  split at q2
  · rename_i hex
    obtain ⟨n, hn⟩ := hex.choose_spec
    generalize hex.choose = r at q2 hn
    refine ⟨fun m σ H => ∃ G ρ M env, At A G ρ H ∧ Rel Γ A.H0 G ρ M σ env H ∧ whileN (fun env M => evT C t env M) (fun env M => evSs C bs env M) m env M = some r, ⟨n, G, ρ, M, env, at_, rel, hn⟩, ?_⟩
    rintro m σ2 H2 ⟨G2, ρ2, M2, env2, at2, rel2, hm⟩
    cases m with
    | zero => simp [whileN] at hm
    | succ m =>
      simp only [whileN] at hm
      refine ⟨A.H0, G2, ρ2, M2, env2, rel2, ?_⟩
      show Post _ _ _ _ _ _ (evT C t env2 M2) _
      cases e : evT C t env2 M2 with
      | exc x M' =>
        rw [e] at hm
        cases hm
        exact fun G' ρ' H' st c2 => q2 G' ρ' H' (at2.step rel2.toCore st) c2
      | stk => rw [e] at hm; cases hm; exact q2
      | ok b M3 =>
        rw [e] at hm
        rintro G3 ρ3 H3 b' st c3 rfl
        have rel3 := rel2.adv st c3
        have at3 := at2.step rel2.toCore st
        cases b' with
        | false =>
          cases hm
          exact q2 G3 ρ3 σ2 H3 at3 rel3
        | true =>
          refine ⟨_, fun σ' H' hw => ⟨m, Nat.lt_succ_self m, hw⟩, A, G3, ρ3, M3, env2, at3, rel3, ?_⟩
          simp only at hm
          show PostS _ _ _ (evSs C bs env2 M3) _
          cases e2 : evSs C bs env2 M3 with
          | next env' M' => rw [e2] at hm; exact fun G' ρ' σ' H' a r' => ⟨G', ρ', M', env', a, r', hm⟩
          | cnt env' M' => rw [e2] at hm; exact fun G' ρ' σ' H' a r' => ⟨G', ρ', M', env', a, r', hm⟩
          | brk env' M' => rw [e2] at hm; cases hm; exact q2
          | ret d M' => rw [e2] at hm; cases hm; exact q2
          | exc x M' => rw [e2] at hm; cases hm; exact q2
          | stk => rw [e2] at hm; cases hm; exact q2
  · exact q2.elim
/-- a list of the frame's own from now on stands for good -/
theorem st_frz {st : Stmt} {i : Nat} {s : Mp.S} (hs : PS X st (tS1 Γ E C s)) : PS X st (tS1 Γ E C (.frz i s)) := by
  refine PS.imp hs fun D σ H q => ?_
  obtain ⟨A, G, ρ, M, env, at_, rel, q2⟩ := q
  simp only [evS] at q2
  cases es : env[i]? with
  | none => rw [es] at q2; exact q2.elim
  | some sl =>
    rw [es] at q2
    cases sl with
    | own ds =>
      obtain ⟨ad, vs, e1, g, nn, h0, l, r⟩ := rel.sl i _ es
      have hi : i < env.length := (List.getElem?_eq_some_iff.mp es).1
      have sg := sub_upd (o := HO.lst vs) g
      refine ⟨A, upd G ad (.lst vs), ρ, M, env.set i (.val (.lst ds)), ⟨⟨at_.adv.gg.trans sg, at_.adv.pp, at_.adv.new, at_.adv.keep, fun b e n => ?_⟩, at_.ga.trans sg, at_.pa⟩, ?_, q2⟩
      · have : b ≠ ad := fun z => n (z ▸ h0)
        rw [upd_ne this]; exact at_.adv.gnew b e n
      · refine ⟨⟨fun b o eb => ?_, fun q hq => ?_, rel.nd, rel.len, fun j o q f1 f2 => ObRel.mono sg (Pre.refl _) rfl (rel.st j o q f1 f2)⟩, by simpa using rel.slen, fun j s ej => ?_, fun j l' q ds1 ds2 f1 f2 f3 f4 => ?_⟩
        · by_cases hb : b = ad
          · subst hb; rw [upd_same] at eb; cases eb; exact l
          · rw [upd_ne hb] at eb; exact rel.gh b o eb
        · have : q ≠ ad := fun z => nn (z ▸ hq)
          rw [upd_ne this]; exact rel.off q hq
        · by_cases hj : i = j
          · subst hj
            rw [List.getElem?_set_self hi] at ej
            cases ej
            exact ⟨_, e1, .lst (.of upd_same) (Reps.mono sg (Pre.refl _) r)⟩
          · rw [List.getElem?_set_ne hj] at ej
            have rj := rel.sl j s ej
            cases s with
            | non => trivial
            | val d =>
              obtain ⟨v, f1, f2⟩ := rj
              exact ⟨v, f1, Rep.mono sg (Pre.refl _) f2⟩
            | own es' =>
              obtain ⟨a2, vs1, f1, f2, f3, f4, f5, f6⟩ := rj
              have : a2 ≠ ad := fun z => hj (rel.dis i j ad ds es' es ej e1 (z ▸ f1))
              exact ⟨a2, vs1, f1, by rw [upd_ne this]; exact f2, f3, f4, f5, Reps.mono sg (Pre.refl _) f6⟩
        · have h1 : i ≠ j := fun z => by subst z; rw [List.getElem?_set_self hi] at f1; cases f1
          have h2 : i ≠ l' := fun z => by subst z; rw [List.getElem?_set_self hi] at f2; cases f2
          rw [List.getElem?_set_ne h1] at f1
          rw [List.getElem?_set_ne h2] at f2
          exact rel.dis j l' q ds1 ds2 f1 f2 f3 f4
    | _ => exact q2.elim
end
end Mp
end

section
set_option Elab.async false
set_option linter.all false
set_option maxRecDepth 100000
/-! All statements. -/
namespace Mp
open PySem PySem.Spec L2
section
variable {Γ : Cfg} {S : Sta} {C : Cal} {CX : CXT} {k : Nat} {c : SC} {X : Cx} {E : XK}
theorem fold_const {vs : List Expr} {ts : List Expr} {n n2 : Nat} {p p2 : Pos} {env : PySem.Env} (h : vs.all (foldedForSure 8) = true) : swappedStores [.Tuple ts n p] (.Tuple vs n2 p2) env = pure none := by
  unfold swappedStores
  simp only [pure_bind]
  split
  · rfl
  · split
    · rfl
    · split
      · rfl
      · first | rfl | rw [if_pos h]
theorem fold_cell {vs : List Expr} {ts : List Expr} {n n2 : Nat} {p p2 : Pos} {env : PySem.Env} (h : (ts.any fun t => match t with | .Name y _ => !decide (env.scope.names.lookup y = some .local) | _ => true) = true) :
    swappedStores [.Tuple ts n p] (.Tuple vs n2 p2) env = pure none := by
  have key : ∀ (f : Expr → Option Str) (us : List Expr), (∀ t ∈ us, (match t with | .Name y _ => !decide (env.scope.names.lookup y = some .local) | _ => true) = true → f t = none) →
      (us.any fun t => match t with | .Name y _ => !decide (env.scope.names.lookup y = some .local) | _ => true) = true → (us.filterMap f).length < us.length := by
    intro f us
    induction us with
    | nil => intro _ h; simp at h
    | cons t us ih =>
      intro hf h
      have le := List.length_filterMap_le f us
      rw [List.any_cons, Bool.or_eq_true] at h
      rcases h with h | h
      · rw [List.filterMap_cons_none (hf t (by simp) h)]
        simp only [List.length_cons]; omega
      · have := ih (fun t ht => hf t (by simp [ht])) h
        rw [List.filterMap_cons]
        split
        · simp only [List.length_cons]; omega
        · simp only [List.length_cons]; omega
  unfold swappedStores
  simp only [pure_bind]
  split
  · rfl
  · split
    · rfl
    · rw [if_pos]
      simp only [Bool.or_eq_true, bne_iff_ne]
      refine .inl (Nat.ne_of_lt (key _ ts (fun t _ hb => ?_) h))
      cases t <;> first | rfl | skip
      rename_i id pos _
      have hk : (env.kindOf id == some .local) = false := by
        rw [beq_eq_false_iff_ne]
        have : env.kindOf id = env.scope.names.lookup id := rfl
        rw [this]
        simpa using hb
      simp [hk]
theorem no_tuple {x : Expr} {ts : List Expr} {n : Nat} {p : Pos} {env : PySem.Env} (h : ∀ vs n2 p2, x ≠ .Tuple vs n2 p2) : swappedStores [.Tuple ts n p] x env = pure none := by
  unfold swappedStores
  cases x <;> first | rfl | exact absurd rfl (h _ _ _)
mutual
theorem sndS (TB : Tab Γ S C CX k) (h : XOk Γ S CX k c X E) (hP : PassesOwn (model X.prog X.w) X.A X.env X.xe) : ∀ (s : Mp.S) (st : Stmt), chkS S c s st = true → PS X st (tS1 Γ E C s)
  | .asg g a, st, hc => by
    cases st with
    | Assign tgs v q =>
      match tgs, g, hc with
      | [.Name n p'], .nm i, hc =>
        simp only [chkS, Bool.and_eq_true] at hc
        exact st_asg TB h hc.1.1.1 hc.1.1.2 hc.1.2 (sndE TB a h v hc.2)
      | [.Tuple ts n p'], .tp gs, hc =>
        simp only [chkS, Bool.and_eq_true] at hc
        obtain ⟨⟨⟨h1, h2⟩, h3⟩, h4⟩ := hc
        refine st_asgT TB h (sndG h TB.nd (.tp gs) _ (by simp only [chkG]; exact h2)) h1 ?_ (sndE TB a h v h3)
        cases v with
        | Tuple vs n2 p2 =>
          simp only [Bool.and_eq_true, Bool.or_eq_true] at h4
          rcases h4.2 with h5 | h5
          · exact fold_cell (by rw [h.sc]; exact h5)
          · exact fold_const h5
        | _ => exact no_tuple (fun _ _ _ z => by cases z)
      | [], g', hc => cases g' <;> simp [chkS] at hc
      | _ :: _ :: _, g', hc => cases g' <;> simp [chkS] at hc
      | [t], .nm i, hc => cases t <;> first | (simp [chkS] at hc; done) | (simp only [chkS, Bool.and_eq_true] at hc; exact st_asg TB h hc.1.1.1 hc.1.1.2 hc.1.2 (sndE TB a h v hc.2))
      | [t], .tp gs, hc => cases t <;> first | (simp [chkS] at hc; done) | skip
                           rename_i ts n p'
                           simp only [chkS, Bool.and_eq_true] at hc
                           obtain ⟨⟨⟨h1, h2⟩, h3⟩, h4⟩ := hc
                           refine st_asgT TB h (sndG h TB.nd (.tp gs) _ (by simp only [chkG]; exact h2)) h1 ?_ (sndE TB a h v h3)
                           cases v with
                           | Tuple vs n2 p2 =>
                             simp only [Bool.and_eq_true, Bool.or_eq_true] at h4
                             rcases h4.2 with h5 | h5
                             · exact fold_cell (by rw [h.sc]; exact h5)
                             · exact fold_const h5
                           | _ => exact no_tuple (fun _ _ _ z => by cases z)
    | _ => cases g <;> simp [chkS] at hc
  | .par i j a b, st, hc => by
    unfold chkS at hc
    split at hc <;> first | (rename_i hh; cases hh; done) | (cases hc; done) | skip
    rename_i hh
    cases hh
    simp only [Bool.and_eq_true, decide_eq_true_eq, Bool.not_eq_true'] at hc
    obtain ⟨⟨⟨⟨⟨⟨⟨⟨⟨⟨⟨⟨⟨h1, h2⟩, h3⟩, h4⟩, h5⟩, h6⟩, h7⟩, h8⟩, h9⟩, h10⟩, h11⟩, h12⟩, h13⟩, h14⟩ := hc
    exact st_par TB h h1 h2 h3 h7 h5 h6 h8 h4 h9 h10 h11 h12 (sndE TB a h _ h13) (sndE TB b h _ h14)
  | .ownL i es, st, hc => by
    unfold chkS at hc
    split at hc <;> first | (rename_i hh; cases hh; done) | (cases hc; done) | skip
    rename_i hh
    cases hh
    simp only [Bool.and_eq_true, decide_eq_true_eq] at hc
    obtain ⟨⟨⟨h1, h2⟩, h3⟩, h4⟩ := hc
    exact st_ownL TB h h1 h2 (by rw [chkEs_len h4]; exact h3) (sndEs TB es h _ h4)
  | .app i a, st, hc => by
    unfold chkS at hc
    split at hc <;> first | (rename_i hh; cases hh; done) | (cases hc; done) | skip
    rename_i hh
    cases hh
    simp only [Bool.and_eq_true, decide_eq_true_eq] at hc
    obtain ⟨⟨⟨⟨⟨h1, h2⟩, rfl⟩, h3⟩, h4⟩, h5⟩ := hc
    exact st_app h h1 h2 h3 h4 (sndE TB a h _ h5)
  | .aug i o a, st, hc => by
    cases st with
    | AugAssign t o2 v q => cases t with
      | Name n p' =>
        simp only [chkS, Bool.and_eq_true, decide_eq_true_eq] at hc
        obtain ⟨⟨⟨h1, h2⟩, rfl⟩, h4⟩ := hc
        exact st_aug TB h h1 h2 (sndE TB a h v h4)
      | _ => simp [chkS] at hc
    | _ => simp [chkS] at hc
  | .setd a b d, st, hc => by
    unfold chkS at hc
    split at hc <;> first | (rename_i hh; cases hh; done) | (cases hc; done) | skip
    rename_i hh
    cases hh
    simp only [Bool.and_eq_true] at hc
    obtain ⟨⟨⟨⟨h1, h2⟩, h3⟩, h4⟩, h5⟩ := hc
    exact st_setd h h1 h2 (sndE TB d h _ h3) (sndE TB a h _ h4) (sndE TB b h _ h5)
  | .expr a, st, hc => by
    cases st with
    | Expr v q => simp only [chkS, Bool.and_eq_true] at hc; exact st_expr hc.1 (sndE TB a h v hc.2)
    | _ => simp [chkS] at hc
  | .ret a, st, hc => by
    cases st with
    | Return v q => cases v with
      | some v => simp only [chkS] at hc; exact st_ret (sndE TB a h v hc)
      | none => simp [chkS] at hc
    | _ => simp [chkS] at hc
  | .retn, st, hc => by
    cases st with
    | Return v q => cases v with
      | none => exact st_retn
      | some v => simp [chkS] at hc
    | _ => simp [chkS] at hc
  | .ifs t as bs, st, hc => by
    cases st with
    | If z xs ys q => simp only [chkS, Bool.and_eq_true] at hc; exact st_ifs (sndT TB t h z hc.1.1) (sndSs TB h hP as xs hc.1.2) (sndSs TB h hP bs ys hc.2)
    | _ => simp [chkS] at hc
  | .forr g it bs, st, hc => by
    cases st with
    | For tg iter body orelse q => cases orelse with
      | nil =>
        simp only [chkS, Bool.and_eq_true] at hc
        exact st_forr h hP hc.1.1.1 (sndI TB it h iter hc.1.1.2) (sndG h TB.nd g tg hc.1.2) (sndSs TB h hP bs body hc.2)
      | cons _ _ => simp [chkS] at hc
    | _ => simp [chkS] at hc
  | .whil t bs, st, hc => by
    cases st with
    | While z body orelse q => cases orelse with
      | nil =>
        simp only [chkS, Bool.and_eq_true] at hc
        exact st_whil h hP (sndT TB t h z hc.1) (sndSs TB h hP bs body hc.2)
      | cons _ _ => simp [chkS] at hc
    | _ => simp [chkS] at hc
  | .pas, st, hc => by cases st with
    | Pass q => exact st_pas
    | _ => simp [chkS] at hc
  | .brk, st, hc => by cases st with
    | Break q => exact st_brk
    | _ => simp [chkS] at hc
  | .cnt, st, hc => by cases st with
    | Continue q => exact st_cnt
    | _ => simp [chkS] at hc
  | .frz i s, st, hc => by
    simp only [chkS] at hc
    exact st_frz (sndS TB h hP s st hc)
theorem sndSs (TB : Tab Γ S C CX k) (h : XOk Γ S CX k c X E) (hP : PassesOwn (model X.prog X.w) X.A X.env X.xe) : ∀ (s : List Mp.S) (st : List Stmt), chkSs S c s st = true → PSs X st (tSs Γ E C s)
  | [], [], hc => ss_nil
  | [], _ :: _, hc => by simp [chkSs] at hc
  | _ :: _, [], hc => by simp [chkSs] at hc
  | s :: r, x :: xs, hc => by
    simp only [chkSs, Bool.and_eq_true] at hc
    exact ss_cons (sndS TB h hP s x hc.1) (sndSs TB h hP r xs hc.2)
end
end
end Mp
end

section
set_option Elab.async false
set_option linter.all false
set_option maxRecDepth 100000
/-! Defs, and a law's end. -/
namespace Mp
open PySem PySem.Spec L2

/-- what is known of a text but for the def at hand -/
structure Txt where
  gn : List Str
  fn : List Str
  bn : List Str
  ks : List (List (List Str))
def Txt.sta (T : Txt) (N : List Str) : Sta := ⟨N, T.gn, T.fn, T.bn, T.ks⟩
abbrev Arr := Nat → Nat → List D → List D → Option (List D)

/-- a def as it stands behind the top, and its IR -/
structure DefOk (Γ : Cfg) (T : Txt) (arr : Arr) (f : Nat) (x : Str) (F : Fn) : Prop where
  mg : Γ.mg x = some (.ref (Γ.fA f))
  kp : PySem.W.keepIn Γ.K (.ref (Γ.fA f)) = true
  ex : ∃ (N ps : List Str) (params : Arguments) (body : List Stmt) (scope : Scope) (oc : Value) (od : Option Addr) (dV kV doc pm : Value) (an : Option Addr) (cdv ct : Value) (osl : Array (Option Value)),
    Γ.K.lookup (Γ.fA f) = some ⟨oc, od, .func (PySem.W.fnOf x x params body scope dV kV doc pm an cdv ct), osl⟩ ∧ PySem.W.codeIn Γ.K cdv x = true ∧ FnScope N ps scope ∧ ps.length = F.np ∧ N.length = F.nn ∧
    chkSs (T.sta N) ⟨scope, scope⟩ F.body body = true ∧ ∀ sh ks, ((T.ks[f]?).bind fun l => l[sh]?) = some ks → ShFact Γ (PySem.W.fnOf x x params body scope dV kV doc pm an cdv ct) ps ks (arr f sh)

structure AllOk (Γ : Cfg) (T : Txt) (fns : List Fn) (gl : Nat → D) (arr : Arr) : Prop where
  glob : ∀ i x, T.gn[i]? = some x → ∃ u v, Γ.mg x = some u ∧ RelV v u ∧ ∀ G ρ, Rep Γ G ρ v (gl i)
  defs : ∀ f x, T.fn[f]? = some x → ∃ F, fns[f]? = some F ∧ DefOk Γ T arr f x F
  blt : ∀ x ∈ T.bn, Γ.mg x = none

theorem start_rel {Γ : Cfg} {G H : Hp} {ρ : List Addr} {M : Sto} {N : List Str} {vs : List V} {ds : List D} {F : Fn} (c : Core Γ G ρ M H) (r : Reps Γ G ρ vs ds) (hN : N.length = F.nn) (hv : vs.length ≤ N.length) : Rel Γ H G ρ M (L2.start N vs) (env0 F ds) H := by
  have lv := r.len
  have noown : ∀ (i : Nat) (es : List D), (env0 F ds)[i]? ≠ some (.own es) := by
    intro i es e
    unfold env0 at e
    by_cases hi : i < ds.length
    · rw [List.getElem?_append_left (by simpa using hi), List.getElem?_map] at e
      cases h : ds[i]? with
      | none => rw [h] at e; cases e
      | some d => rw [h] at e; cases e
    · rw [List.getElem?_append_right (by simpa using hi), List.getElem?_replicate] at e
      split at e <;> cases e
  refine ⟨c, ?_, fun i s e => ?_, fun i j a es es' e1 => absurd e1 (noown i es)⟩
  · unfold L2.start env0
    simp only [List.length_append, List.length_map, List.length_replicate]
    omega
  · unfold env0 at e
    by_cases hi : i < ds.length
    · rw [List.getElem?_append_left (by simpa using hi), List.getElem?_map] at e
      cases h : ds[i]? with
      | none => rw [h] at e; cases e
      | some d =>
        rw [h] at e
        cases e
        obtain ⟨v, hv1, rv⟩ := r.get h
        refine ⟨v, ?_, rv⟩
        unfold L2.start
        rw [List.getElem?_append_left (by rw [List.length_map, lv]; exact hi), List.getElem?_map, hv1]
        rfl
    · rw [List.getElem?_append_right (by simpa using hi), List.getElem?_replicate] at e
      split at e
      · cases e; trivial
      · cases e

theorem all_defs {Γ : Cfg} {T : Txt} {fns : List Fn} {gl : Nat → D} {arr : Arr} (A : AllOk Γ T fns gl arr) : ∀ (n : Nat) (N : List Str) (f : Nat) (x : Str), T.fn[f]? = some x → FnFact Γ (T.sta N) ⟨callF fns gl arr n, gl, arr⟩ CX0 n f x
  | 0, N, f, x, hf => by
    obtain ⟨F, hF, mg, kp, N', ps, params, body, scope, oc, od, dV, kV, doc, pm, an, cdv, ct, osl, lk, hcd, sc, hps, hN, hchk, hsh⟩ := A.defs f x hf
    refine ⟨mg, kp, _, ps, F.np, ⟨fun vs H Q E h => h.1.trans hps.symm, fun Ar outer s H args us vs Q E hr hg e0 hb hv h => ?_⟩, fun ds M _ => rfl, hsh⟩
    obtain ⟨_, G, ρ, M, ds, _, _, p⟩ := h
    exact p.elim
  | n + 1, N, f, x, hf => by
    obtain ⟨F, hF, mg, kp, N', ps, params, body, scope, oc, od, dV, kV, doc, pm, an, cdv, ct, osl, lk, hcd, sc, hps, hN, hchk, hsh⟩ := A.defs f x hf
    have hcall : ∀ ds M, callF fns gl arr (n + 1) f ds M = if ds.length = F.np then fin (evSs ⟨callF fns gl arr n, gl, arr⟩ F.body (env0 F ds) M) else .stk := by
      intro ds M
      simp only [callF, hF]
    refine ⟨mg, kp, _, ps, F.np, fnG_of lk hcd sc (fun vs H Q E h => h.1.trans hps.symm) (fun Ar outer s H vs Q E hr hg h => ?_), fun ds M hl => (hcall ds M).trans (if_neg hl), hsh⟩
    obtain ⟨hlen, G, ρ, M, ds, c, r, p⟩ := h
    have p : Post (XPf Γ E) (RepS Γ) Γ G ρ H (if ds.length = F.np then fin (evSs ⟨callF fns gl arr n, gl, arr⟩ F.body (env0 F ds) M) else .stk) Q := hcall ds M ▸ p
    split at p
    · rename_i hdl
      have TB : Tab Γ (T.sta N') ⟨callF fns gl arr n, gl, arr⟩ CX0 n := ⟨sc.nd, A.glob, fun f x h => all_defs A n N' f x h, A.blt, fun _ _ _ _ _ h => h⟩
      have X0 : XOk Γ (T.sta N') CX0 n ⟨scope, scope⟩ (cxOf CX0 Γ.P Γ.w Γ.K Γ.mg Γ.base N' x scope (Γ.fA f) cdv Ar outer s H E).nox E :=
        ⟨rfl, rfl, rfl, rfl, rfl, rfl, rfl, rfl, fun y hy => by
          unfold stB at hy
          split at hy
          · exact ⟨.inl (by assumption), .inl rfl⟩
          · exact ⟨.inr (by assumption), .inl rfl⟩
          · exact Bool.noConfusion hy, hr, hg, fun _ _ _ _ _ _ _ h => h.elim⟩
      refine ⟨_, PSs.nox (sndSs TB X0 PassesOwn.never F.body body hchk), ⟨G, ρ, H, G, ρ⟩, G, ρ, M, env0 F ds, ⟨Adv.refl _ _ _, Same.refl _, Pre.refl _⟩, start_rel c r hN ?_, ?_⟩
      · have := congrArg List.length sc.pre
        rw [List.length_take] at this
        rw [r.len]; omega
      · show PostS (XPf Γ E) Γ _ (evSs ⟨callF fns gl arr n, gl, arr⟩ F.body (env0 F ds) M) _
        cases e : evSs ⟨callF fns gl arr n, gl, arr⟩ F.body (env0 F ds) M with
        | next env' M' => rw [e] at p; exact fun G' ρ' σ' H' a rl => p G' ρ' H' .non a.adv rl.toCore .non
        | ret d M' => rw [e] at p; exact fun G' ρ' H' v a cc rv => p G' ρ' H' v a.adv cc rv
        | brk env' M' => rw [e] at p; exact p.elim
        | cnt env' M' => rw [e] at p; exact p.elim
        | exc y M' => rw [e] at p; exact fun G' ρ' H' a cc => p G' ρ' H' a.adv cc
        | stk => rw [e] at p; exact p.elim
    · exact p.elim

/-- a law's call from the top -/
theorem top_call {P : Program} {w : World} {K : PySem.W.Frag} {mg mb : Str → Option Value} {k : Nat} {fa a : Addr} {s₁ : Shared} {vs : List Value} {ns : List Int} (KX : K.In s₁.heap)
    (hns : s₁.heap.Ns mainGlobals mg) (hb : s₁.heap.Ns builtinsNs mb) (hbb : ∀ x : Str, x ≠ "__name__" → mb x = bootBuiltins x) (hlim : s₁.heap.NoLimit) (hg : s₁.gens = #[])
    (ha : s₁.heap.get? a = some { cls := .type "list", data := .seq vs.toArray }) (hi : PyProof.Rows.IntsAre vs ns) (hl : ns.length ≤ sizeLine) (hr : Room k callerA)
    (F : ∀ (base : Heap) (H : Hp), K.In base → base.Ns mainGlobals mg → SqL K H a (ns.map V.int) → ∃ (fd : FuncData) (ps : List Str) (sp : Sp), FnG P w K mg base CX0 k fa fd ps sp ∧ (∀ (s : Shared) (u : Value), K.In s.heap → BindsTo s fd ⟨[u], []⟩ (ps.zip [u])) ∧
      sp [.ref a] H (fun v _ => v = .bl true) E0) :
    codeAny (model P w) callerA (.call (.ref fa) ⟨[.ref a], []⟩) (fun r s' => r = .ok (.ret (.bool true)) ∧ OldK s₁.heap s'.heap ∧ s'.os = s₁.os ∧ PyProof.Rows.AllBare s'.gens) s₁ := by
  have rv : Vals (ns.map V.int) vs := L2.vals_ints hi
  have lenV := hi.length
  -- the script as a thing that is known to the object, where it is none of the module's own
  let FZ : HO := .frz { cls := .type "list", data := .seq vs.toArray } (.lst (ns.map V.int))
  suffices key : ∀ H : Hp, SqL K H a (ns.map V.int) → HOk P w H s₁.heap → (∀ b u, H b = some u → b = a ∧ u = FZ) → ((∃ u, H a = some u) → K.lookup a = none) → codeAny (model P w) callerA (.call (.ref fa) ⟨[.ref a], []⟩)
      (fun r s' => r = .ok (.ret (.bool true)) ∧ OldK s₁.heap s'.heap ∧ s'.os = s₁.os ∧ PyProof.Rows.AllBare s'.gens) s₁ by
    cases hk : K.lookup a with
    | some o =>
      have e := (KX a o hk).symm.trans ha
      cases e
      exact key (fun _ => none) (.inr ⟨_, vs.toArray, _, hk, rfl, rfl, rfl, by rw [List.size_toArray, lenV]; exact hl, rv⟩) (fun _ _ z => nomatch z) (fun _ _ z => nomatch z) fun ⟨_, z⟩ => nomatch z
    | none =>
      have at_a : ∀ {b u}, (if b = a then some FZ else none) = some u → b = a ∧ u = FZ := fun {b u} z => by
        by_cases hb : b = a
        · rw [if_pos hb] at z; cases z; exact ⟨hb, rfl⟩
        · rw [if_neg hb] at z; cases z
      refine key (fun b => if b = a then some FZ else none) (.inl (.inr ⟨_, if_pos rfl⟩)) (fun b u z => ?_) (fun b u z => at_a z) fun _ => hk
      obtain ⟨rfl, rfl⟩ := at_a z
      exact ⟨ha, by rw [List.length_map]; exact hl, vs, _, rv, ha⟩
  intro H hS hok hA hKa
  have free : ∀ {b : Addr} {o : Obj}, s₁.heap.get? b = some o → (∀ n, o.data ≠ .seq vs.toArray n) → H b = none := fun {b o} e d => by
    cases q : H b with
    | none => rfl
    | some u =>
      have e' := (hA b u q).1
      subst e'
      rw [ha] at e; cases e
      exact absurd rfl (d _)
  have nsK : ∀ {b : Addr} {m : Str → Option Value}, s₁.heap.Ns b m → (hidT s₁.heap H).Ns b m := fun {b m} ⟨o, es, ep, e, d, r⟩ => ⟨o, es, ep, hidT_get e (free e fun n z => by rw [d] at z; cases z), d, r⟩
  have kin : K.In (hidT s₁.heap H) := fun b o e => hidT_get (KX b o e) (by
    cases q : H b with
    | none => rfl
    | some u =>
      have e' := (hA b u q).1
      subst e'
      rw [hKa ⟨u, q⟩] at e; cases e)
  have e0 : Env0 P w K mg (hidT s₁.heap H) callerA [] s₁ H :=
    { frames := rfl, mod := ⟨kin, nsK hns, ⟨mb, nsK hb, hbb⟩, let ⟨mc, h1, h2⟩ := hlim; ⟨mc, nsK h1, h2⟩⟩, bs := fun b o e => of_hidT e, bsz := Nat.le_of_eq (hidT_size _ _), funs := trivial, frf := fun b hb => (nomatch hb), hok := hok, bare := .of_eq hg }
  obtain ⟨fd, ps, sp, FG, hbind, hsp⟩ := F _ H kin (nsK hns) hS
  refine codeAny_mono (FG.run callerA [] s₁ H ⟨[.ref a], []⟩ [.ref a] [.ref a] _ _ hr rfl e0 (hbind s₁ (.ref a) KX) (.cons rfl .nil) hsp) ?_
  rintro (e | fl) s' h
  · exact h.elim
  cases fl with
  | ret u =>
    obtain ⟨v, H', os, bare, un, hok', r', q⟩ := h
    cases (show v = .bl true from q)
    cases (show u = Value.bool true from r')
    refine ⟨rfl, OldK.of_keep fun b o e => ?_, os, bare⟩
    cases q : H b with
    | none => exact un.keep b o e q (fun z => nomatch z) (fun z => nomatch z)
    | some u =>
      obtain ⟨rfl, rfl⟩ := hA b u q
      have e2 := (hok' b _ (un.frzs b _ _ q)).1
      rw [ha] at e; cases e
      exact e2
  | _ => exact h.elim
end Mp
end

section
set_option Elab.async false
set_option linter.all false
set_option maxRecDepth 100000
/-! What the top has written, told by one run; from there to the table of defs. -/
namespace Mp
open PySem PySem.Spec L2

/-! ### call shapes -/
def pick {α : Type} (is : List Nat) (l : List α) : List α := is.filterMap fun i => l[i]?
theorem vals_pick {vs : List V} {us : List Value} (r : Vals vs us) : ∀ is : List Nat, Vals (pick is vs) (pick is us)
  | [] => .nil
  | i :: is => by
    have ih := vals_pick r is
    unfold pick at ih ⊢
    rw [List.filterMap_cons, List.filterMap_cons]
    cases e : vs[i]? with
    | none =>
      have e2 : us[i]? = none := by
        rw [List.getElem?_eq_none_iff] at e ⊢
        rw [← r.length]; exact e
      rw [e2]
      exact ih
    | some v =>
      obtain ⟨u, e2, ru⟩ := r.get e
      rw [e2]
      exact .cons ru ih
theorem Reps.get2 {Γ : Cfg} {G : Hp} {ρ : List Addr} : ∀ {v : List V} {d : List D} {i : Nat} {x : V}, Reps Γ G ρ v d → v[i]? = some x → ∃ y, d[i]? = some y ∧ Rep Γ G ρ x y
  | _, _, 0, _, .cons h _, e => by simp at e; subst e; exact ⟨_, rfl, h⟩
  | _, _, i + 1, y, .cons _ t, e => by
    obtain ⟨x, e1, e2⟩ := Reps.get2 (i := i) (x := y) t (by simpa using e)
    exact ⟨x, by simpa using e1, e2⟩
  | _, _, _, _, .nil, e => by simp at e
theorem reps_pick {Γ : Cfg} {G : Hp} {ρ : List Addr} {vs : List V} {us : List D} (r : Reps Γ G ρ vs us) : ∀ is : List Nat, Reps Γ G ρ (pick is vs) (pick is us)
  | [] => .nil
  | i :: is => by
    have ih := reps_pick r is
    unfold pick at ih ⊢
    rw [List.filterMap_cons, List.filterMap_cons]
    cases e : vs[i]? with
    | none =>
      have e2 : us[i]? = none := by
        rw [List.getElem?_eq_none_iff] at e ⊢
        rw [← r.len]; exact e
      rw [e2]
      exact ih
    | some v =>
      obtain ⟨u, e2, ru⟩ := r.get2 e
      rw [e2]
      exact .cons ru ih
theorem pick_range {α : Type} (l : List α) : ∀ n, n = l.length → pick (List.range n) l = l := by
  intro n hn
  subst hn
  unfold pick
  induction l with
  | nil => rfl
  | cons a l ih =>
    rw [List.length_cons, List.range_succ_eq_map, List.filterMap_cons]
    show a :: List.filterMap (fun i => (a :: l)[i]?) (List.map Nat.succ (List.range l.length)) = _
    rw [List.filterMap_map]
    congr 1

/-- a call shape: how many are written by place, the keywords at the call, the ones that lack with their defaults, the parameters' order -/
structure Shp where
  n : Nat
  ks : List Str
  ms : List (Str × D)
  is : List Nat
def Shp.arr (s : Shp) (xs zs : List D) : Option (List D) := if xs.length = s.n ∧ zs.length = s.ks.length then some (pick s.is (xs ++ s.ms.map (·.2) ++ zs)) else none
def shAt (shs : List (List Shp)) (f sh : Nat) : Option Shp := (shs[f]?).bind fun l => l[sh]?
def arrOf (shs : List (List Shp)) : Arr := fun f sh xs zs => match shAt shs f sh with
  | some s => s.arr xs zs
  | none => none
def ksOf (shs : List (List Shp)) : List (List (List Str)) := shs.map fun l => l.map (·.ks)
theorem ksOf_at {shs : List (List Shp)} {f sh : Nat} {ks : List Str} (h : (((ksOf shs)[f]?).bind fun l => l[sh]?) = some ks) : ∃ s, shAt shs f sh = some s ∧ s.ks = ks := by
  unfold ksOf at h
  unfold shAt
  rw [List.getElem?_map] at h
  cases e : shs[f]? with
  | none => rw [e] at h; cases h
  | some l =>
    rw [e] at h
    have h2 : (l.map (·.ks))[sh]? = some ks := h
    rw [List.getElem?_map] at h2
    cases e2 : l[sh]? with
    | none => rw [e2] at h2; cases h2
    | some s => rw [e2] at h2; exact ⟨s, e2, Option.some.inj h2⟩

/-! ### constants of the module -/
mutual
def datB (K : PySem.W.Frag) : D → Value → Bool
  | .non, .none => true
  | .bl b, .bool c => decide (b = c)
  | .int i, .int j _ => decide (i = j)
  | .str s, .str t _ => decide (s = t)
  | .tup ds, .ref a => (match K.lookup a with
    | some ⟨.type c, _, .seq its _, _⟩ => decide (c = "tuple") && (decide (its.size ≤ sizeLine) && datsB K ds its.toList)
    | _ => false)
  | _, _ => false
def datsB (K : PySem.W.Frag) : List D → List Value → Bool
  | [], [] => true
  | d :: ds, u :: us => datB K d u && datsB K ds us
  | _, _ => false
end
mutual
theorem datB_ok {Γ : Cfg} : ∀ (d : D) (u : Value), datB Γ.K d u = true → ∃ v, RelV v u ∧ ∀ G ρ, Rep Γ G ρ v d
  | .non, u, h => by
    cases u with
    | none => exact ⟨.non, rfl, fun _ _ => .non⟩
    | _ => simp [datB] at h
  | .bl b, u, h => by
    cases u with
    | bool c => exact ⟨.bl b, by rw [show b = c by simpa [datB] using h] <;> rfl, fun _ _ => .bl b⟩
    | _ => simp [datB] at h
  | .int i, u, h => by
    cases u with
    | int c t => exact ⟨.int i, ⟨t, by rw [show i = c by simpa [datB] using h]⟩, fun _ _ => .int i⟩
    | _ => simp [datB] at h
  | .str i, u, h => by
    cases u with
    | str c t => exact ⟨.str i, ⟨t, by rw [show i = c by simpa [datB] using h]⟩, fun _ _ => .str i⟩
    | _ => simp [datB] at h
  | .tup ds, u, h => by
    cases u with
    | ref a =>
      simp only [datB] at h
      split at h
      · rename_i c od its n sl q
        obtain ⟨h1, h2⟩ := Bool.and_eq_true_iff.mp h
        obtain ⟨h2, h3⟩ := Bool.and_eq_true_iff.mp h2
        obtain ⟨vs, r, k⟩ := datsB_ok ds _ h3
        exact ⟨.ref a, rfl, fun G ρ => .tup (.inr ⟨_, its, n, q, congrArg Value.type (of_decide_eq_true h1), rfl, of_decide_eq_true h2, r⟩) (k G ρ)⟩
      · cases h
    | _ => simp [datB] at h
  | .lst _, u, h => by simp [datB] at h
  | .obj _, u, h => by simp [datB] at h
  | .fn _, u, h => by simp [datB] at h
theorem datsB_ok {Γ : Cfg} : ∀ (ds : List D) (us : List Value), datsB Γ.K ds us = true → ∃ vs, Vals vs us ∧ ∀ G ρ, Reps Γ G ρ vs ds
  | [], [], _ => ⟨[], .nil, fun _ _ => .nil⟩
  | [], _ :: _, h => by simp [datsB] at h
  | _ :: _, [], h => by simp [datsB] at h
  | d :: ds, u :: us, h => by
    simp only [datsB] at h
    obtain ⟨h1, h2⟩ := Bool.and_eq_true_iff.mp h
    obtain ⟨v, r, k⟩ := datB_ok d u h1
    obtain ⟨vs, rs, ks⟩ := datsB_ok ds us h2
    exact ⟨v :: vs, .cons r rs, fun G ρ => .cons (k G ρ) (ks G ρ)⟩
end

/-! ### what is told of a def by its text alone -/
def BindT (x : Str) (st : Stmt) (ps : List Str) (s : Shp) : Prop := ∀ (kV doc pm : Value) (an : Option Addr) (cdv ct : Value) (D : Addr) (us mv ws : List Value), (s.ms ≠ [] → kV = .ref D) → us.length = s.n → mv.length = s.ms.length → ws.length = s.ks.length →
  KwChain D ((s.ms.map (·.1)).zip mv) (bindArgs (PySem.W.fnOf x x (defArgs st) (defBody st) (defScope st) .none kV doc pm an cdv ct) ⟨us, s.ks.zip ws⟩) (ps.zip (pick s.is (us ++ mv ++ ws)))
structure DefT (T : Txt) (shs : List (List Shp)) (f : Nat) (x : Str) (st : Stmt) (F : Fn) : Prop where
  ex : ∃ N ps, FnScope N ps (defScope st) ∧ ps.length = F.np ∧ N.length = F.nn ∧ chkSs (T.sta N) ⟨defScope st, defScope st⟩ F.body (defBody st) = true ∧
    ∀ sh s, shAt shs f sh = some s → BindT x st ps s ∧ (s.ks = [] → s.is = List.range (s.n + s.ms.length) ∧ s.n + s.ms.length = ps.length)
structure DefR where
  x : Str
  st : Stmt
  F : Fn
def Each (P : Nat → DefR → Prop) : Nat → List DefR → Prop
  | _, [] => True
  | i, a :: l => P i a ∧ Each P (i + 1) l
theorem Each.get {P : Nat → DefR → Prop} : ∀ {l : List DefR} {i j : Nat} {a : DefR}, Each P i l → l[j]? = some a → P (i + j) a
  | [], _, _, _, _, h => by simp at h
  | b :: l, i, 0, a, e, h => by simp at h; subst h; exact e.1
  | b :: l, i, j + 1, a, e, h => by
    have := Each.get (j := j) e.2 (by simpa using h)
    rw [show i + (j + 1) = i + 1 + j by omega]
    exact this

/-! ### the look at the heap behind the top -/
def kwAt (K : PySem.W.Frag) (f : Addr) (k : Str) (d : D) : Bool := match K.lookup f with
  | some ⟨_, _, .func fd, _⟩ => (match fd.kwdefaults with
    | .ref D => (match PySem.W.nsIn K D k with
      | some (some u) => datB K d u
      | _ => false)
    | _ => false)
  | _ => false
def moreB (T : Txt) (cs : List D) (shs : List (List Shp)) (K : PySem.W.Frag) : Bool :=
  (T.bn.all fun x => He.eqO (PySem.W.nsIn K mainGlobals x) (some none)) &&
  ((T.gn.zip cs).all fun p => match PySem.W.nsIn K mainGlobals p.1 with
    | some (some u) => datB K p.2 u
    | _ => false) &&
  (T.fn.all fun x => He.eqO (PySem.W.nsIn K mainGlobals x) (some (some (.ref (He.ga K x))))) &&
  ((T.fn.zip shs).all fun p => p.2.all fun s => s.ms.all fun m => kwAt K (He.ga K p.1) m.1 m.2)
def defD (d : DefR) : He.DefD := ⟨(d.x, none), d.x, d.x, defArgs d.st, defBody d.st, defScope d.st, [], []⟩
def obsM (n : Nat) (ds : List DefR) (more : PySem.W.Frag → Bool) (g : Addr → Option Obj) : He.AlD := ((He.obsD [] (ds.map defD) (He.frG g (He.asD g n))).1 && more (He.frG g (He.asD g n)), (He.obsD [] (ds.map defD) (He.frG g (He.asD g n))).2)
def SaysM (ds : List DefR) (more : PySem.W.Frag → Bool) (K : PySem.W.Frag) : Prop := ((He.obsD [] (ds.map defD) K).1 && more K, (He.obsD [] (ds.map defD) K).2) = He.valD (ds.map defD)
def hookM (n : Nat) (ds : List DefR) (more : PySem.W.Frag → Bool) : PySem.W.Hook where
  α := He.AlD
  obs := fun s => obsM n ds more s.heap.get?
  val := fun _ => He.valD (ds.map defD)
  says := fun _ h => ∃ K : PySem.W.Frag, K.In h ∧ SaysM ds more K
  of := fun _ _ e => ⟨_, He.frG_in, e⟩
  keeps := fun _ _ _ ⟨K, hK, c⟩ k => ⟨K, PySem.W.Frag.In.keeps hK k, c⟩
theorem obsM_eq {n : Nat} {ds : List DefR} {more : PySem.W.Frag → Bool} {g : Addr → Option Obj} {s : Shared} (h : ∀ a, g a = s.heap.get? a) : obsM n ds more g = (hookM n ds more).obs s := by
  have e : g = s.heap.get? := funext h
  rw [e] <;> rfl
theorem SaysM.more {ds : List DefR} {more : PySem.W.Frag → Bool} {K : PySem.W.Frag} (c : SaysM ds more K) : more K = true := by
  have h : ((He.obsD [] (ds.map defD) K).1 && more K) = true := congrArg (fun z : He.AlD => z.1) (show (((He.obsD [] (ds.map defD) K).1 && more K, (He.obsD [] (ds.map defD) K).2) : He.AlD) = He.valD (ds.map defD) from c)
  exact (Bool.and_eq_true_iff.mp h).2
theorem SaysM.d {ds : List DefR} {more : PySem.W.Frag → Bool} {K : PySem.W.Frag} (c : SaysM ds more K) : He.SaysD [] (ds.map defD) K := by
  have h : ((He.obsD [] (ds.map defD) K).1 && more K) = true := congrArg (fun z : He.AlD => z.1) (show (((He.obsD [] (ds.map defD) K).1 && more K, (He.obsD [] (ds.map defD) K).2) : He.AlD) = He.valD (ds.map defD) from c)
  have h1 := (Bool.and_eq_true_iff.mp h).1
  have c' : (((He.obsD [] (ds.map defD) K).1 && more K, (He.obsD [] (ds.map defD) K).2) : He.AlD) = He.valD (ds.map defD) := c
  have h2 := (Prod.ext_iff.mp c').2
  exact Prod.ext h1 h2

theorem kwAt_ok {Γ : Cfg} {f : Addr} {k : Str} {d : D} {oc : Value} {od : Option Addr} {osl : Array (Option Value)} {fd : FuncData} (lk : Γ.K.lookup f = some ⟨oc, od, .func fd, osl⟩) (h : kwAt Γ.K f k d = true) :
    ∃ D u v, fd.kwdefaults = .ref D ∧ PySem.W.nsIn Γ.K D k = some (some u) ∧ RelV v u ∧ ∀ G ρ, Rep Γ G ρ v d := by
  unfold kwAt at h
  rw [lk] at h
  simp only at h
  split at h
  · rename_i D e
    split at h
    · rename_i u e2
      obtain ⟨v, r, k⟩ := datB_ok d u h
      exact ⟨D, u, v, e, e2, r, k⟩
    · cases h
  · cases h

theorem kwd_all {Γ : Cfg} {f : Addr} {oc : Value} {od : Option Addr} {osl : Array (Option Value)} {fd : FuncData} (lk : Γ.K.lookup f = some ⟨oc, od, .func fd, osl⟩) : ∀ (ms : List (Str × D)), (∀ m ∈ ms, kwAt Γ.K f m.1 m.2 = true) →
    ∃ (mv : List Value) (vs : List V), mv.length = ms.length ∧ Vals vs mv ∧ (∀ G ρ, Reps Γ G ρ vs (ms.map (·.2))) ∧ ∀ D, fd.kwdefaults = .ref D → ∀ q ∈ (ms.map (·.1)).zip mv, PySem.W.nsIn Γ.K D q.1 = some (some q.2)
  | [], _ => ⟨[], [], rfl, .nil, fun _ _ => .nil, fun _ _ q hq => by cases hq⟩
  | m :: ms, h => by
    obtain ⟨D, u, v, e1, e2, r, k⟩ := kwAt_ok lk (h m List.mem_cons_self)
    obtain ⟨mv, vs, l, rs, ks, z⟩ := kwd_all lk ms fun q hq => h q (List.mem_cons_of_mem _ hq)
    refine ⟨u :: mv, v :: vs, congrArg Nat.succ l, .cons r rs, fun G ρ => .cons (k G ρ) (ks G ρ), fun D' e q hq => ?_⟩
    rcases List.mem_cons.mp (show q ∈ (m.1, u) :: (ms.map (·.1)).zip mv from hq) with e3 | hq
    · rw [e3]
      rw [e1] at e
      cases e
      exact e2
    · exact z D' e q hq

theorem sh_fact {Γ : Cfg} {f : Addr} {x : Str} {st : Stmt} {ps : List Str} {s : Shp} {oc : Value} {od : Option Addr} {osl : Array (Option Value)} {kV doc pm cdv ct : Value} {an : Option Addr}
    (lk : Γ.K.lookup f = some ⟨oc, od, .func (PySem.W.fnOf x x (defArgs st) (defBody st) (defScope st) .none kV doc pm an cdv ct), osl⟩) (hms : ∀ m ∈ s.ms, kwAt Γ.K f m.1 m.2 = true) (B : BindT x st ps s) (hr : s.ks = [] → s.is = List.range (s.n + s.ms.length) ∧ s.n + s.ms.length = ps.length) :
    ShFact Γ (PySem.W.fnOf x x (defArgs st) (defBody st) (defScope st) .none kV doc pm an cdv ct) ps s.ks s.arr := by
  obtain ⟨mv, mvs, hl, rv, rr, hns⟩ := kwd_all lk s.ms hms
  have hD : ∃ D : Addr, s.ms ≠ [] → kV = .ref D := by
    cases e : s.ms with
    | nil => exact ⟨0, fun z => absurd rfl z⟩
    | cons m r =>
      obtain ⟨D, _, _, e1, _⟩ := kwAt_ok lk (hms m (by rw [e]; exact List.mem_cons_self))
      exact ⟨D, fun _ => e1⟩
  obtain ⟨D, hD⟩ := hD
  have hks : ∀ q ∈ (s.ms.map (·.1)).zip mv, PySem.W.nsIn Γ.K D q.1 = some (some q.2) := by
    intro q hq
    by_cases e : s.ms = []
    · rw [e] at hq; cases hq
    · exact hns D (hD e) q hq
  have to : ∀ (s' : Shared) (us ws : List Value), Γ.K.In s'.heap → us.length = s.n → ws.length = s.ks.length → BindsTo s' (PySem.W.fnOf x x (defArgs st) (defBody st) (defScope st) .none kV doc pm an cdv ct) ⟨us, s.ks.zip ws⟩ (ps.zip (pick s.is (us ++ mv ++ ws))) :=
    fun s' us ws X l1 l2 => BindsTo.of_looks fun M => KwChain.looks X hks (B kV doc pm an cdv ct D us mv ws hD l1 hl l2)
  constructor
  · intro hk
    obtain ⟨hi, hp⟩ := hr hk
    refine ⟨mv, mvs, fun s' us X hlen => ?_, rv, fun G ρ vs xs full r e => ?_⟩
    · rw [List.length_append, hl] at hlen
      have l1 : us.length = s.n := by omega
      have t := to s' us [] X l1 (by rw [hk]; rfl)
      rw [hk] at t
      have e : pick s.is (us ++ mv ++ []) = us ++ mv := by
        rw [hi, List.append_nil]
        exact pick_range _ _ (by rw [List.length_append, l1, hl])
      rw [e] at t
      exact t
    · unfold Shp.arr at e
      split at e
      · rename_i c
        have e2 := Option.some.inj e
        rw [← e2, hi, List.append_nil, pick_range _ _ (by rw [List.length_append, c.1, List.length_map])]
        exact r.append (rr G ρ)
      · cases e
  · intro hk
    refine ⟨s.n, fun us ws => pick s.is (us ++ mv ++ ws), fun vs zs => pick s.is (vs ++ mvs ++ zs), ⟨to, fun r1 r2 => vals_pick ((r1.append rv).append r2) _⟩, fun G ρ vs zs xs ys full r1 r2 e => ?_⟩
    unfold Shp.arr at e
    split at e
    · rename_i c
      have e2 := Option.some.inj e
      rw [← e2]
      exact ⟨reps_pick ((r1.append (rr G ρ)).append r2) _, r1.len.trans c.1, r2.len.trans c.2⟩
    · cases e

/-- the table -/
theorem allOk {P : Program} {w : World} {K : PySem.W.Frag} {mg : Str → Option Value} {h base : Heap} {ds : List DefR} {T : Txt} {cs : List D} {shs : List (List Shp)} (KX : K.In h) (G : h.Ns mainGlobals mg) (c : SaysM ds (moreB T cs shs) K)
    (hT : T.fn = ds.map (·.x)) (hk : T.ks = ksOf shs) (hls : shs.length = ds.length) (hlc : T.gn.length ≤ cs.length) (E : Each (fun f d => DefT T shs f d.x d.st d.F) 0 ds) :
    AllOk ⟨P, w, K, mg, base, fun f => He.ga K (T.fn.getD f Str.empty), fun _ => 0⟩ T (ds.map (·.F)) (fun i => cs.getD i .non) (arrOf shs) := by
  have m := c.more
  unfold moreB at m
  obtain ⟨m, m4⟩ := Bool.and_eq_true_iff.mp m
  obtain ⟨m, m3⟩ := Bool.and_eq_true_iff.mp m
  obtain ⟨m1, m2⟩ := Bool.and_eq_true_iff.mp m
  refine ⟨fun i x hx => ?_, fun f x hx => ?_, fun x hx => ?_⟩
  · have hi : i < T.gn.length := (List.getElem?_eq_some_iff.mp hx).1
    have hc : cs[i]? = some (cs.getD i .non) := by
      rw [List.getD_eq_getElem?_getD, List.getElem?_eq_getElem (by omega)] <;> rfl
    have hm := List.all_eq_true.mp m2 (x, cs.getD i .non) (List.mem_of_getElem? (i := i) (by rw [List.getElem?_zip_eq_some]; exact ⟨hx, hc⟩))
    simp only at hm
    split at hm
    · rename_i u e
      obtain ⟨v, r, k⟩ := datB_ok (Γ := ⟨P, w, K, mg, base, fun f => He.ga K (T.fn.getD f Str.empty), fun _ => 0⟩) _ u hm
      exact ⟨u, v, PySem.W.mg_of KX G e, r, k⟩
    · cases hm
  · have hxm : x ∈ T.fn := List.mem_of_getElem? hx
    have hd := hx
    rw [hT, List.getElem?_map] at hd
    cases e : ds[f]? with
    | none => rw [e] at hd; cases hd
    | some d =>
      rw [e] at hd
      have ex : d.x = x := Option.some.inj hd
      subst ex
      refine ⟨d.F, by rw [List.getElem?_map, e] <;> rfl, ?_⟩
      have gx : T.fn.getD f Str.empty = d.x := by rw [List.getD_eq_getElem?_getD, hx] <;> rfl
      obtain ⟨N, ps, sc, hps, hN, hchk, hsh⟩ := (E.get e).ex
      rw [Nat.zero_add] at hsh
      obtain ⟨fd, FD⟩ := c.d.def_ f (d := defD d) (by rw [List.getElem?_map, e] <;> rfl)
      obtain ⟨oc, od, dV, kV, doc, pm, an, cdv, ct, osl, hfd, lk, hcd, hdV, _⟩ := FD.ex
      have hd0 : dV = .none := by
        rcases hdV with ⟨_, z⟩ | ⟨z, _⟩
        · exact z
        · exact absurd rfl z
      subst hd0
      subst hfd
      refine ⟨?_, ?_, N, ps, defArgs d.st, defBody d.st, defScope d.st, oc, od, .none, kV, doc, pm, an, cdv, ct, osl, ?_, hcd, sc, hps, hN, hchk, fun sh ks hks => ?_⟩
      · show mg d.x = some (.ref (He.ga K (T.fn.getD f Str.empty)))
        rw [gx]
        exact PySem.W.mg_of KX G (He.eqO_ok (List.all_eq_true.mp m3 d.x hxm))
      · show PySem.W.keepIn K (.ref (He.ga K (T.fn.getD f Str.empty))) = true
        rw [gx]
        exact FD.kp
      · show K.lookup (He.ga K (T.fn.getD f Str.empty)) = _
        rw [gx]
        exact lk
      · rw [hk] at hks
        obtain ⟨s, e1, e2⟩ := ksOf_at hks
        subst e2
        have ea : arrOf shs f sh = s.arr := by
          funext xs zs
          unfold arrOf
          rw [e1]
        rw [ea]
        obtain ⟨B, hr⟩ := hsh sh s e1
        have hsf : ∃ l, shs[f]? = some l ∧ s ∈ l := by
          unfold shAt at e1
          cases q : shs[f]? with
          | none => rw [q] at e1; cases e1
          | some l => rw [q] at e1; exact ⟨l, rfl, List.mem_of_getElem? (show l[sh]? = some s from e1)⟩
        obtain ⟨l, q, hl⟩ := hsf
        refine sh_fact (f := He.ga K d.x) lk (fun m hm => ?_) B hr
        have hz := List.all_eq_true.mp m4 (d.x, l) (List.mem_of_getElem? (i := f) (by rw [List.getElem?_zip_eq_some]; exact ⟨hx, q⟩))
        exact List.all_eq_true.mp (List.all_eq_true.mp hz s hl) m hm
  · exact PySem.W.mg_none_of KX G (He.eqO_ok (List.all_eq_true.mp m1 x hx))

/-- the law's end: what its def answers at a script -/
theorem top_law {l : PySem.W.OpenLaw} {n k fl na : Nat} {q : Program} {loose : List Str} {XP : (Str → Option Value) → Heap → Prop} {d : DefRec} {ds : List DefR} {T : Txt} {cs : List D} {shs : List (List Shp)}
    (hn : l.most = some n) (hn2 : n ≤ sizeLine) (hdf : d.params.defaults = []) (hr : Room k callerA)
    (hT : T.fn = ds.map (·.x)) (hk : T.ks = ksOf shs) (hls : shs.length = ds.length) (hlc : T.gn.length ≤ cs.length) (E : Each (fun f d => DefT T shs f d.x d.st d.F) 0 ds) (hfl : T.fn[fl]? = some d.name) (hsl : shAt shs fl 0 = some ⟨1, [], [], [0]⟩)
    (law : ∀ ns : List Int, ns.length ≤ n → ∃ M, callF (ds.map (·.F)) (fun i => cs.getD i .non) (arrOf shs) k fl [.lst (ns.map .int)] [] = .ok (.bl true) M) :
    PySem.W.WalkO q loose XP (hookM na ds (moreB T cs shs)).says l.row.toRowW d [] (fun f vs => PySem.call f vs) := by
  refine Att.attach_call hn hdf fun w s₀ s₁ mg mb fa o pm cd doc a vs ns G Y ho hd hcd hmg hobj hints hlen hg => ?_
  obtain ⟨K, KX, c⟩ := Y
  refine top_call (k := k) KX G.T.g G.T.b G.T.builtins G.T.nolimit hg hobj hints (Nat.le_trans hlen hn2) hr fun base H Kb Gb hS => ?_
  have A := allOk (P := l.row.toRowW.prog) (w := w) (base := base) KX G.T.g c hT hk hls hlc E
  have F := all_defs A k [] fl d.name hfl
  have ef : (Txt.fn T).getD fl Str.empty = d.name := by rw [List.getD_eq_getElem?_getD, hfl] <;> rfl
  have efa : fa = He.ga K (T.fn.getD fl Str.empty) := by
    have e := hmg.symm.trans F.mg
    cases e
    rfl
  obtain ⟨fd, ps, m, FG, hst, hsh⟩ := F.ok
  obtain ⟨M, hlaw⟩ := law ns hlen
  have hm : m = 1 := Classical.byContradiction fun z => by
    have e := hst [.lst (ns.map .int)] [] (fun y => z y.symm)
    have e2 := hlaw.symm.trans e
    cases e2
  subst hm
  have ea : arrOf shs fl 0 = (⟨1, [], [], [0]⟩ : Shp).arr := by
    funext xs zs
    unfold arrOf
    rw [hsl]
  have hkw : (T.sta []).kw fl 0 = some [] := by
    unfold Sta.kw
    show ((T.ks[fl]?).bind fun l => l[0]?) = some []
    rw [hk]
    unfold ksOf
    unfold shAt at hsl
    rw [List.getElem?_map]
    cases q : shs[fl]? with
    | none => rw [q] at hsl; cases hsl
    | some l =>
      rw [q] at hsl
      have h2 : l[0]? = some ⟨1, [], [], [0]⟩ := hsl
      show (l.map (·.ks))[0]? = some []
      rw [List.getElem?_map, h2] <;> rfl
  obtain ⟨es, evs, hb, hv, hre⟩ := (hsh 0 [] hkw).plain rfl
  have hin : ∀ (G : Hp) (ρ : List Addr) (ns : List Int), Reps ⟨l.row.toRowW.prog, w, K, mg, base, fun f => He.ga K (T.fn.getD f Str.empty), fun _ => 0⟩ G ρ (ns.map V.int) (ns.map D.int) := by
    intro G ρ ns
    induction ns with
    | nil => exact .nil
    | cons i r ih => exact .cons (.int i) ih
  have he : evs = [] := by
    have r := (hre (fun _ => none) [] [.int 0] [.int 0] [.int 0] (.cons (.int 0) .nil) ((congrFun (congrFun ea [.int 0]) []).trans rfl)).len
    simpa using r
  subst he
  have hes : es = [] := by
    have := hv.length
    cases es with
    | nil => rfl
    | cons _ _ => simp at this
  subst hes
  subst efa
  have sp : spF ⟨l.row.toRowW.prog, w, K, mg, base, fun f => He.ga K (T.fn.getD f Str.empty), fun _ => 0⟩ (callF (ds.map (·.F)) (fun i => cs.getD i .non) (arrOf shs) k fl) 1 [.ref a] H (fun v _ => v = .bl true) E0 := by
    refine ⟨rfl, H, [], [], [.lst (ns.map .int)], ⟨Same.refl _, fun _ h => (by cases h), List.nodup_nil, rfl, fun i o a h => (by simp at h)⟩, .cons (.lst hS (hin _ _ ns)) .nil, ?_⟩
    rw [hlaw]
    intro G' ρ' H' v _ _ r
    cases r
    rfl
  exact ⟨fd, ps, _, FG, fun s u X => hb s [u] X (FG.len _ _ _ _ sp), sp⟩
end Mp
end

section
set_option Elab.async false
set_option linter.all false
set_option maxRecDepth 100000
/-! Running the evaluator: loops, the feed. -/
namespace Mp
open PySem PySem.Spec

/-! ### while -/
theorem whileN_mono {t : Env → Sto → Res Bool} {b : Env → Sto → SRes} : ∀ {n m : Nat} {env : Env} {M : Sto} {r : SRes}, whileN t b n env M = some r → n ≤ m → whileN t b m env M = some r
  | 0, _, _, _, _, h, _ => by simp [whileN] at h
  | n + 1, 0, _, _, _, _, h => by omega
  | n + 1, m + 1, env, M, r, h, le => by
    unfold whileN at h ⊢
    cases e : t env M with
    | ok x M' =>
      rw [e] at h
      cases x with
      | false => exact h
      | true =>
        have h : (match b env M' with
          | .next env' M'' => whileN t b n env' M''
          | .cnt env' M'' => whileN t b n env' M''
          | .brk env' M'' => some (.next env' M'')
          | r => some r) = some r := h
        show (match b env M' with
          | .next env' M'' => whileN t b m env' M''
          | .cnt env' M'' => whileN t b m env' M''
          | .brk env' M'' => some (.next env' M'')
          | r => some r) = some r
        cases e2 : b env M' with
        | next a c => rw [e2] at h; exact whileN_mono h (by omega)
        | cnt a c => rw [e2] at h; exact whileN_mono h (by omega)
        | _ => rw [e2] at h; exact h
    | exc x M' => rw [e] at h; exact h
    | stk => rw [e] at h; exact h
theorem whileD_eq {t : Env → Sto → Res Bool} {b : Env → Sto → SRes} {n : Nat} {env : Env} {M : Sto} {r : SRes} (h : whileN t b n env M = some r) : whileD t b env M = r := by
  have ex : ∃ r n, whileN t b n env M = some r := ⟨r, n, h⟩
  unfold whileD
  rw [dif_pos ex]
  obtain ⟨m, hm⟩ := ex.choose_spec
  have h1 := whileN_mono h (Nat.le_max_left n m)
  have h2 := whileN_mono hm (Nat.le_max_right n m)
  exact Option.some.inj (h2.symm.trans h1)
/-- a run: n turns by next, then the test fails -/
inductive Turns (t : Env → Sto → Res Bool) (b : Env → Sto → SRes) : Env → Sto → Env → Sto → Prop
  | done {env M M'} : t env M = .ok false M' → Turns t b env M env M'
  | more {env M M1 e2 M2 e3 M3} : t env M = .ok true M1 → b env M1 = .next e2 M2 → Turns t b e2 M2 e3 M3 → Turns t b env M e3 M3
theorem Turns.n {t : Env → Sto → Res Bool} {b : Env → Sto → SRes} {env M e' M'} (h : Turns t b env M e' M') : ∃ n, whileN t b n env M = some (.next e' M') := by
  induction h with
  | done ht => exact ⟨1, by simp only [whileN, ht]⟩
  | more ht hb _ ih =>
    obtain ⟨n, hn⟩ := ih
    exact ⟨n + 1, by simp only [whileN, ht, hb, hn]⟩
theorem whileD_turns {t : Env → Sto → Res Bool} {b : Env → Sto → SRes} {env M e' M'} (h : Turns t b env M e' M') : whileD t b env M = .next e' M' := whileD_eq h.n.choose_spec
theorem whileD_false {t : Env → Sto → Res Bool} {b : Env → Sto → SRes} {env M M'} (h : t env M = .ok false M') : whileD t b env M = .next env M' := whileD_turns (.done h)
theorem whileD_true {t : Env → Sto → Res Bool} {b : Env → Sto → SRes} {env M M1 e2 M2} {r : SRes} (h : t env M = .ok true M1) (hb : b env M1 = .next e2 M2) (hr : ∃ n, whileN t b n e2 M2 = some r) : ∃ n, whileN t b n env M = some r := by
  obtain ⟨n, hn⟩ := hr
  exact ⟨n + 1, by simp only [whileN, h, hb, hn]⟩

/-! ### for -/
theorem forL_keep {step : D → Env → Sto → SRes} (I : Env → Sto → Prop) : ∀ (ds : List D) (env : Env) (M : Sto), I env M → (∀ d ∈ ds, ∀ env M, I env M → ∃ env' M', step d env M = .next env' M' ∧ I env' M') → ∃ env' M', forL step ds env M = .next env' M' ∧ I env' M'
  | [], env, M, h, _ => ⟨env, M, rfl, h⟩
  | d :: ds, env, M, h, k => by
    obtain ⟨e1, M1, h1, i1⟩ := k d List.mem_cons_self env M h
    obtain ⟨e2, M2, h2, i2⟩ := forL_keep I ds e1 M1 i1 fun d' hd => k d' (List.mem_cons_of_mem _ hd)
    exact ⟨e2, M2, by simp only [forL, h1, h2], i2⟩
/-- by the number of turns made -/
theorem forL_idx {step : D → Env → Sto → SRes} (I : Nat → Env → Sto → Prop) : ∀ (ds : List D) (i : Nat) (env : Env) (M : Sto), I i env M → (∀ j d, ds[j]? = some d → ∀ env M, I (i + j) env M → ∃ env' M', step d env M = .next env' M' ∧ I (i + j + 1) env' M') → ∃ env' M', forL step ds env M = .next env' M' ∧ I (i + ds.length) env' M'
  | [], i, env, M, h, _ => ⟨env, M, rfl, h⟩
  | d :: ds, i, env, M, h, k => by
    obtain ⟨e1, M1, h1, i1⟩ := k 0 d rfl env M h
    obtain ⟨e2, M2, h2, i2⟩ := forL_idx I ds (i + 1) e1 M1 i1 fun j d' hd e M h => by
      have := k (j + 1) d' (by simpa using hd) e M (by rw [show i + (j + 1) = i + 1 + j by omega]; exact h)
      rw [show i + (j + 1) = i + 1 + j by omega] at this
      exact this
    exact ⟨e2, M2, by simp only [forL, h1, h2], by rw [List.length_cons, show i + (ds.length + 1) = i + 1 + ds.length by omega]; exact i2⟩
theorem iota_at : ∀ (n j : Nat) (lo : Int) (d : D), (iota lo n)[j]? = some d → j < n ∧ d = .int (lo + j)
  | 0, j, lo, d, h => by simp [iota] at h
  | n + 1, 0, lo, d, h => by simp [iota] at h; exact ⟨by omega, by rw [← h]; simp⟩
  | n + 1, j + 1, lo, d, h => by
    have := iota_at n j (lo + 1) d (by simpa [iota] using h)
    exact ⟨by omega, by rw [this.2]; congr 1; push_cast; omega⟩
theorem iota_mem {n : Nat} {lo : Int} {d : D} (h : d ∈ iota lo n) : ∃ j : Nat, j < n ∧ d = .int (lo + j) := by
  obtain ⟨j, hj⟩ := List.getElem?_of_mem h
  exact ⟨j, iota_at n j lo d hj⟩
/-! ### figures -/
theorem widthOk_of {i j : Int} (hi : i.natAbs < 2 ^ 4000) (hj : j.natAbs < 2 ^ 4000) : widthOk i j = true := by
  unfold widthOk
  rw [decide_eq_true hi, decide_eq_true hj] <;> rfl
theorem small_lt {i : Int} {k : Nat} (h : i.natAbs ≤ k) (hk : k < 2 ^ 4000 := by decide) : i.natAbs < 2 ^ 4000 := Nat.lt_of_le_of_lt h hk
end Mp
end

section
set_option Elab.async false
set_option linter.all false
set_option maxRecDepth 100000
/-! The evaluator by rewriting: one row for each word. -/
namespace Mp
open PySem PySem.Spec
section
variable (c : Cal) (env : Env) (M : Sto)
/-! ### what goes on behind a value -/
def lkK : Option Slot → Sto → Res D
  | some (.val d), M => .ok d M
  | _, _ => .stk
def pkK : Option Slot → Sto → Res D
  | some (.own ds), M => .ok (.lst ds) M
  | _, _ => .stk
def tupK : List D → Sto → Res D := fun ds M => .ok (.tup ds) M
def lstK : List D → Sto → Res D := fun ds M => .ok (.lst ds) M
def con1 (r : Es) : D → Sto → Res (List D) := fun x M => (evEs c r env M).bind fun xs M => .ok (x :: xs) M
def con2 (x : D) : List D → Sto → Res (List D) := fun xs M => .ok (x :: xs) M
def pcon1 (r : Es) : D → Sto → Res (List D) := fun x M => (evPs c r env M).bind fun xs M => .ok (x :: xs) M
def bin1 (o : Bop) (b : E) : D → Sto → Res D := fun x M => (evE c b env M).bind fun y M => binD o x y M
def cmp1 (o : Cop) (b : E) : D → Sto → Res D := fun x M => (peek b env M (evE c b env M)).bind fun y M => cmpD o x y M
def idx1 (b : E) : D → Sto → Res D := fun x M => (evE c b env M).bind fun y M => idxD x y M
def dgt1 (b : E) : D → Sto → Res D := fun x M => (evE c b env M).bind fun y M => dgtD x y M
def slc1 (lo hi : O) : D → Sto → Res D := fun x M => (evO c lo env M).bind fun l M => (evO c hi env M).bind fun h M => slcD x l h M
def slc2 (x : D) (hi : O) : Option Int → Sto → Res D := fun l M => (evO c hi env M).bind fun h M => slcD x l h M
def negK : D → Sto → Res D
  | .int i, M => .ok (.int (-i)) M
  | _, _ => .stk
def notK : Bool → Sto → Res D := fun t M => .ok (.bl (!t)) M
def nonK : D → Sto → Res D := fun x M => (truD x M).bind notK
def and1 (b : E) : D → Sto → Res D := fun x M => (truD x M).bind fun t M => if t = true then evE c b env M else .ok x M
def or1 (b : E) : D → Sto → Res D := fun x M => (truD x M).bind fun t M => if t = true then .ok x M else evE c b env M
def ifeK (a b : E) : Bool → Sto → Res D := fun t M => if t = true then evE c a env M else evE c b env M
def cal1 (f sh : Nat) (ks : Es) : List D → Sto → Res D := fun xs M => (evEs c ks env M).bind fun zs M => (match c.arr f sh xs zs with | some ds => c.cal f ds M | none => .stk)
def cal2 (f sh : Nat) (xs : List D) : List D → Sto → Res D := fun zs M => (match c.arr f sh xs zs with | some ds => c.cal f ds M | none => .stk)
def cal3 (f : Nat) (M : Sto) : Option (List D) → Res D
  | some ds => c.cal f ds M
  | none => .stk
def isiK (t : Ty) : D → Sto → Res D := fun x M => if isiOk x then .ok (.bl (isiD x t)) M else .stk
def intO : D → Sto → Res (Option Int)
  | .int i, M => .ok (some i) M
  | _, _ => .stk
def blK : D → Sto → Res Bool
  | .bl k, M => .ok k M
  | _, _ => .stk
def tcmp1 (o : Cop) (b : E) : D → Sto → Res Bool := fun x M => (peek b env M (evE c b env M)).bind fun y M => (cmpD o x y M).bind blK
def tnotK : Bool → Sto → Res Bool := fun b M => .ok (!b) M
def tandK (b : T) : Bool → Sto → Res Bool := fun x M => if x = true then evT c b env M else .ok false M
def torK (b : T) : Bool → Sto → Res Bool := fun x M => if x = true then .ok true M else evT c b env M
def dspK (ks : List Str) : List D → Sto → Res D := fun ys M => .ok (.obj M.length) (M ++ [.dct (ks.zip ys)])
def compS (g : G) (own : List (Str × Nat)) (t : Ts) (elt : E) : D → Sto → Res (Option D) := fun d M => match bindG g d (wipeE env own) with
  | some env2 => (evTs c t env2 M).bind fun b M => if b = true then (evE c elt env2 M).bind fun y M => .ok (some y) M else .ok none M
  | none => .stk
def compK (g : G) (own : List (Str × Nat)) (t : Ts) (elt : E) : List D → Sto → Res D := fun ds M => (compL (compS c env g own t elt) ds [] M).bind lstK
def seqK : D → Sto → Res (List D)
  | .tup ds, M => .ok ds M
  | .lst ds, M => .ok ds M
  | _, _ => .stk
def rng1K : D → Sto → Res (List D) := fun x M => (match x with | .int n => if rngOk n && decide (n.toNat ≤ line) then .ok (iota 0 n.toNat) M else .stk | _ => .stk)
def rng2K (x : D) : D → Sto → Res (List D) := fun y M => (match x, y with | .int i, .int j => if rngOk i && rngOk j && decide ((j - i).toNat ≤ line) then .ok (iota i (j - i).toNat) M else .stk | _, _ => .stk)
def rng2J (b : E) : D → Sto → Res (List D) := fun x M => (evE c b env M).bind (rng2K x)
end
section
variable {c : Cal} {env : Env} {M : Sto}
theorem lkK_val (d : D) : lkK (some (.val d)) M = .ok d M := id rfl
theorem pkK_own (d : List D) : pkK (some (.own d)) M = .ok (.lst d) M := id rfl
theorem x_cint (i : Int) : evE c (.cint i) env M = .ok (.int i) M := by simp only [evE]
theorem x_cstr (i : Str) : evE c (.cstr i) env M = .ok (.str i) M := by simp only [evE]
theorem x_cbl (i : Bool) : evE c (.cbl i) env M = .ok (.bl i) M := by simp only [evE]
theorem x_cnon : evE c .cnon env M = .ok .non M := by simp only [evE]
theorem x_var (i : Nat) : evE c (.var i) env M = lkK env[i]? M := by
  simp only [evE]
  cases e : env[i]? with
  | none => rfl
  | some s => cases s <;> rfl
theorem x_glob (k : Nat) : evE c (.glob k) env M = .ok (c.gl k) M := by simp only [evE]
theorem x_fnv (k : Nat) : evE c (.fnv k) env M = .ok (.fn k) M := by simp only [evE]
theorem x_tup (es : Es) : evE c (.tup es) env M = (evEs c es env M).bind tupK := by simp only [evE]; rfl
theorem x_lst (es : Es) : evE c (.lst es) env M = (evEs c es env M).bind lstK := by simp only [evE]; rfl
theorem x_bin (o a b) : evE c (.bin o a b) env M = (evE c a env M).bind (bin1 c env o b) := by simp only [evE]; rfl
theorem x_neg (a) : evE c (.neg a) env M = (evE c a env M).bind negK := by
  simp only [evE]
  congr 1
  funext x M
  cases x <;> rfl
theorem x_cmp (o a b) : evE c (.cmp o a b) env M = (peek a env M (evE c a env M)).bind (cmp1 c env o b) := by simp only [evE]; rfl
theorem x_andv (a b) : evE c (.andv a b) env M = (evE c a env M).bind (and1 c env b) := by simp only [evE]; rfl
theorem x_orv (a b) : evE c (.orv a b) env M = (evE c a env M).bind (or1 c env b) := by simp only [evE]; rfl
theorem x_one (a) : evE c (.one a) env M = evE c a env M := by simp only [evE]
theorem x_notv (a) : evE c (.notv a) env M = (evE c a env M).bind nonK := by simp only [evE]; rfl
theorem x_ife (t a b) : evE c (.ife t a b) env M = (evT c t env M).bind (ifeK c env a b) := by simp only [evE]; rfl
theorem x_idx (a b) : evE c (.idx a b) env M = (peek a env M (evE c a env M)).bind (idx1 c env b) := by simp only [evE]; rfl
theorem x_dgt (a b) : evE c (.dgt a b) env M = (evE c a env M).bind (dgt1 c env b) := by simp only [evE]; rfl
theorem x_slc (a lo hi) : evE c (.slc a lo hi) env M = (peek a env M (evE c a env M)).bind (slc1 c env lo hi) := by simp only [evE]; rfl
theorem x_call (f sh es ks) : evE c (.call f sh es ks) env M = (evEs c es env M).bind (cal1 c env f sh ks) := by simp only [evE]; rfl
theorem x_blt (b es) : evE c (.blt b es) env M = (evPs c es env M).bind (bltD b) := by simp only [evE]
theorem x_isi (e t) : evE c (.isi e t) env M = (peek e env M (evE c e env M)).bind (isiK t) := by simp only [evE]; rfl
theorem x_comp (g own it t elt) : evE c (.comp g own it t elt) env M = if ownFree env own = false then .stk else (evI c it env M).bind (compK c env g own t elt) := by simp only [evE]; rfl
theorem x_dsp (ks vs) : evE c (.dsp ks vs) env M = (evEs c vs env M).bind (dspK ks) := by simp only [evE]; rfl
theorem xs_nil : evEs c .nil env M = .ok [] M := by simp only [evEs]
theorem xs_cons (e r) : evEs c (.cons e r) env M = (evE c e env M).bind (con1 c env r) := by simp only [evEs]; rfl
theorem xp_nil : evPs c .nil env M = .ok [] M := by simp only [evPs]
theorem xp_cons (e r) : evPs c (.cons e r) env M = (peek e env M (evE c e env M)).bind (pcon1 c env r) := by simp only [evPs]; rfl
theorem xo_non : evO c .non env M = .ok none M := by simp only [evO]
theorem xo_som (e) : evO c (.som e) env M = (evE c e env M).bind intO := by
  simp only [evO]
  congr 1
  funext x M
  cases x <;> rfl
theorem xt_val (e) : evT c (.val e) env M = (peek e env M (evE c e env M)).bind truD := by simp only [evT]
theorem xt_cmp (o a b) : evT c (.cmp o a b) env M = (peek a env M (evE c a env M)).bind (tcmp1 c env o b) := by
  simp only [evT]
  congr 1
  funext x M
  unfold tcmp1
  congr 1
  funext y M
  congr 1
  funext z M
  cases z <;> rfl
theorem xt_not (t) : evT c (.not t) env M = (evT c t env M).bind tnotK := by simp only [evT]; rfl
theorem xt_and (a b) : evT c (.and a b) env M = (evT c a env M).bind (tandK c env b) := by simp only [evT]; rfl
theorem xt_or (a b) : evT c (.or a b) env M = (evT c a env M).bind (torK c env b) := by simp only [evT]; rfl
theorem xt_one (a) : evT c (.one a) env M = evT c a env M := by simp only [evT]
theorem xq_nil : evTs c .nil env M = .ok true M := by simp only [evTs]
theorem xq_one (t) : evTs c (.one t) env M = evT c t env M := by simp only [evTs]
theorem xi_seq (e) : evI c (.seq e) env M = (evE c e env M).bind seqK := by
  simp only [evI]
  congr 1
  funext x M
  cases x <;> rfl
theorem xi_rng1 (e) : evI c (.rng1 e) env M = (evE c e env M).bind rng1K := by simp only [evI]; rfl
theorem xi_rng2 (a b) : evI c (.rng2 a b) env M = (evE c a env M).bind (rng2J c env b) := by simp only [evI]; rfl
/-! peeks -/
theorem pk_own (i : Nat) (r : Res D) : peek (.own i) env M r = pkK env[i]? M := by
  unfold peek
  simp only
  cases e : env[i]? with
  | none => rfl
  | some s => cases s <;> rfl
theorem pk_cint (i r) : peek (.cint i) env M r = r := id rfl
theorem pk_cstr (i r) : peek (.cstr i) env M r = r := id rfl
theorem pk_cbl (i r) : peek (.cbl i) env M r = r := id rfl
theorem pk_cnon (r) : peek .cnon env M r = r := id rfl
theorem pk_var (i r) : peek (.var i) env M r = r := id rfl
theorem pk_glob (i r) : peek (.glob i) env M r = r := id rfl
theorem pk_fnv (i r) : peek (.fnv i) env M r = r := id rfl
theorem pk_tup (i r) : peek (.tup i) env M r = r := id rfl
theorem pk_lst (i r) : peek (.lst i) env M r = r := id rfl
theorem pk_bin (o a b r) : peek (.bin o a b) env M r = r := id rfl
theorem pk_neg (a r) : peek (.neg a) env M r = r := id rfl
theorem pk_cmp (o a b r) : peek (.cmp o a b) env M r = r := id rfl
theorem pk_andv (a b r) : peek (.andv a b) env M r = r := id rfl
theorem pk_orv (a b r) : peek (.orv a b) env M r = r := id rfl
theorem pk_one (a r) : peek (.one a) env M r = r := id rfl
theorem pk_notv (a r) : peek (.notv a) env M r = r := id rfl
theorem pk_ife (t a b r) : peek (.ife t a b) env M r = r := id rfl
theorem pk_idx (a b r) : peek (.idx a b) env M r = r := id rfl
theorem pk_dgt (a b r) : peek (.dgt a b) env M r = r := id rfl
theorem pk_slc (a b d r) : peek (.slc a b d) env M r = r := id rfl
theorem pk_call (f s a b r) : peek (.call f s a b) env M r = r := id rfl
theorem pk_blt (a b r) : peek (.blt a b) env M r = r := id rfl
theorem pk_isi (a b r) : peek (.isi a b) env M r = r := id rfl
theorem pk_comp (a b d e f r) : peek (.comp a b d e f) env M r = r := id rfl
theorem pk_dsp (a b r) : peek (.dsp a b) env M r = r := id rfl
/-! the second halves -/
theorem k_tup (ds) : tupK ds M = .ok (.tup ds) M := id rfl
theorem k_lst (ds) : lstK ds M = .ok (.lst ds) M := id rfl
theorem k_con1 (r x) : con1 c env r x M = (evEs c r env M).bind (con2 x) := id rfl
theorem k_pcon1 (r x) : pcon1 c env r x M = (evPs c r env M).bind (con2 x) := id rfl
theorem k_con2 (x xs) : con2 x xs M = .ok (x :: xs) M := id rfl
theorem k_bin1 (o b x) : bin1 c env o b x M = (evE c b env M).bind (binD o x) := id rfl
theorem k_cmp1 (o b x) : cmp1 c env o b x M = (peek b env M (evE c b env M)).bind (cmpD o x) := id rfl
theorem k_idx1 (b x) : idx1 c env b x M = (evE c b env M).bind (idxD x) := id rfl
theorem k_dgt1 (b x) : dgt1 c env b x M = (evE c b env M).bind (dgtD x) := id rfl
theorem k_slc1 (lo hi x) : slc1 c env lo hi x M = (evO c lo env M).bind (slc2 c env x hi) := id rfl
theorem k_slc2 (x hi l) : slc2 c env x hi l M = (evO c hi env M).bind (slcD x l) := id rfl
theorem k_neg (i) : negK (.int i) M = .ok (.int (-i)) M := id rfl
theorem k_not (t) : notK t M = .ok (.bl (!t)) M := id rfl
theorem k_non (x) : nonK x M = (truD x M).bind notK := id rfl
theorem k_ifeT (a b) : ifeK c env a b true M = evE c a env M := id rfl
theorem k_ifeF (a b) : ifeK c env a b false M = evE c b env M := id rfl
theorem k_ife (a b t) : ifeK c env a b t M = if t = true then evE c a env M else evE c b env M := id rfl
theorem k_cal1 (f sh ks xs) : cal1 c env f sh ks xs M = (evEs c ks env M).bind (cal2 c f sh xs) := id rfl
theorem k_cal2 (f sh xs zs) : cal2 c f sh xs zs M = cal3 c f M (c.arr f sh xs zs) := by
  unfold cal2
  cases c.arr f sh xs zs <;> rfl
theorem k_cal3 (f ds) : cal3 c f M (some ds) = c.cal f ds M := id rfl
theorem k_isi (t x) : isiK t x M = if isiOk x then .ok (.bl (isiD x t)) M else .stk := id rfl
theorem k_intO (i) : intO (.int i) M = .ok (some i) M := id rfl
theorem k_bl (b) : blK (.bl b) M = .ok b M := id rfl
theorem k_tcmp1 (o b x) : tcmp1 c env o b x M = (peek b env M (evE c b env M)).bind fun y M => (cmpD o x y M).bind blK := id rfl
theorem k_tnot (b) : tnotK b M = .ok (!b) M := id rfl
theorem k_tandT (b) : tandK c env b true M = evT c b env M := id rfl
theorem k_tandF (b) : tandK c env b false M = .ok false M := id rfl
theorem k_torT (b) : torK c env b true M = .ok true M := id rfl
theorem k_torF (b) : torK c env b false M = evT c b env M := id rfl
theorem k_dsp (ks ys) : dspK ks ys M = .ok (.obj M.length) (M ++ [.dct (ks.zip ys)]) := id rfl
theorem k_seqT (ds) : seqK (.tup ds) M = .ok ds M := id rfl
theorem k_seqL (ds) : seqK (.lst ds) M = .ok ds M := id rfl
theorem k_comp (g own t elt ds) : compK c env g own t elt ds M = (compL (compS c env g own t elt) ds [] M).bind lstK := id rfl
theorem k_rng1 {n : Int} (h : 0 ≤ n ∧ n ≤ 1000000) : rng1K (.int n) M = .ok (iota 0 n.toNat) M := by
  have h1 : (rngOk n && decide (n.toNat ≤ line)) = true := by
    unfold rngOk line
    simp only [Bool.and_eq_true, decide_eq_true_eq]
    omega
  show (if (rngOk n && decide (n.toNat ≤ line)) = true then _ else _) = _
  rw [if_pos h1]
/-! ### operators on figures -/
theorem d_add (i j : Int) : binD .add (.int i) (.int j) M = .ok (.int (i + j)) M := id rfl
theorem d_sub (i j : Int) : binD .sub (.int i) (.int j) M = .ok (.int (i - j)) M := id rfl
theorem d_mul {i j : Int} (h : widthOk i j = true) : binD .mul (.int i) (.int j) M = .ok (.int (i * j)) M := by
  simp only [binD, binI, h, if_true]
theorem d_mod {i j : Int} (h : 0 < j) : binD .mod (.int i) (.int j) M = .ok (.int (i % j)) M := by
  have : j ≠ 0 := by omega
  simp only [binD, binI, this, if_false, Int.fmod_eq_emod_of_nonneg i (Int.le_of_lt h)]
theorem d_fdiv {i j : Int} (h : 0 < j) (h2 : j.natAbs < 2 ^ 4000) : binD .fdiv (.int i) (.int j) M = .ok (.int (i / j)) M := by
  have h0 : j ≠ 0 := by omega
  have e : binI .fdiv i j = some (i / j) := by
    simp only [binI, h0, if_false, Int.fdiv_eq_ediv_of_nonneg i (Int.le_of_lt h), h, h2, and_self, if_true]
    split <;> rfl
  simp only [binD, e]
theorem d_pow {i j : Int} (h : 0 ≤ j ∧ j ≤ 1000 ∧ i.natAbs < 2 ^ 64) : binD .pow (.int i) (.int j) M = .ok (.int (i ^ j.toNat)) M := by
  simp only [binD, binI, h, and_self, if_true]
theorem d_lt (i j : Int) : cmpD .lt (.int i) (.int j) M = .ok (.bl (decide (i < j))) M := id rfl
theorem d_le (i j : Int) : cmpD .le (.int i) (.int j) M = .ok (.bl (decide (i ≤ j))) M := id rfl
theorem d_gt (i j : Int) : cmpD .gt (.int i) (.int j) M = .ok (.bl (decide (j < i))) M := id rfl
theorem d_ge (i j : Int) : cmpD .ge (.int i) (.int j) M = .ok (.bl (decide (j ≤ i))) M := id rfl
theorem d_eqS (a b : Str) : cmpD .eq (.str a) (.str b) M = .ok (.bl (decide (a = b))) M := id rfl
theorem d_neS (a b : Str) : cmpD .ne (.str a) (.str b) M = .ok (.bl (!decide (a = b))) M := id rfl
theorem d_eqI (a b : Int) : cmpD .eq (.int a) (.int b) M = .ok (.bl (decide (a = b))) M := by
  have h : eqOk (.int a) (.int b) = true := rfl
  have e : PyData.eqv (py (.int a)) (py (.int b)) = decide (a = b) := by
    simp only [py, PyData.eqv]
    rw [Bool.eq_iff_iff]
    simp
  simp only [cmpD, strP, h, if_true, e]
theorem d_neI (a b : Int) : cmpD .ne (.int a) (.int b) M = .ok (.bl (!decide (a = b))) M := by
  have h : eqOk (.int a) (.int b) = true := rfl
  have e : PyData.eqv (py (.int a)) (py (.int b)) = decide (a = b) := by
    simp only [py, PyData.eqv]
    rw [Bool.eq_iff_iff]
    simp
  simp only [cmpD, strP, h, if_true, e]
theorem pures_ints (ns : List Int) : pures (ns.map D.int) = true := by
  induction ns with
  | nil => rfl
  | cons i r ih => rw [List.map_cons, pures, ih] <;> rfl
theorem deps_ints (ns : List Int) : deps (ns.map D.int) = 0 := by
  induction ns with
  | nil => rfl
  | cons i r ih => rw [List.map_cons, deps, ih] <;> rfl
theorem d_neNil (ns : List Int) : cmpD .ne (.lst (ns.map .int)) (.lst []) M = .ok (.bl (!decide (ns = []))) M := by
  have h : eqOk (.lst (ns.map .int)) (.lst []) = true := by
    simp only [eqOk, pure?, pures_ints, dep, deps_ints, pures, deps, Bool.and_true, Bool.true_and, Bool.and_eq_true, decide_eq_true_eq]
    decide
  have e : PyData.eqv (py (.lst (ns.map .int))) (py (.lst [])) = decide (ns = []) := by
    cases ns with
    | nil => rfl
    | cons i r => rfl
  simp only [cmpD, strP, h, if_true, e]
theorem d_dgt {a : Nat} {s : Str} {kvs : List (Str × D)} {d : D} (h : M[a]? = some (.dct kvs)) (h2 : dget kvs s = some d) : dgtD (.obj a) (.str s) M = .ok d M := by
  simp only [dgtD, h, h2]
theorem d_min (i j : Int) : bltD .min [.int i, .int j] M = .ok (.int (if j < i then j else i)) M := id rfl
theorem d_max (i j : Int) : bltD .max [.int i, .int j] M = .ok (.int (if j > i then j else i)) M := id rfl
theorem d_abs (i : Int) : bltD .abs [.int i] M = .ok (.int (if i < 0 then -i else i)) M := id rfl
theorem d_lenT (ds) : bltD .len [.tup ds] M = .ok (.int ds.length) M := id rfl
theorem d_lenL (ds) : bltD .len [.lst ds] M = .ok (.int ds.length) M := id rfl
theorem d_tupL (ds) : bltD .tuple [.lst ds] M = .ok (.tup ds) M := id rfl
theorem d_tupT (ds) : bltD .tuple [.tup ds] M = .ok (.tup ds) M := id rfl
theorem d_lstL (ds) : bltD .list [.lst ds] M = .ok (.lst ds) M := id rfl
theorem d_lstT (ds) : bltD .list [.tup ds] M = .ok (.lst ds) M := id rfl
theorem d_repr (x) : bltD .repr [x] M = reprD x M := id rfl
theorem i_tn {ds : List D} {k : Nat} {d : D} (h : ds[k]? = some d) : idxD (.tup ds) (.int (k : Int)) M = .ok d M := by
  simp only [idxD, L2.atI_nat h]
theorem i_ln {ds : List D} {k : Nat} {d : D} (h : ds[k]? = some d) : idxD (.lst ds) (.int (k : Int)) M = .ok d M := by
  simp only [idxD, L2.atI_nat h]
theorem i_t0 (x0 : D) (l) : idxD (.tup (x0 :: l)) (.int 0) M = .ok x0 M := i_tn (k := 0) rfl
theorem i_l0 (x0 : D) (l) : idxD (.lst (x0 :: l)) (.int 0) M = .ok x0 M := i_ln (k := 0) rfl
theorem i_t1 (x0 x1 : D) (l) : idxD (.tup (x0 :: x1 :: l)) (.int 1) M = .ok x1 M := i_tn (k := 1) rfl
theorem i_l1 (x0 x1 : D) (l) : idxD (.lst (x0 :: x1 :: l)) (.int 1) M = .ok x1 M := i_ln (k := 1) rfl
theorem i_t2 (x0 x1 x2 : D) (l) : idxD (.tup (x0 :: x1 :: x2 :: l)) (.int 2) M = .ok x2 M := i_tn (k := 2) rfl
theorem i_l2 (x0 x1 x2 : D) (l) : idxD (.lst (x0 :: x1 :: x2 :: l)) (.int 2) M = .ok x2 M := i_ln (k := 2) rfl
theorem i_t3 (x0 x1 x2 x3 : D) (l) : idxD (.tup (x0 :: x1 :: x2 :: x3 :: l)) (.int 3) M = .ok x3 M := i_tn (k := 3) rfl
theorem i_l3 (x0 x1 x2 x3 : D) (l) : idxD (.lst (x0 :: x1 :: x2 :: x3 :: l)) (.int 3) M = .ok x3 M := i_ln (k := 3) rfl
theorem i_t4 (x0 x1 x2 x3 x4 : D) (l) : idxD (.tup (x0 :: x1 :: x2 :: x3 :: x4 :: l)) (.int 4) M = .ok x4 M := i_tn (k := 4) rfl
theorem i_l4 (x0 x1 x2 x3 x4 : D) (l) : idxD (.lst (x0 :: x1 :: x2 :: x3 :: x4 :: l)) (.int 4) M = .ok x4 M := i_ln (k := 4) rfl
theorem i_t5 (x0 x1 x2 x3 x4 x5 : D) (l) : idxD (.tup (x0 :: x1 :: x2 :: x3 :: x4 :: x5 :: l)) (.int 5) M = .ok x5 M := i_tn (k := 5) rfl
theorem i_l5 (x0 x1 x2 x3 x4 x5 : D) (l) : idxD (.lst (x0 :: x1 :: x2 :: x3 :: x4 :: x5 :: l)) (.int 5) M = .ok x5 M := i_ln (k := 5) rfl
theorem i_t6 (x0 x1 x2 x3 x4 x5 x6 : D) (l) : idxD (.tup (x0 :: x1 :: x2 :: x3 :: x4 :: x5 :: x6 :: l)) (.int 6) M = .ok x6 M := i_tn (k := 6) rfl
theorem i_l6 (x0 x1 x2 x3 x4 x5 x6 : D) (l) : idxD (.lst (x0 :: x1 :: x2 :: x3 :: x4 :: x5 :: x6 :: l)) (.int 6) M = .ok x6 M := i_ln (k := 6) rfl
theorem i_t7 (x0 x1 x2 x3 x4 x5 x6 x7 : D) (l) : idxD (.tup (x0 :: x1 :: x2 :: x3 :: x4 :: x5 :: x6 :: x7 :: l)) (.int 7) M = .ok x7 M := i_tn (k := 7) rfl
theorem i_l7 (x0 x1 x2 x3 x4 x5 x6 x7 : D) (l) : idxD (.lst (x0 :: x1 :: x2 :: x3 :: x4 :: x5 :: x6 :: x7 :: l)) (.int 7) M = .ok x7 M := i_ln (k := 7) rfl
theorem tr_bl (b) : truD (.bl b) M = .ok b M := id rfl
theorem tr_int (i) : truD (.int i) M = .ok (i != 0) M := id rfl
theorem tr_non : truD .non M = .ok false M := id rfl
theorem tr_tup (ds) : truD (.tup ds) M = .ok (!ds.isEmpty) M := id rfl
theorem tr_lst (ds) : truD (.lst ds) M = .ok (!ds.isEmpty) M := id rfl
theorem k_ifeD (a b) (p : Prop) [Decidable p] : ifeK c env a b (decide p) M = if p then evE c a env M else evE c b env M := by
  by_cases h : p <;> simp [ifeK, h]
/-! ### statements -/
def asgK (g : G) (env : Env) : D → Sto → SRes := fun x M => (match bindG g x env with | some env' => .next env' M | none => .stk)
def par1 (c : Cal) (env : Env) (i j : Nat) (b : E) : D → Sto → SRes := fun x M => .of (evE c b env M) fun y M => .next ((env.set i (.val x)).set j (.val y)) M
def par2 (env : Env) (i j : Nat) (x : D) : D → Sto → SRes := fun y M => .next ((env.set i (.val x)).set j (.val y)) M
def ownK (env : Env) (i : Nat) : List D → Sto → SRes := fun xs M => if i < env.length then .next (env.set i (.own xs)) M else .stk
def appK (c : Cal) (env : Env) (M : Sto) (i : Nat) (e : E) : Option Slot → SRes
  | some (.own ds) => .of (evE c e env M) fun x M => if ds.length < line then .next (env.set i (.own (ds ++ [x]))) M else .stk
  | _ => .stk
def app2 (env : Env) (i : Nat) (ds : List D) : D → Sto → SRes := fun x M => if ds.length < line then .next (env.set i (.own (ds ++ [x]))) M else .stk
def augK (c : Cal) (env : Env) (M : Sto) (i : Nat) (o : Bop) (e : E) : Option Slot → SRes
  | some (.val y) => .of (evE c e env M) fun x M => (match y, x with | .int i0, .int j0 => if AugOk o = true then .of (binD o (.int i0) (.int j0) M) fun z M => .next (env.set i (.val z)) M else .stk | _, _ => .stk)
  | _ => .stk
def aug2 (env : Env) (i : Nat) (o : Bop) (y : D) : D → Sto → SRes := fun x M => (match y, x with | .int i0, .int j0 => if AugOk o = true then .of (binD o (.int i0) (.int j0) M) fun z M => .next (env.set i (.val z)) M else .stk | _, _ => .stk)
def set1 (c : Cal) (env : Env) (a k : E) : D → Sto → SRes := fun x M => .of (evE c a env M) fun o M => .of (evE c k env M) fun k M => (match o, k with
      | .obj n, .str s => (match M[n]? with | some (.dct kvs) => if kvs.length < 1000 then .next env (M.set n (.dct (dput kvs s x))) else .stk | none => .stk)
      | _, _ => .stk)
def set2 (c : Cal) (env : Env) (x : D) (k : E) : D → Sto → SRes := fun o M => .of (evE c k env M) fun k M => (match o, k with
      | .obj n, .str s => (match M[n]? with | some (.dct kvs) => if kvs.length < 1000 then .next env (M.set n (.dct (dput kvs s x))) else .stk | none => .stk)
      | _, _ => .stk)
def set4 (env : Env) (n : Nat) (s : Str) (x : D) (M : Sto) : Option Ob → SRes
  | some (.dct kvs) => if kvs.length < 1000 then .next env (M.set n (.dct (dput kvs s x))) else .stk
  | none => .stk
def set3 (env : Env) (x o : D) : D → Sto → SRes := fun k M => (match o, k with
      | .obj n, .str s => (match M[n]? with | some (.dct kvs) => if kvs.length < 1000 then .next env (M.set n (.dct (dput kvs s x))) else .stk | none => .stk)
      | _, _ => .stk)
def exprK (env : Env) : D → Sto → SRes := fun _ M => .next env M
def retK : D → Sto → SRes := fun x M => .ret x M
noncomputable def ifsK (c : Cal) (env : Env) (a b : List S) : Bool → Sto → SRes := fun t M => if t = true then evSs c a env M else evSs c b env M
noncomputable def forS (c : Cal) (g : G) (b : List S) : D → Env → Sto → SRes := fun d env M => match bindG g d env with | some env' => evSs c b env' M | none => .stk
noncomputable def forK (c : Cal) (env : Env) (g : G) (b : List S) : List D → Sto → SRes := fun ds M => forL (forS c g b) ds env M
noncomputable def frzK (c : Cal) (env : Env) (M : Sto) (i : Nat) (s : S) : Option Slot → SRes
  | some (.own ds) => evS c s (env.set i (.val (.lst ds))) M
  | _ => .stk
theorem y_nil : evSs c [] env M = .next env M := by simp only [evSs]
theorem y_cons (s r) : evSs c (s :: r) env M = (evS c s env M).andThen (evSs c r) := by simp only [evSs]
theorem y_next (k : Env → Sto → SRes) : (SRes.next env M).andThen k = k env M := id rfl
theorem y_ret (d) (k : Env → Sto → SRes) : (SRes.ret d M).andThen k = .ret d M := id rfl
theorem y_brk (k : Env → Sto → SRes) : (SRes.brk env M).andThen k = .brk env M := id rfl
theorem y_cnt (k : Env → Sto → SRes) : (SRes.cnt env M).andThen k = .cnt env M := id rfl
theorem y_asg (g e) : evS c (.asg g e) env M = .of (evE c e env M) (asgK g env) := by simp only [evS]; rfl
theorem y_par (i j a b) : evS c (.par i j a b) env M = .of (evE c a env M) (par1 c env i j b) := by simp only [evS]; rfl
theorem y_par1 (i j b x) : par1 c env i j b x M = .of (evE c b env M) (par2 env i j x) := id rfl
theorem y_par2 (i j x y) : par2 env i j x y M = .next ((env.set i (.val x)).set j (.val y)) M := id rfl
theorem y_ownL (i es) : evS c (.ownL i es) env M = .of (evEs c es env M) (ownK env i) := by simp only [evS]; rfl
theorem y_ownK (i xs) : ownK env i xs M = if i < env.length then .next (env.set i (.own xs)) M else .stk := id rfl
theorem y_app (i e) : evS c (.app i e) env M = appK c env M i e env[i]? := by
  simp only [evS]
  cases e : env[i]? with
  | none => rfl
  | some s => cases s <;> rfl
theorem y_appK (i e ds) : appK c env M i e (some (.own ds)) = .of (evE c e env M) (app2 env i ds) := id rfl
theorem y_app2 (i ds x) : app2 env i ds x M = if ds.length < line then .next (env.set i (.own (ds ++ [x]))) M else .stk := id rfl
theorem y_aug (i o e) : evS c (.aug i o e) env M = augK c env M i o e env[i]? := by
  simp only [evS]
  cases e : env[i]? with
  | none => rfl
  | some s => cases s <;> rfl
theorem y_augK (i o e y) : augK c env M i o e (some (.val y)) = .of (evE c e env M) (aug2 env i o y) := id rfl
theorem y_augA (i a b) : aug2 env i .add (.int a) (.int b) M = .next (env.set i (.val (.int (a + b)))) M := id rfl
theorem y_augS (i a b) : aug2 env i .sub (.int a) (.int b) M = .next (env.set i (.val (.int (a - b)))) M := id rfl
theorem y_setd (a k e) : evS c (.setd a k e) env M = .of (evE c e env M) (set1 c env a k) := by simp only [evS]; rfl
theorem y_set1 (a k x) : set1 c env a k x M = .of (evE c a env M) (set2 c env x k) := id rfl
theorem y_set2 (x k o) : set2 c env x k o M = .of (evE c k env M) (set3 env x o) := id rfl
theorem y_set3 (x n s) : set3 env x (.obj n) (.str s) M = set4 env n s x M M[n]? := by
  unfold set3
  simp only
  cases M[n]? with
  | none => rfl
  | some o => cases o; rfl
theorem y_set4 (x n s kvs) : set4 env n s x M (some (.dct kvs)) = if kvs.length < 1000 then .next env (M.set n (.dct (dput kvs s x))) else .stk := id rfl
theorem y_expr (e) : evS c (.expr e) env M = .of (evE c e env M) (exprK env) := by simp only [evS]; rfl
theorem y_exprK (d) : exprK env d M = .next env M := id rfl
theorem y_ret1 (e) : evS c (.ret e) env M = .of (evE c e env M) retK := by simp only [evS]; rfl
theorem y_retK (d) : retK d M = .ret d M := id rfl
theorem y_retn : evS c .retn env M = .ret .non M := by simp only [evS]
theorem y_ifs (t a b) : evS c (.ifs t a b) env M = .of (evT c t env M) (ifsK c env a b) := by simp only [evS]; rfl
theorem y_ifsT (a b) : ifsK c env a b true M = evSs c a env M := id rfl
theorem y_ifsF (a b) : ifsK c env a b false M = evSs c b env M := id rfl
theorem y_forr (g it b) : evS c (.forr g it b) env M = .of (evI c it env M) (forK c env g b) := by simp only [evS]; rfl
theorem y_forK (g b ds) : forK c env g b ds M = forL (forS c g b) ds env M := id rfl
theorem y_forS (g b d) : forS c g b d env M = match bindG g d env with | some env' => evSs c b env' M | none => .stk := id rfl
theorem y_whil (t b) : evS c (.whil t b) env M = whileD (evT c t) (evSs c b) env M := by simp only [evS]
theorem y_pas : evS c .pas env M = .next env M := by simp only [evS]
theorem y_brk1 : evS c .brk env M = .brk env M := by simp only [evS]
theorem y_cnt1 : evS c .cnt env M = .cnt env M := by simp only [evS]
theorem y_frz (i s) : evS c (.frz i s) env M = frzK c env M i s env[i]? := by
  simp only [evS]
  cases e : env[i]? with
  | none => rfl
  | some s => cases s <;> rfl
theorem y_frzK (i s ds) : frzK c env M i s (some (.own ds)) = evS c s (env.set i (.val (.lst ds))) M := id rfl
theorem y_asgK (g x) : asgK g env x M = match bindG g x env with | some env' => .next env' M | none => .stk := id rfl
theorem y_ifsD (a b) (p : Prop) [Decidable p] : ifsK c env a b (decide p) M = if p then evSs c a env M else evSs c b env M := by
  by_cases h : p <;> simp [ifsK, h]
theorem fin_ret (d) : fin (.ret d M) = .ok d M := id rfl
theorem fin_next : fin (.next env M) = .ok .non M := id rfl
theorem g_nm (i d) : bindG (.nm i) d env = if i < env.length then some (env.set i (.val d)) else none := id rfl
theorem g_tp (gs ds) : bindG (.tp gs) (.tup ds) env = bindGs gs ds env := id rfl
theorem g_nil : bindGs [] [] env = some env := id rfl
theorem g_cons (g gs d ds) : bindGs (g :: gs) (d :: ds) env = (bindG g d env).bind (bindGs gs ds) := id rfl
theorem k_ifeN (a b) (p : Prop) [Decidable p] : ifeK c env a b (!decide p) M = if p then evE c b env M else evE c a env M := by
  by_cases h : p <;> simp [ifeK, h]
theorem y_ifsN (a b) (p : Prop) [Decidable p] : ifsK c env a b (!decide p) M = if p then evSs c b env M else evSs c a env M := by
  by_cases h : p <;> simp [ifsK, h]
/-! pushing out -/
theorem p_bind {α β : Type} (p : Prop) [Decidable p] (a b : Res α) (k : α → Sto → Res β) : (if p then a else b).bind k = if p then a.bind k else b.bind k := by
  split <;> rfl
theorem p_of {α : Type} (p : Prop) [Decidable p] (a b : Res α) (k : α → Sto → SRes) : SRes.of (if p then a else b) k = if p then SRes.of a k else SRes.of b k := by
  split <;> rfl
theorem p_then (p : Prop) [Decidable p] (a b : SRes) (k : Env → Sto → SRes) : (if p then a else b).andThen k = if p then a.andThen k else b.andThen k := by
  split <;> rfl
theorem p_fin (p : Prop) [Decidable p] (a b : SRes) : fin (if p then a else b) = if p then fin a else fin b := by
  split <;> rfl
/-! Euclid's loop -/
theorem gcd_loop {s0 s1 : Slot} (x y : Int) (hx : 0 ≤ x) (hy : 0 ≤ y) :
    whileD (evT c (.cmp .gt (.var 3) (.cint 0))) (evSs c [.par 2 3 (.var 3) (.bin .mod (.var 2) (.var 3))]) [s0, s1, .val (.int x), .val (.int y)] M = .next [s0, s1, .val (.int (Int.gcd x y)), .val (.int 0)] M := by
  have key : ∀ (k : Nat) (x y : Int), 0 ≤ x → 0 ≤ y → y.toNat ≤ k → Turns (evT c (.cmp .gt (.var 3) (.cint 0))) (evSs c [.par 2 3 (.var 3) (.bin .mod (.var 2) (.var 3))]) [s0, s1, .val (.int x), .val (.int y)] M [s0, s1, .val (.int (Int.gcd x y)), .val (.int 0)] M := by
    intro k
    induction k with
    | zero =>
      intro x y hx hy hk
      have y0 : y = 0 := by omega
      subst y0
      have e : ((Int.gcd x 0 : Nat) : Int) = x := by
        rw [Int.gcd_zero_right]
        omega
      rw [e]
      exact .done (by simp only [xt_cmp, pk_var, x_var, lkK_val, k_tcmp1, pk_cint, x_cint, d_gt, k_bl, Res.bind_ok, List.getElem?_cons_zero, List.getElem?_cons_succ] <;> rfl)
    | succ k ih =>
      intro x y hx hy hk
      by_cases hy0 : y = 0
      · subst hy0
        have e : ((Int.gcd x 0 : Nat) : Int) = x := by
          rw [Int.gcd_zero_right]
          omega
        rw [e]
        exact .done (by simp only [xt_cmp, pk_var, x_var, lkK_val, k_tcmp1, pk_cint, x_cint, d_gt, k_bl, Res.bind_ok, List.getElem?_cons_zero, List.getElem?_cons_succ] <;> rfl)
      · have hyp : 0 < y := by omega
        have m0 := Int.emod_nonneg x hy0
        have m1 := Int.emod_lt_of_pos x hyp
        have e : Int.gcd x y = Int.gcd y (x % y) := by
          obtain ⟨a, rfl⟩ := Int.eq_ofNat_of_zero_le hx
          obtain ⟨b, rfl⟩ := Int.eq_ofNat_of_zero_le hy
          rw [← Int.natCast_emod]
          show Nat.gcd a b = Nat.gcd b (a % b)
          rw [Nat.gcd_comm a b, Nat.gcd_rec b a, Nat.gcd_comm]
        rw [e]
        refine .more (M1 := M) (e2 := [s0, s1, .val (.int y), .val (.int (x % y))]) (M2 := M) ?_ ?_ (ih y (x % y) hy m0 (by omega))
        · simp only [xt_cmp, pk_var, x_var, lkK_val, k_tcmp1, pk_cint, x_cint, d_gt, k_bl, Res.bind_ok, List.getElem?_cons_zero, List.getElem?_cons_succ, hyp, decide_true]
        · simp only [y_cons, y_par, y_par1, y_par2, y_nil, y_next, x_var, x_bin, k_bin1, d_mod hyp, lkK_val, Res.bind_ok, SRes.of_ok, List.getElem?_cons_zero, List.getElem?_cons_succ, List.set_cons_zero, List.set_cons_succ]
  exact whileD_turns (key y.toNat x y hx hy (Nat.le_refl _))
end
end Mp
end

section
set_option Elab.async false
set_option linter.all false
set_option maxRecDepth 100000
set_option maxHeartbeats 0
/-! The feed of figures. -/
namespace Mp
open PySem PySem.Spec
def feedD (cells : List Int) (at_ left count : Int) : Ob := .dct [("cells", .lst (cells.map .int)), ("at", .int at_), ("left", .int left), ("count", .int count)]
structure FeedAt (i : Nat) (b : Int) (M : Sto) : Prop where
  ex : ∃ cells at_ left count, M[i]? = some (feedD cells at_ left count) ∧ 0 ≤ at_ ∧ 0 ≤ left ∧ 0 ≤ count ∧ count ≤ b
theorem FeedAt.up {i : Nat} {b b' : Int} {M : Sto} (h : FeedAt i b M) (hb : b ≤ b') : FeedAt i b' M := by
  obtain ⟨x, y, z, w, h1, h2, h3, h4, h5⟩ := h.ex
  exact ⟨x, y, z, w, h1, h2, h3, h4, by omega⟩
def cellE (c3 : Int) : E := .ife (.cmp .ne (.dgt (.var 0) (.cstr "cells")) (.lst (.nil))) (.idx (.dgt (.var 0) (.cstr "cells")) (.bin .mod (.var 2) (.blt .len (.cons (.dgt (.var 0) (.cstr "cells")) .nil)))) (.cint c3)
def drawB (c1 c2 c3 p e c4 c5 c6 c7 c8 c9 c10 c11 c12 c13 : Int) : List S :=
  [.setd (.var 0) (.cstr "count") (.bin .add (.dgt (.var 0) (.cstr "count")) (.cint c1)),
   .ifs (.cmp .gt (.dgt (.var 0) (.cstr "left")) (.cint 0)) [.asg (.nm 5) (.bin .mod (.dgt (.var 0) (.cstr "left")) (.var 1)), .setd (.var 0) (.cstr "left") (.bin .fdiv (.dgt (.var 0) (.cstr "left")) (.var 1)), .ret (.var 5)] [],
   .asg (.nm 2) (.dgt (.var 0) (.cstr "at")), .setd (.var 0) (.cstr "at") (.bin .add (.var 2) (.cint c2)),
   .asg (.nm 3) (cellE c3),
   .ifs (.and (.cmp .ge (.var 3) (.bin .pow (.cint p) (.cint e))) (.one (.cmp .lt (.var 2) (.blt .len (.cons (.dgt (.var 0) (.cstr "cells")) .nil))))) [.setd (.var 0) (.cstr "left") (.bin .fdiv (.var 3) (.var 1)), .ret (.bin .mod (.var 3) (.var 1))] [],
   .asg (.nm 4) (.bin .mod (.bin .add (.bin .add (.bin .mod (.var 3) (.cint c4)) (.bin .mul (.cint c5) (.dgt (.var 0) (.cstr "count")))) (.cint c6)) (.cint c7)),
   .asg (.nm 4) (.bin .mod (.bin .add (.bin .add (.bin .mul (.var 4) (.var 4)) (.bin .mul (.cint c8) (.dgt (.var 0) (.cstr "count")))) (.cint c9)) (.cint c10)),
   .ret (.bin .mod (.bin .fdiv (.bin .mod (.bin .add (.bin .mul (.var 4) (.var 4)) (.bin .mul (.cint c11) (.var 4))) (.cint c12)) (.cint c13)) (.var 1))]
def fkv (x a l k : D) : List (Str × D) := [("cells", x), ("at", a), ("left", l), ("count", k)]
theorem put_count (x a l k v : D) : dput (fkv x a l k) "count" v = fkv x a l v := by rfl
theorem put_at (x a l k v : D) : dput (fkv x a l k) "at" v = fkv x v l k := by rfl
theorem put_left (x a l k v : D) : dput (fkv x a l k) "left" v = fkv x a v k := by rfl
theorem get_cells (x a l k : D) : dget (fkv x a l k) "cells" = some x := by rfl
theorem get_count (x a l k : D) : dget (fkv x a l k) "count" = some k := by rfl
theorem get_at (x a l k : D) : dget (fkv x a l k) "at" = some a := by rfl
theorem get_left (x a l k : D) : dget (fkv x a l k) "left" = some l := by rfl
section
variable {c : Cal} {env : Env} {M : Sto} {i : Nat}
theorem rd_cells {x a l k : D} (h : M[i]? = some (.dct (fkv x a l k))) : dgtD (.obj i) (.str "cells") M = .ok x M := d_dgt h (get_cells ..)
theorem rd_at {x a l k : D} (h : M[i]? = some (.dct (fkv x a l k))) : dgtD (.obj i) (.str "at") M = .ok a M := d_dgt h (get_at ..)
theorem rd_left {x a l k : D} (h : M[i]? = some (.dct (fkv x a l k))) : dgtD (.obj i) (.str "left") M = .ok l M := d_dgt h (get_left ..)
theorem rd_count {x a l k : D} (h : M[i]? = some (.dct (fkv x a l k))) : dgtD (.obj i) (.str "count") M = .ok k M := d_dgt h (get_count ..)
theorem wr_at {x a l k v : D} (h : M[i]? = some (.dct (fkv x a l k))) : set3 env v (.obj i) (.str "at") M = .next env (M.set i (.dct (fkv x v l k))) := by
  rw [y_set3, h, y_set4, put_at]
  rfl
theorem wr_left {x a l k v : D} (h : M[i]? = some (.dct (fkv x a l k))) : set3 env v (.obj i) (.str "left") M = .next env (M.set i (.dct (fkv x a v k))) := by
  rw [y_set3, h, y_set4, put_left]
  rfl
theorem wr_count {x a l k v : D} (h : M[i]? = some (.dct (fkv x a l k))) : set3 env v (.obj i) (.str "count") M = .next env (M.set i (.dct (fkv x a l v))) := by
  rw [y_set3, h, y_set4, put_count]
  rfl
/-- a cell, where there are some -/
theorem cell_ix {ns : List Int} {a : Int} (h : ns ≠ []) : ∃ z : Int, idxD (.lst (ns.map .int)) (.int (a % (ns.map D.int).length)) M = .ok (.int z) M := by
  have hl : 0 < ns.length := List.length_pos_iff.mpr h
  rw [List.length_map]
  have h0 := Int.emod_nonneg a (show (ns.length : Int) ≠ 0 by omega)
  have h1 := Int.emod_lt_of_pos a (show (0 : Int) < ns.length by omega)
  obtain ⟨k, hk⟩ := Int.eq_ofNat_of_zero_le h0
  have hk2 : k < ns.length := by omega
  refine ⟨ns[k], ?_⟩
  rw [hk]
  exact i_ln (by rw [List.getElem?_map, List.getElem?_eq_getElem hk2] <;> rfl)
end
theorem w2 {i : Int} (h : -(2 ^ 200) < i) (h2 : i < 2 ^ 200) : i.natAbs < 2 ^ 4000 := by
  have e : (2 : Nat) ^ 200 ≤ 2 ^ 4000 := Nat.pow_le_pow_right (by decide) (by decide)
  exact Nat.lt_of_lt_of_le (by omega) e
theorem ww {i j : Int} (h : -(2 ^ 200) < i) (h2 : i < 2 ^ 200) (h3 : -(2 ^ 200) < j) (h4 : j < 2 ^ 200) : widthOk i j = true := widthOk_of (w2 h h2) (w2 h3 h4)
theorem idx_dom {ds : List D} {r : Int} (h : 0 ≤ r) (h2 : r < ds.length) : ∃ d ∈ ds, ∀ M : Sto, idxD (.lst ds) (.int r) M = .ok d M := by
  obtain ⟨k, rfl⟩ := Int.eq_ofNat_of_zero_le h
  have hk : k < ds.length := by omega
  exact ⟨ds[k], List.getElem_mem hk, fun M => i_ln (List.getElem?_eq_getElem hk)⟩
theorem idx_domT {ds : List D} {r : Int} (h : 0 ≤ r) (h2 : r < ds.length) : ∃ d ∈ ds, ∀ M : Sto, idxD (.tup ds) (.int r) M = .ok d M := by
  obtain ⟨k, rfl⟩ := Int.eq_ofNat_of_zero_le h
  have hk : k < ds.length := by omega
  exact ⟨ds[k], List.getElem_mem hk, fun M => i_tn (List.getElem?_eq_getElem hk)⟩
theorem evSs_append {c : Cal} : ∀ (a b : List S) (env : Env) (M : Sto), evSs c (a ++ b) env M = (evSs c a env M).andThen (evSs c b)
  | [], b, env, M => by rw [List.nil_append, y_nil, y_next]
  | s :: a, b, env, M => by
    rw [List.cons_append, y_cons, y_cons]
    cases evS c s env M with
    | next e M' => rw [y_next, y_next]; exact evSs_append a b e M'
    | _ => rfl
/-! ### what repr writes -/
structure Sw (x : D) (w d : Nat) : Prop where
  p : pure? x = true
  s : small? x = true
  d : dep x ≤ d
  w : wt x ≤ w
structure Sws (xs : List D) (w d : Nat) : Prop where
  p : pures xs = true
  s : smalls xs = true
  d : deps xs ≤ d
  w : wts xs ≤ w
theorem Sw.int {i : Int} (h : i.natAbs < 2 ^ 1900) : Sw (.int i) 2000 0 := ⟨rfl, decide_eq_true h, Nat.le_refl _, Nat.le_refl _⟩
theorem Sw.bl (b : Bool) : Sw (.bl b) 5 0 := ⟨rfl, rfl, Nat.le_refl _, Nat.le_refl _⟩
theorem Sw.non : Sw .non 5 0 := ⟨rfl, rfl, Nat.le_refl _, Nat.le_refl _⟩
theorem Sws.nil : Sws [] 0 0 := ⟨rfl, rfl, Nat.le_refl _, Nat.le_refl _⟩
theorem Sws.cons {x : D} {xs : List D} {w d w' d' : Nat} (h : Sw x w d) (g : Sws xs w' d') : Sws (x :: xs) (w + 2 + w') (max d d') := by
  refine ⟨by rw [pures, h.p, g.p] <;> rfl, by rw [smalls, h.s, g.s] <;> rfl, ?_, ?_⟩
  · rw [deps]
    have := h.d
    have := g.d
    omega
  · rw [wts]
    have := h.w
    have := g.w
    omega
theorem Sw.tup {xs : List D} {w d : Nat} (h : Sws xs w d) : Sw (.tup xs) (w + 3) (d + 1) := ⟨by rw [pure?]; exact h.p, by rw [small?]; exact h.s, by rw [dep]; exact Nat.succ_le_succ h.d, by rw [wt]; exact Nat.add_le_add_right h.w 3⟩
theorem Sw.lst {xs : List D} {w d : Nat} (h : Sws xs w d) : Sw (.lst xs) (w + 3) (d + 1) := ⟨by rw [pure?]; exact h.p, by rw [small?]; exact h.s, by rw [dep]; exact Nat.succ_le_succ h.d, by rw [wt]; exact Nat.add_le_add_right h.w 3⟩
theorem Sws.ints : ∀ {ns : List Int}, (∀ i ∈ ns, i.natAbs < 2 ^ 1900) → Sws (ns.map .int) (2002 * ns.length) 0
  | [], _ => .nil
  | i :: ns, h => by
    have a := Sws.cons (Sw.int (h i List.mem_cons_self)) (Sws.ints (ns := ns) fun j hj => h j (List.mem_cons_of_mem _ hj))
    exact ⟨a.p, a.s, a.d, Nat.le_trans a.w (by rw [List.length_cons]; omega)⟩
theorem Sw.up {x : D} {w d w' d' : Nat} (h : Sw x w d) (hw : w ≤ w') (hd : d ≤ d') : Sw x w' d' := ⟨h.p, h.s, Nat.le_trans h.d hd, Nat.le_trans h.w hw⟩
theorem Sw.repr {x : D} {w d : Nat} (h : Sw x w d) (hd : d ≤ 60 := by decide) (hw : w ≤ line := by decide) (M : Sto) : bltD .repr [x] M = .ok (.str (PyData.shown (py x))) M := by
  have e : (pure? x && small? x && decide (dep x ≤ 60) && decide (wt x ≤ line)) = true := by
    rw [h.p, h.s, decide_eq_true (Nat.le_trans h.d hd), decide_eq_true (Nat.le_trans h.w hw)] <;> rfl
  show (if (pure? x && small? x && decide (dep x ≤ 60) && decide (wt x ≤ line)) = true then _ else _) = _
  rw [if_pos e]
end Mp
end

section
set_option Elab.async false
set_option linter.all false
set_option maxRecDepth 100000
set_option maxHeartbeats 0
/-! A figure drawn. -/
namespace Mp
open PySem PySem.Spec
structure Cst (x : Int) : Prop where
  pos : 0 < x
  sm : x < 2 ^ 64
theorem Cst.w {x : Int} (h : Cst x) : x.natAbs < 2 ^ 4000 := w2 (by have := h.pos; omega) (by have := h.sm; omega)
def mixB (c4 c5 c6 c7 c8 c9 c10 c11 c12 c13 : Int) : List S :=
  [.asg (.nm 4) (.bin .mod (.bin .add (.bin .add (.bin .mod (.var 3) (.cint c4)) (.bin .mul (.cint c5) (.dgt (.var 0) (.cstr "count")))) (.cint c6)) (.cint c7)),
   .asg (.nm 4) (.bin .mod (.bin .add (.bin .add (.bin .mul (.var 4) (.var 4)) (.bin .mul (.cint c8) (.dgt (.var 0) (.cstr "count")))) (.cint c9)) (.cint c10)),
   .ret (.bin .mod (.bin .fdiv (.bin .mod (.bin .add (.bin .mul (.var 4) (.var 4)) (.bin .mul (.cint c11) (.var 4))) (.cint c12)) (.cint c13)) (.var 1))]
section
variable {c : Cal} {M : Sto} {i : Nat}
theorem draw_run {c1 c2 c3 p e c4 c5 c6 c7 c8 c9 c10 c11 c12 c13 b m : Int} (hc1 : c1 = 1) (hc2 : c2 = 1) (hp0 : 0 ≤ e ∧ e ≤ 1000 ∧ p.natAbs < 2 ^ 64 ∧ 0 ≤ p ^ e.toNat) (h4 : Cst c4) (h5 : Cst c5) (h7 : Cst c7) (h8 : Cst c8) (h10 : Cst c10) (h11 : Cst c11) (h12 : Cst c12) (h13 : Cst c13)
    (F : FeedAt i b M) (hb : b < 2 ^ 100) (hm : 0 < m) (hm2 : m < 2 ^ 64) :
    ∃ r M', fin (evSs c (drawB c1 c2 c3 p e c4 c5 c6 c7 c8 c9 c10 c11 c12 c13) [.val (.obj i), .val (.int m), .non, .non, .non, .non] M) = .ok (.int r) M' ∧ 0 ≤ r ∧ r < m ∧ FeedAt i (b + 1) M' ∧ M'.length = M.length ∧ ∀ j, j ≠ i → M'[j]? = M[j]? := by
  obtain ⟨ns, a, l, k, hM, ha, hl, hk, hkb⟩ := F.ex
  subst hc1 hc2
  have hM : M[i]? = some (.dct (fkv (.lst (ns.map .int)) (.int a) (.int l) (.int k))) := hM
  have hi : i < M.length := (List.getElem?_eq_some_iff.mp hM).1
  have hst : ∀ o : Ob, (M.set i o)[i]? = some o := fun o => List.getElem?_set_self hi
  have hmw : m.natAbs < 2 ^ 4000 := Cst.w ⟨hm, hm2⟩
  have hM1 := hst (.dct (fkv (.lst (ns.map .int)) (.int a) (.int l) (.int (k + 1))))
  have same : ∀ (o : Ob) (j : Nat), j ≠ i → (M.set i o)[j]? = M[j]? := fun o j hj => List.getElem?_set_ne (fun z => hj z.symm)
  have feed : ∀ a' l' : Int, 0 ≤ a' → 0 ≤ l' → FeedAt i (b + 1) (M.set i (.dct (fkv (.lst (ns.map .int)) (.int a') (.int l') (.int (k + 1))))) := fun a' l' h1 h2 => ⟨ns, a', l', k + 1, hst _, h1, h2, by omega, by omega⟩
  by_cases hl0 : 0 < l
  · refine ⟨l % m, M.set i (.dct (fkv (.lst (ns.map .int)) (.int a) (.int (l / m)) (.int (k + 1)))), ?_, Int.emod_nonneg l (by omega), Int.emod_lt_of_pos l hm, feed _ _ ha (Int.ediv_nonneg hl (by omega)), List.length_set, fun j hj => same _ j hj⟩
    simp only [drawB, lkK_val, pkK_own, x_cint, x_cstr, x_cbl, x_cnon, x_var, x_glob, x_fnv, x_tup, x_lst, x_bin, x_neg, x_cmp, x_andv, x_orv, x_one, x_notv, x_ife, x_idx, x_dgt, x_slc, x_call, x_blt, x_isi, x_comp, x_dsp, xs_nil, xs_cons, xp_nil, xp_cons, xo_non, xo_som, xt_val, xt_cmp, xt_not, xt_and, xt_or, xt_one, xq_nil, xq_one, xi_seq, xi_rng1, xi_rng2, pk_own, pk_cint, pk_cstr, pk_cbl, pk_cnon, pk_var, pk_glob, pk_fnv, pk_tup, pk_lst, pk_bin, pk_neg, pk_cmp, pk_andv, pk_orv, pk_one, pk_notv, pk_ife, pk_idx, pk_dgt, pk_slc, pk_call, pk_blt, pk_isi, pk_comp, pk_dsp, k_tup, k_lst, k_con1, k_pcon1, k_con2, k_bin1, k_cmp1, k_idx1, k_dgt1, k_slc1, k_slc2, k_neg, k_not, k_non, k_ifeT, k_ifeF, k_cal1, k_cal2, k_cal3, k_isi, k_intO, k_bl, k_tcmp1, k_tnot, k_tandT, k_tandF, k_torT, k_torF, k_dsp, k_seqT, k_seqL, k_comp, d_add, d_sub, d_lt, d_le, d_gt, d_ge, d_min, d_max, d_abs, d_lenT, d_lenL, d_tupL, d_tupT, d_lstL, d_lstT, i_t0, i_l0, i_t1, i_l1, i_t2, i_l2, i_t3, i_l3, i_t4, i_l4, i_t5, i_l5, i_t6, i_l6, i_t7, i_l7, tr_bl, tr_int, tr_non, tr_tup, tr_lst, y_nil, y_cons, y_next, y_ret, y_brk, y_cnt, y_asg, y_par, y_par1, y_par2, y_ownL, y_ownK, y_app, y_appK, y_app2, y_aug, y_augK, y_augA, y_augS, y_setd, y_set1, y_set2, y_set3, y_set4, y_expr, y_exprK, y_ret1, y_retK, y_retn, y_ifs, y_ifsT, y_ifsF, y_forr, y_forK, y_whil, y_pas, y_brk1, y_cnt1, y_frz, y_frzK, y_asgK, fin_ret, fin_next, g_nm, g_tp, g_nil, g_cons, Res.bind_ok, SRes.of_ok, Option.bind_some, List.getElem?_cons_zero, List.getElem?_cons_succ, List.set_cons_zero, List.set_cons_succ, List.length_cons, List.length_nil, if_true, if_false, Nat.reduceAdd, Nat.reduceLT, Nat.zero_add, decide_true, decide_false, Bool.not_true, Bool.not_false, not_true_eq_false, not_false_eq_true, eq_self, rd_count hM, wr_count hM, rd_left hM1, hl0, d_mod hm, d_fdiv hm hmw, wr_left hM1, List.set_set]
  · have hM2 := hst (.dct (fkv (.lst (ns.map .int)) (.int (a + 1)) (.int l) (.int (k + 1))))
    -- the cell
    have cell : ∃ z : Int, ∀ env : Env, env[0]? = some (.val (.obj i)) → env[2]? = some (.val (.int a)) → evE c (cellE c3) env (M.set i (.dct (fkv (.lst (ns.map .int)) (.int (a + 1)) (.int l) (.int (k + 1))))) = .ok (.int z) (M.set i (.dct (fkv (.lst (ns.map .int)) (.int (a + 1)) (.int l) (.int (k + 1))))) := by
      by_cases hn : ns = []
      · subst hn
        refine ⟨c3, fun env e0 e2 => ?_⟩
        simp only [cellE, lkK_val, pkK_own, x_cint, x_cstr, x_cbl, x_cnon, x_var, x_glob, x_fnv, x_tup, x_lst, x_bin, x_neg, x_cmp, x_andv, x_orv, x_one, x_notv, x_ife, x_idx, x_dgt, x_slc, x_call, x_blt, x_isi, x_comp, x_dsp, xs_nil, xs_cons, xp_nil, xp_cons, xo_non, xo_som, xt_val, xt_cmp, xt_not, xt_and, xt_or, xt_one, xq_nil, xq_one, xi_seq, xi_rng1, xi_rng2, pk_own, pk_cint, pk_cstr, pk_cbl, pk_cnon, pk_var, pk_glob, pk_fnv, pk_tup, pk_lst, pk_bin, pk_neg, pk_cmp, pk_andv, pk_orv, pk_one, pk_notv, pk_ife, pk_idx, pk_dgt, pk_slc, pk_call, pk_blt, pk_isi, pk_comp, pk_dsp, k_tup, k_lst, k_con1, k_pcon1, k_con2, k_bin1, k_cmp1, k_idx1, k_dgt1, k_slc1, k_slc2, k_neg, k_not, k_non, k_ifeT, k_ifeF, k_cal1, k_cal2, k_cal3, k_isi, k_intO, k_bl, k_tcmp1, k_tnot, k_tandT, k_tandF, k_torT, k_torF, k_dsp, k_seqT, k_seqL, k_comp, d_add, d_sub, d_lt, d_le, d_gt, d_ge, d_min, d_max, d_abs, d_lenT, d_lenL, d_tupL, d_tupT, d_lstL, d_lstT, i_t0, i_l0, i_t1, i_l1, i_t2, i_l2, i_t3, i_l3, i_t4, i_l4, i_t5, i_l5, i_t6, i_l6, i_t7, i_l7, tr_bl, tr_int, tr_non, tr_tup, tr_lst, y_nil, y_cons, y_next, y_ret, y_brk, y_cnt, y_asg, y_par, y_par1, y_par2, y_ownL, y_ownK, y_app, y_appK, y_app2, y_aug, y_augK, y_augA, y_augS, y_setd, y_set1, y_set2, y_set3, y_set4, y_expr, y_exprK, y_ret1, y_retK, y_retn, y_ifs, y_ifsT, y_ifsF, y_forr, y_forK, y_whil, y_pas, y_brk1, y_cnt1, y_frz, y_frzK, y_asgK, fin_ret, fin_next, g_nm, g_tp, g_nil, g_cons, Res.bind_ok, SRes.of_ok, Option.bind_some, List.getElem?_cons_zero, List.getElem?_cons_succ, List.set_cons_zero, List.set_cons_succ, List.length_cons, List.length_nil, if_true, if_false, Nat.reduceAdd, Nat.reduceLT, Nat.zero_add, decide_true, decide_false, Bool.not_true, Bool.not_false, not_true_eq_false, not_false_eq_true, eq_self, e0, e2, rd_cells hM2, d_neNil]
      · obtain ⟨z, hz⟩ := cell_ix (M := M.set i (.dct (fkv (.lst (ns.map .int)) (.int (a + 1)) (.int l) (.int (k + 1))))) (a := a) hn
        have hl1 : (0 : Int) < ((ns.map D.int).length : Nat) := by
          rw [List.length_map]
          have := List.length_pos_iff.mpr hn
          omega
        refine ⟨z, fun env e0 e2 => ?_⟩
        simp only [cellE, lkK_val, pkK_own, x_cint, x_cstr, x_cbl, x_cnon, x_var, x_glob, x_fnv, x_tup, x_lst, x_bin, x_neg, x_cmp, x_andv, x_orv, x_one, x_notv, x_ife, x_idx, x_dgt, x_slc, x_call, x_blt, x_isi, x_comp, x_dsp, xs_nil, xs_cons, xp_nil, xp_cons, xo_non, xo_som, xt_val, xt_cmp, xt_not, xt_and, xt_or, xt_one, xq_nil, xq_one, xi_seq, xi_rng1, xi_rng2, pk_own, pk_cint, pk_cstr, pk_cbl, pk_cnon, pk_var, pk_glob, pk_fnv, pk_tup, pk_lst, pk_bin, pk_neg, pk_cmp, pk_andv, pk_orv, pk_one, pk_notv, pk_ife, pk_idx, pk_dgt, pk_slc, pk_call, pk_blt, pk_isi, pk_comp, pk_dsp, k_tup, k_lst, k_con1, k_pcon1, k_con2, k_bin1, k_cmp1, k_idx1, k_dgt1, k_slc1, k_slc2, k_neg, k_not, k_non, k_ifeT, k_ifeF, k_cal1, k_cal2, k_cal3, k_isi, k_intO, k_bl, k_tcmp1, k_tnot, k_tandT, k_tandF, k_torT, k_torF, k_dsp, k_seqT, k_seqL, k_comp, d_add, d_sub, d_lt, d_le, d_gt, d_ge, d_min, d_max, d_abs, d_lenT, d_lenL, d_tupL, d_tupT, d_lstL, d_lstT, i_t0, i_l0, i_t1, i_l1, i_t2, i_l2, i_t3, i_l3, i_t4, i_l4, i_t5, i_l5, i_t6, i_l6, i_t7, i_l7, tr_bl, tr_int, tr_non, tr_tup, tr_lst, y_nil, y_cons, y_next, y_ret, y_brk, y_cnt, y_asg, y_par, y_par1, y_par2, y_ownL, y_ownK, y_app, y_appK, y_app2, y_aug, y_augK, y_augA, y_augS, y_setd, y_set1, y_set2, y_set3, y_set4, y_expr, y_exprK, y_ret1, y_retK, y_retn, y_ifs, y_ifsT, y_ifsF, y_forr, y_forK, y_whil, y_pas, y_brk1, y_cnt1, y_frz, y_frzK, y_asgK, fin_ret, fin_next, g_nm, g_tp, g_nil, g_cons, Res.bind_ok, SRes.of_ok, Option.bind_some, List.getElem?_cons_zero, List.getElem?_cons_succ, List.set_cons_zero, List.set_cons_succ, List.length_cons, List.length_nil, if_true, if_false, Nat.reduceAdd, Nat.reduceLT, Nat.zero_add, decide_true, decide_false, Bool.not_true, Bool.not_false, not_true_eq_false, not_false_eq_true, eq_self, e0, e2, rd_cells hM2, d_neNil, hn, d_mod hl1, hz]
    obtain ⟨z, hz⟩ := cell
    have hpw : binD .pow (.int p) (.int e) (M.set i (.dct (fkv (.lst (ns.map .int)) (.int (a + 1)) (.int l) (.int (k + 1))))) = .ok (.int (p ^ e.toNat)) (M.set i (.dct (fkv (.lst (ns.map .int)) (.int (a + 1)) (.int l) (.int (k + 1))))) := d_pow ⟨hp0.1, hp0.2.1, hp0.2.2.1⟩
    have mix : ∀ z : Int, fin (evSs c (mixB c4 c5 c6 c7 c8 c9 c10 c11 c12 c13) [.val (.obj i), .val (.int m), .val (.int a), .val (.int z), .non, .non] (M.set i (.dct (fkv (.lst (ns.map .int)) (.int (a + 1)) (.int l) (.int (k + 1)))))) =
        .ok (.int ((((((z % c4 + c5 * (k + 1) + c6) % c7) * ((z % c4 + c5 * (k + 1) + c6) % c7) + c8 * (k + 1) + c9) % c10 * (((z % c4 + c5 * (k + 1) + c6) % c7 * ((z % c4 + c5 * (k + 1) + c6) % c7) + c8 * (k + 1) + c9) % c10) + c11 * (((z % c4 + c5 * (k + 1) + c6) % c7 * ((z % c4 + c5 * (k + 1) + c6) % c7) + c8 * (k + 1) + c9) % c10)) % c12 / c13) % m)) (M.set i (.dct (fkv (.lst (ns.map .int)) (.int (a + 1)) (.int l) (.int (k + 1))))) := by
      intro z
      have u0 := Int.emod_nonneg (z % c4 + c5 * (k + 1) + c6) (show c7 ≠ 0 by have := h7.pos; omega)
      have u1 := Int.emod_lt_of_pos (z % c4 + c5 * (k + 1) + c6) h7.pos
      have w1 : widthOk c5 (k + 1) = true := widthOk_of h5.w (w2 (by omega) (by omega))
      have w8 : widthOk c8 (k + 1) = true := widthOk_of h8.w (w2 (by omega) (by omega))
      have s7 := h7.sm
      have s10 := h10.sm
      have uw := ww (i := (z % c4 + c5 * (k + 1) + c6) % c7) (j := (z % c4 + c5 * (k + 1) + c6) % c7) (by omega) (by omega) (by omega) (by omega)
      have v0 := Int.emod_nonneg ((z % c4 + c5 * (k + 1) + c6) % c7 * ((z % c4 + c5 * (k + 1) + c6) % c7) + c8 * (k + 1) + c9) (show c10 ≠ 0 by have := h10.pos; omega)
      have v1 := Int.emod_lt_of_pos ((z % c4 + c5 * (k + 1) + c6) % c7 * ((z % c4 + c5 * (k + 1) + c6) % c7) + c8 * (k + 1) + c9) h10.pos
      have vw := ww (i := ((z % c4 + c5 * (k + 1) + c6) % c7 * ((z % c4 + c5 * (k + 1) + c6) % c7) + c8 * (k + 1) + c9) % c10) (j := ((z % c4 + c5 * (k + 1) + c6) % c7 * ((z % c4 + c5 * (k + 1) + c6) % c7) + c8 * (k + 1) + c9) % c10) (by omega) (by omega) (by omega) (by omega)
      have xw := widthOk_of h11.w (w2 (i := ((z % c4 + c5 * (k + 1) + c6) % c7 * ((z % c4 + c5 * (k + 1) + c6) % c7) + c8 * (k + 1) + c9) % c10) (by omega) (by omega))
      simp only [mixB, lkK_val, pkK_own, x_cint, x_cstr, x_cbl, x_cnon, x_var, x_glob, x_fnv, x_tup, x_lst, x_bin, x_neg, x_cmp, x_andv, x_orv, x_one, x_notv, x_ife, x_idx, x_dgt, x_slc, x_call, x_blt, x_isi, x_comp, x_dsp, xs_nil, xs_cons, xp_nil, xp_cons, xo_non, xo_som, xt_val, xt_cmp, xt_not, xt_and, xt_or, xt_one, xq_nil, xq_one, xi_seq, xi_rng1, xi_rng2, pk_own, pk_cint, pk_cstr, pk_cbl, pk_cnon, pk_var, pk_glob, pk_fnv, pk_tup, pk_lst, pk_bin, pk_neg, pk_cmp, pk_andv, pk_orv, pk_one, pk_notv, pk_ife, pk_idx, pk_dgt, pk_slc, pk_call, pk_blt, pk_isi, pk_comp, pk_dsp, k_tup, k_lst, k_con1, k_pcon1, k_con2, k_bin1, k_cmp1, k_idx1, k_dgt1, k_slc1, k_slc2, k_neg, k_not, k_non, k_ifeT, k_ifeF, k_cal1, k_cal2, k_cal3, k_isi, k_intO, k_bl, k_tcmp1, k_tnot, k_tandT, k_tandF, k_torT, k_torF, k_dsp, k_seqT, k_seqL, k_comp, d_add, d_sub, d_lt, d_le, d_gt, d_ge, d_min, d_max, d_abs, d_lenT, d_lenL, d_tupL, d_tupT, d_lstL, d_lstT, i_t0, i_l0, i_t1, i_l1, i_t2, i_l2, i_t3, i_l3, i_t4, i_l4, i_t5, i_l5, i_t6, i_l6, i_t7, i_l7, tr_bl, tr_int, tr_non, tr_tup, tr_lst, y_nil, y_cons, y_next, y_ret, y_brk, y_cnt, y_asg, y_par, y_par1, y_par2, y_ownL, y_ownK, y_app, y_appK, y_app2, y_aug, y_augK, y_augA, y_augS, y_setd, y_set1, y_set2, y_set3, y_set4, y_expr, y_exprK, y_ret1, y_retK, y_retn, y_ifs, y_ifsT, y_ifsF, y_forr, y_forK, y_whil, y_pas, y_brk1, y_cnt1, y_frz, y_frzK, y_asgK, fin_ret, fin_next, g_nm, g_tp, g_nil, g_cons, Res.bind_ok, SRes.of_ok, Option.bind_some, List.getElem?_cons_zero, List.getElem?_cons_succ, List.set_cons_zero, List.set_cons_succ, List.length_cons, List.length_nil, if_true, if_false, Nat.reduceAdd, Nat.reduceLT, Nat.zero_add, decide_true, decide_false, Bool.not_true, Bool.not_false, not_true_eq_false, not_false_eq_true, eq_self, d_mod h4.pos, d_mul w1, rd_count hM2, d_mod h7.pos, d_mul uw, d_mul w8, d_mod h10.pos, d_mul vw, d_mul xw, d_mod h12.pos, d_fdiv h13.pos h13.w, d_mod hm]
    have out : ∀ z : Int, ∃ r, fin (evSs c (mixB c4 c5 c6 c7 c8 c9 c10 c11 c12 c13) [.val (.obj i), .val (.int m), .val (.int a), .val (.int z), .non, .non] (M.set i (.dct (fkv (.lst (ns.map .int)) (.int (a + 1)) (.int l) (.int (k + 1)))))) = .ok (.int r) (M.set i (.dct (fkv (.lst (ns.map .int)) (.int (a + 1)) (.int l) (.int (k + 1))))) ∧ 0 ≤ r ∧ r < m :=
      fun z => ⟨_, mix z, Int.emod_nonneg _ (by omega), Int.emod_lt_of_pos _ hm⟩
    have ok2 := feed (a + 1) l (by omega) hl
    by_cases hz1 : p ^ e.toNat ≤ z
    · by_cases hz2 : a < ((ns.map D.int).length : Nat)
      · have z0 : 0 ≤ z := Int.le_trans hp0.2.2.2 hz1
        refine ⟨z % m, M.set i (.dct (fkv (.lst (ns.map .int)) (.int (a + 1)) (.int (z / m)) (.int (k + 1)))), ?_, Int.emod_nonneg z (by omega), Int.emod_lt_of_pos z hm, feed _ _ (by omega) (Int.ediv_nonneg z0 (by omega)), List.length_set, fun j hj => same _ j hj⟩
        simp only [drawB, lkK_val, pkK_own, x_cint, x_cstr, x_cbl, x_cnon, x_var, x_glob, x_fnv, x_tup, x_lst, x_bin, x_neg, x_cmp, x_andv, x_orv, x_one, x_notv, x_ife, x_idx, x_dgt, x_slc, x_call, x_blt, x_isi, x_comp, x_dsp, xs_nil, xs_cons, xp_nil, xp_cons, xo_non, xo_som, xt_val, xt_cmp, xt_not, xt_and, xt_or, xt_one, xq_nil, xq_one, xi_seq, xi_rng1, xi_rng2, pk_own, pk_cint, pk_cstr, pk_cbl, pk_cnon, pk_var, pk_glob, pk_fnv, pk_tup, pk_lst, pk_bin, pk_neg, pk_cmp, pk_andv, pk_orv, pk_one, pk_notv, pk_ife, pk_idx, pk_dgt, pk_slc, pk_call, pk_blt, pk_isi, pk_comp, pk_dsp, k_tup, k_lst, k_con1, k_pcon1, k_con2, k_bin1, k_cmp1, k_idx1, k_dgt1, k_slc1, k_slc2, k_neg, k_not, k_non, k_ifeT, k_ifeF, k_cal1, k_cal2, k_cal3, k_isi, k_intO, k_bl, k_tcmp1, k_tnot, k_tandT, k_tandF, k_torT, k_torF, k_dsp, k_seqT, k_seqL, k_comp, d_add, d_sub, d_lt, d_le, d_gt, d_ge, d_min, d_max, d_abs, d_lenT, d_lenL, d_tupL, d_tupT, d_lstL, d_lstT, i_t0, i_l0, i_t1, i_l1, i_t2, i_l2, i_t3, i_l3, i_t4, i_l4, i_t5, i_l5, i_t6, i_l6, i_t7, i_l7, tr_bl, tr_int, tr_non, tr_tup, tr_lst, y_nil, y_cons, y_next, y_ret, y_brk, y_cnt, y_asg, y_par, y_par1, y_par2, y_ownL, y_ownK, y_app, y_appK, y_app2, y_aug, y_augK, y_augA, y_augS, y_setd, y_set1, y_set2, y_set3, y_set4, y_expr, y_exprK, y_ret1, y_retK, y_retn, y_ifs, y_ifsT, y_ifsF, y_forr, y_forK, y_whil, y_pas, y_brk1, y_cnt1, y_frz, y_frzK, y_asgK, fin_ret, fin_next, g_nm, g_tp, g_nil, g_cons, Res.bind_ok, SRes.of_ok, Option.bind_some, List.getElem?_cons_zero, List.getElem?_cons_succ, List.set_cons_zero, List.set_cons_succ, List.length_cons, List.length_nil, if_true, if_false, Nat.reduceAdd, Nat.reduceLT, Nat.zero_add, decide_true, decide_false, Bool.not_true, Bool.not_false, not_true_eq_false, not_false_eq_true, eq_self, rd_count hM, wr_count hM, rd_left hM1, hl0, rd_at hM1, wr_at hM1, List.set_set, hz, hpw, hz1, rd_cells hM2, hz2, d_fdiv hm hmw, d_mod hm, wr_left hM2]
      · obtain ⟨r, hr, r0, r1⟩ := out z
        refine ⟨r, _, ?_, r0, r1, ok2, List.length_set, fun j hj => same _ j hj⟩
        rw [← hr]
        simp only [drawB, lkK_val, pkK_own, x_cint, x_cstr, x_cbl, x_cnon, x_var, x_glob, x_fnv, x_tup, x_lst, x_bin, x_neg, x_cmp, x_andv, x_orv, x_one, x_notv, x_ife, x_idx, x_dgt, x_slc, x_call, x_blt, x_isi, x_comp, x_dsp, xs_nil, xs_cons, xp_nil, xp_cons, xo_non, xo_som, xt_val, xt_cmp, xt_not, xt_and, xt_or, xt_one, xq_nil, xq_one, xi_seq, xi_rng1, xi_rng2, pk_own, pk_cint, pk_cstr, pk_cbl, pk_cnon, pk_var, pk_glob, pk_fnv, pk_tup, pk_lst, pk_bin, pk_neg, pk_cmp, pk_andv, pk_orv, pk_one, pk_notv, pk_ife, pk_idx, pk_dgt, pk_slc, pk_call, pk_blt, pk_isi, pk_comp, pk_dsp, k_tup, k_lst, k_con1, k_pcon1, k_con2, k_bin1, k_cmp1, k_idx1, k_dgt1, k_slc1, k_slc2, k_neg, k_not, k_non, k_ifeT, k_ifeF, k_cal1, k_cal2, k_cal3, k_isi, k_intO, k_bl, k_tcmp1, k_tnot, k_tandT, k_tandF, k_torT, k_torF, k_dsp, k_seqT, k_seqL, k_comp, d_add, d_sub, d_lt, d_le, d_gt, d_ge, d_min, d_max, d_abs, d_lenT, d_lenL, d_tupL, d_tupT, d_lstL, d_lstT, i_t0, i_l0, i_t1, i_l1, i_t2, i_l2, i_t3, i_l3, i_t4, i_l4, i_t5, i_l5, i_t6, i_l6, i_t7, i_l7, tr_bl, tr_int, tr_non, tr_tup, tr_lst, y_nil, y_cons, y_next, y_ret, y_brk, y_cnt, y_asg, y_par, y_par1, y_par2, y_ownL, y_ownK, y_app, y_appK, y_app2, y_aug, y_augK, y_augA, y_augS, y_setd, y_set1, y_set2, y_set3, y_set4, y_expr, y_exprK, y_ret1, y_retK, y_retn, y_ifs, y_ifsT, y_ifsF, y_forr, y_forK, y_whil, y_pas, y_brk1, y_cnt1, y_frz, y_frzK, y_asgK, fin_ret, fin_next, g_nm, g_tp, g_nil, g_cons, Res.bind_ok, SRes.of_ok, Option.bind_some, List.getElem?_cons_zero, List.getElem?_cons_succ, List.set_cons_zero, List.set_cons_succ, List.length_cons, List.length_nil, if_true, if_false, Nat.reduceAdd, Nat.reduceLT, Nat.zero_add, decide_true, decide_false, Bool.not_true, Bool.not_false, not_true_eq_false, not_false_eq_true, eq_self, rd_count hM, wr_count hM, rd_left hM1, hl0, rd_at hM1, wr_at hM1, List.set_set, hz, hpw, hz1, rd_cells hM2, hz2, mixB]
    · obtain ⟨r, hr, r0, r1⟩ := out z
      refine ⟨r, _, ?_, r0, r1, ok2, List.length_set, fun j hj => same _ j hj⟩
      rw [← hr]
      simp only [drawB, lkK_val, pkK_own, x_cint, x_cstr, x_cbl, x_cnon, x_var, x_glob, x_fnv, x_tup, x_lst, x_bin, x_neg, x_cmp, x_andv, x_orv, x_one, x_notv, x_ife, x_idx, x_dgt, x_slc, x_call, x_blt, x_isi, x_comp, x_dsp, xs_nil, xs_cons, xp_nil, xp_cons, xo_non, xo_som, xt_val, xt_cmp, xt_not, xt_and, xt_or, xt_one, xq_nil, xq_one, xi_seq, xi_rng1, xi_rng2, pk_own, pk_cint, pk_cstr, pk_cbl, pk_cnon, pk_var, pk_glob, pk_fnv, pk_tup, pk_lst, pk_bin, pk_neg, pk_cmp, pk_andv, pk_orv, pk_one, pk_notv, pk_ife, pk_idx, pk_dgt, pk_slc, pk_call, pk_blt, pk_isi, pk_comp, pk_dsp, k_tup, k_lst, k_con1, k_pcon1, k_con2, k_bin1, k_cmp1, k_idx1, k_dgt1, k_slc1, k_slc2, k_neg, k_not, k_non, k_ifeT, k_ifeF, k_cal1, k_cal2, k_cal3, k_isi, k_intO, k_bl, k_tcmp1, k_tnot, k_tandT, k_tandF, k_torT, k_torF, k_dsp, k_seqT, k_seqL, k_comp, d_add, d_sub, d_lt, d_le, d_gt, d_ge, d_min, d_max, d_abs, d_lenT, d_lenL, d_tupL, d_tupT, d_lstL, d_lstT, i_t0, i_l0, i_t1, i_l1, i_t2, i_l2, i_t3, i_l3, i_t4, i_l4, i_t5, i_l5, i_t6, i_l6, i_t7, i_l7, tr_bl, tr_int, tr_non, tr_tup, tr_lst, y_nil, y_cons, y_next, y_ret, y_brk, y_cnt, y_asg, y_par, y_par1, y_par2, y_ownL, y_ownK, y_app, y_appK, y_app2, y_aug, y_augK, y_augA, y_augS, y_setd, y_set1, y_set2, y_set3, y_set4, y_expr, y_exprK, y_ret1, y_retK, y_retn, y_ifs, y_ifsT, y_ifsF, y_forr, y_forK, y_whil, y_pas, y_brk1, y_cnt1, y_frz, y_frzK, y_asgK, fin_ret, fin_next, g_nm, g_tp, g_nil, g_cons, Res.bind_ok, SRes.of_ok, Option.bind_some, List.getElem?_cons_zero, List.getElem?_cons_succ, List.set_cons_zero, List.set_cons_succ, List.length_cons, List.length_nil, if_true, if_false, Nat.reduceAdd, Nat.reduceLT, Nat.zero_add, decide_true, decide_false, Bool.not_true, Bool.not_false, not_true_eq_false, not_false_eq_true, eq_self, rd_count hM, wr_count hM, rd_left hM1, hl0, rd_at hM1, wr_at hM1, List.set_set, hz, hpw, hz1, mixB]
end
end Mp
end

section
set_option Elab.async false
set_option linter.all false
set_option maxRecDepth 100000
set_option maxHeartbeats 0
/-! the defs of law_k20_tokens_told (printed by gen.py) -/
namespace Mp.Lw
open PySem PySem.Spec L2
open Mp (Fn)
def topS (i : Nat) : Stmt := PySem.Challenge.pw_tenanthall_k20_tokens_told.main.body.getD i (.Pass ⟨0, 0, 0, 0⟩)
/-- ratio [over, under, one, other] -/
def f0 : Mp.Fn := ⟨2, 4, [.par 2 3 (.var 0) (.var 1), .whil (.cmp .gt (.var 3) (.cint 0)) [.par 2 3 (.var 3) (.bin .mod (.var 2) (.var 3))], .ret (.tup (.cons (.bin .fdiv (.var 0) (.var 2)) (.cons (.bin .fdiv (.var 1) (.var 2)) .nil)))]⟩
/-- added [one, other] -/
def f1 : Mp.Fn := ⟨2, 2, [.ret (.call 0 0 (.cons (.bin .add (.bin .mul (.idx (.var 0) (.cint 0)) (.idx (.var 1) (.cint 1))) (.bin .mul (.idx (.var 1) (.cint 0)) (.idx (.var 0) (.cint 1)))) (.cons (.bin .mul (.idx (.var 0) (.cint 1)) (.idx (.var 1) (.cint 1))) .nil)) (.nil))]⟩
/-- is_less [one, other] -/
def f2 : Mp.Fn := ⟨2, 2, [.ret (.cmp .lt (.bin .mul (.idx (.var 0) (.cint 0)) (.idx (.var 1) (.cint 1))) (.bin .mul (.idx (.var 1) (.cint 0)) (.idx (.var 0) (.cint 1))))]⟩
/-- lesser [one, other] -/
def f3 : Mp.Fn := ⟨2, 2, [.ret (.ife (.val (.call 2 0 (.cons (.var 1) (.cons (.var 0) .nil)) (.nil))) (.var 1) (.var 0))]⟩
/-- wholes [fraction] -/
def f4 : Mp.Fn := ⟨1, 1, [.ret (.bin .fdiv (.idx (.var 0) (.cint 0)) (.idx (.var 0) (.cint 1)))]⟩
/-- grown [tokens, share] -/
def f5 : Mp.Fn := ⟨2, 2, [.ret (.call 3 0 (.cons (.call 1 0 (.cons (.var 0) (.cons (.idx (.var 1) (.cint 0)) .nil)) (.nil)) (.cons (.tup (.cons (.idx (.var 1) (.cint 1)) (.cons (.cint 1) .nil))) .nil)) (.nil))]⟩
/-- paid [tokens, cost, many] -/
def f6 : Mp.Fn := ⟨2, 3, [.asg (.nm 2) (.blt .min (.cons (.call 4 0 (.cons (.var 0) .nil) (.nil)) (.cons (.var 1) .nil))), .ret (.tup (.cons (.call 0 0 (.cons (.bin .sub (.idx (.var 0) (.cint 0)) (.bin .mul (.var 2) (.idx (.var 0) (.cint 1)))) (.cons (.idx (.var 0) (.cint 1)) .nil)) (.nil)) (.cons (.var 2) .nil)))]⟩
/-- pace_of [share, ticks, tokens, found, tick, many] -/
def f7 : Mp.Fn := ⟨3, 6, [.ownL 3 (.nil), .forr (.nm 4) (.rng1 (.var 1)) [.asg (.nm 2) (.call 5 0 (.cons (.var 2) (.cons (.var 0) .nil)) (.nil)), .asg (.tp [.nm 2, .nm 5]) (.call 6 0 (.cons (.var 2) (.cons (.call 4 0 (.cons (.var 2) .nil) (.nil)) .nil)) (.nil)), .app 3 (.var 5)], .ret (.blt .tuple (.cons (.own 3) .nil))]⟩
/-- _law_feed [_law_script] -/
def f8 : Mp.Fn := ⟨1, 1, [.ret (.dsp ["cells", "at", "left", "count"] (.cons (.blt .list (.cons (.slc (.var 0) .non (.som (.cint 63))) .nil)) (.cons (.cint 0) (.cons (.cint 0) (.cons (.cint 0) .nil)))))]⟩
/-- _law_draw [_law_feed_here, _law_many, _law_at, _law_cell, _law_mixed, _law_figure] -/
def f9 : Mp.Fn := ⟨2, 6, [.setd (.var 0) (.cstr "count") (.bin .add (.dgt (.var 0) (.cstr "count")) (.cint 1)), .ifs (.cmp .gt (.dgt (.var 0) (.cstr "left")) (.cint 0)) [.asg (.nm 5) (.bin .mod (.dgt (.var 0) (.cstr "left")) (.var 1)), .setd (.var 0) (.cstr "left") (.bin .fdiv (.dgt (.var 0) (.cstr "left")) (.var 1)), .ret (.var 5)] [], .asg (.nm 2) (.dgt (.var 0) (.cstr "at")), .setd (.var 0) (.cstr "at") (.bin .add (.var 2) (.cint 1)), .asg (.nm 3) (.ife (.cmp .ne (.dgt (.var 0) (.cstr "cells")) (.lst (.nil))) (.idx (.dgt (.var 0) (.cstr "cells")) (.bin .mod (.var 2) (.blt .len (.cons (.dgt (.var 0) (.cstr "cells")) .nil)))) (.cint 31)), .ifs (.and (.cmp .ge (.var 3) (.bin .pow (.cint 10) (.cint 18))) (.one (.cmp .lt (.var 2) (.blt .len (.cons (.dgt (.var 0) (.cstr "cells")) .nil))))) [.setd (.var 0) (.cstr "left") (.bin .fdiv (.var 3) (.var 1)), .ret (.bin .mod (.var 3) (.var 1))] [], .asg (.nm 4) (.bin .mod (.bin .add (.bin .add (.bin .mod (.var 3) (.cint 1000000403)) (.bin .mul (.cint 80209) (.dgt (.var 0) (.cstr "count")))) (.cint 83)) (.cint 2147483563)), .asg (.nm 4) (.bin .mod (.bin .add (.bin .add (.bin .mul (.var 4) (.var 4)) (.bin .mul (.cint 5928373) (.dgt (.var 0) (.cstr "count")))) (.cint 53)) (.cint 2147483543)), .ret (.bin .mod (.bin .fdiv (.bin .mod (.bin .add (.bin .mul (.var 4) (.var 4)) (.bin .mul (.cint 43) (.var 4))) (.cint 2147483489)) (.cint 16)) (.var 1))]⟩
/-- _law_frac [_law_over, _law_under, _law_one, _law_other] -/
def f10 : Mp.Fn := ⟨2, 4, [.par 2 3 (.blt .abs (.cons (.var 0) .nil)) (.var 1), .whil (.cmp .gt (.var 3) (.cint 0)) [.par 2 3 (.var 3) (.bin .mod (.var 2) (.var 3))], .ret (.ife (.cmp .gt (.var 2) (.cint 0)) (.tup (.cons (.bin .fdiv (.var 0) (.var 2)) (.cons (.bin .fdiv (.var 1) (.var 2)) .nil))) (.tup (.cons (.cint 0) (.cons (.cint 1) .nil))))]⟩
/-- _law_plus [_law_one, _law_other] -/
def f11 : Mp.Fn := ⟨2, 2, [.ret (.call 10 0 (.cons (.bin .add (.bin .mul (.idx (.var 0) (.cint 0)) (.idx (.var 1) (.cint 1))) (.bin .mul (.idx (.var 1) (.cint 0)) (.idx (.var 0) (.cint 1)))) (.cons (.bin .mul (.idx (.var 0) (.cint 1)) (.idx (.var 1) (.cint 1))) .nil)) (.nil))]⟩
/-- _law_less [_law_one, _law_other] -/
def f12 : Mp.Fn := ⟨2, 2, [.ret (.cmp .lt (.bin .mul (.idx (.var 0) (.cint 0)) (.idx (.var 1) (.cint 1))) (.bin .mul (.idx (.var 1) (.cint 0)) (.idx (.var 0) (.cint 1))))]⟩
/-- _law_share [_law_feed_here, _law_some] -/
def f13 : Mp.Fn := ⟨1, 2, [.asg (.nm 1) (.lst (.cons (.tup (.cons (.cint 1) (.cons (.cint 2) .nil))) (.cons (.tup (.cons (.cint 1) (.cons (.cint 1) .nil))) (.cons (.tup (.cons (.cint 3) (.cons (.cint 2) .nil))) (.cons (.tup (.cons (.cint 2) (.cons (.cint 1) .nil))) (.cons (.tup (.cons (.cint 5) (.cons (.cint 3) .nil))) (.cons (.tup (.cons (.cint 7) (.cons (.cint 4) .nil))) (.cons (.tup (.cons (.cint 0) (.cons (.cint 1) .nil))) (.cons (.tup (.cons (.cint 1) (.cons (.cint 3) .nil))) (.cons (.tup (.cons (.cint 3) (.cons (.cint 1) .nil))) .nil)))))))))), .ret (.tup (.cons (.idx (.var 1) (.call 9 0 (.cons (.var 0) (.cons (.cint 9) .nil)) (.nil))) (.cons (.bin .add (.cint 1) (.call 9 0 (.cons (.var 0) (.cons (.cint 6) .nil)) (.nil))) .nil)))]⟩
/-- _law_more [_law_held, _law_share_here, _law_more_here, _law_top] -/
def f14 : Mp.Fn := ⟨2, 4, [.par 2 3 (.call 11 0 (.cons (.var 0) (.cons (.idx (.var 1) (.cint 0)) .nil)) (.nil)) (.tup (.cons (.idx (.var 1) (.cint 1)) (.cons (.cint 1) .nil))), .ret (.ife (.val (.call 12 0 (.cons (.var 3) (.cons (.var 2) .nil)) (.nil))) (.var 3) (.var 2))]⟩
/-- _law_pace [_law_share_here, _law_span, _law_held, _law_found, _law_lap] -/
def f15 : Mp.Fn := ⟨3, 5, [.ownL 3 (.nil), .forr (.nm 4) (.rng1 (.var 1)) [.asg (.nm 2) (.call 14 0 (.cons (.var 2) (.cons (.var 0) .nil)) (.nil)), .app 3 (.bin .fdiv (.idx (.var 2) (.cint 0)) (.idx (.var 2) (.cint 1))), .asg (.nm 2) (.call 10 0 (.cons (.bin .mod (.idx (.var 2) (.cint 0)) (.idx (.var 2) (.cint 1))) (.cons (.idx (.var 2) (.cint 1)) .nil)) (.nil))], .ret (.blt .tuple (.cons (.own 3) .nil))]⟩
/-- law [_law_script, _law_feed_here, _law_lap, _law_share_here, _law_held, _law_price, _law_span, _law_due, _law_told, _law_seen, _law_pays] -/
def f16 : Mp.Fn := ⟨1, 11, [.asg (.nm 1) (.call 8 0 (.cons (.var 0) .nil) (.nil)), .forr (.nm 2) (.rng1 (.cint 14)) [.asg (.nm 3) (.ife (.cmp .lt (.var 2) (.cint 12)) (.call 13 0 (.cons (.var 1) .nil) (.nil)) (.tup (.cons (.tup (.cons (.cint 999983) (.cons (.cint 2) .nil))) (.cons (.bin .sub (.bin .pow (.cint 10) (.cint 6)) (.bin .mul (.cint 13) (.call 9 0 (.cons (.var 1) (.cons (.cint 3) .nil)) (.nil)))) .nil)))), .asg (.nm 4) (.call 10 0 (.cons (.call 9 0 (.cons (.var 1) (.cons (.cint 12) .nil)) (.nil)) (.cons (.bin .add (.cint 1) (.call 9 0 (.cons (.var 1) (.cons (.cint 4) .nil)) (.nil))) .nil)) (.nil)), .asg (.nm 4) (.ife (.cmp .lt (.var 2) (.cint 12)) (.var 4) (.call 10 0 (.cons (.bin .sub (.bin .sub (.bin .pow (.cint 10) (.cint 6)) (.cint 40)) (.call 9 0 (.cons (.var 1) (.cons (.cint 9) .nil)) (.nil))) (.cons (.cint 1) .nil)) (.nil))), .asg (.nm 4) (.ife (.not (.val (.call 12 0 (.cons (.tup (.cons (.idx (.var 3) (.cint 1)) (.cons (.cint 1) .nil))) (.cons (.var 4) .nil)) (.nil)))) (.var 4) (.tup (.cons (.idx (.var 3) (.cint 1)) (.cons (.cint 1) .nil)))), .asg (.nm 5) (.ife (.cmp .eq (.var 2) (.cint 13)) (.bin .pow (.cint 10) (.cint 6)) (.cint 100)), .asg (.nm 6) (.call 9 0 (.cons (.var 1) (.cons (.cint 21) .nil)) (.nil)), .asg (.nm 5) (.ife (.cmp .lt (.var 2) (.cint 12)) (.idx (.lst (.cons (.cint 0) (.cons (.cint 1) (.cons (.cint 2) (.cons (.cint 5) (.cons (.cint 100) (.cons (.bin .pow (.cint 10) (.cint 6)) .nil))))))) (.call 9 0 (.cons (.var 1) (.cons (.cint 6) .nil)) (.nil))) (.var 5)), .par 9 10 (.blt .repr (.cons (.tup (.cons (.var 3) (.cons (.var 4) .nil))) .nil)) (.blt .min (.cons (.var 5) (.cons (.bin .fdiv (.idx (.var 4) (.cint 0)) (.idx (.var 4) (.cint 1))) .nil))), .asg (.nm 7) (.tup (.cons (.call 14 0 (.cons (.var 4) (.cons (.var 3) .nil)) (.nil)) (.cons (.tup (.cons (.call 10 0 (.cons (.bin .sub (.idx (.var 4) (.cint 0)) (.bin .mul (.var 10) (.idx (.var 4) (.cint 1)))) (.cons (.idx (.var 4) (.cint 1)) .nil)) (.nil)) (.cons (.var 10) .nil))) .nil))), .ifs (.cmp .ne (.blt .repr (.cons (.tup (.cons (.call 5 0 (.cons (.var 4) (.cons (.var 3) .nil)) (.nil)) (.cons (.call 6 0 (.cons (.var 4) (.cons (.var 5) .nil)) (.nil)) .nil))) .nil)) (.blt .repr (.cons (.var 7) .nil))) [.ret (.cbl false)] [], .asg (.nm 7) (.tup (.cons (.call 15 0 (.cons (.var 3) (.cons (.var 6) (.cons (.var 4) .nil))) (.nil)) (.cons (.call 15 0 (.cons (.var 3) (.cons (.var 6) (.cons (.tup (.cons (.cint 0) (.cons (.cint 1) .nil))) .nil))) (.nil)) .nil))), .asg (.nm 8) (.tup (.cons (.call 7 0 (.cons (.var 3) (.cons (.var 6) .nil)) (.cons (.var 4) .nil)) (.cons (.call 7 1 (.cons (.var 3) (.cons (.var 6) .nil)) (.nil)) .nil))), .ifs (.or (.cmp .ne (.blt .repr (.cons (.var 8) .nil)) (.blt .repr (.cons (.var 7) .nil))) (.one (.cmp .ne (.blt .repr (.cons (.tup (.cons (.var 3) (.cons (.var 4) .nil))) .nil)) (.var 9)))) [.ret (.cbl false)] []], .ret (.cbl true)]⟩
def shs : List (List Shp) := [[⟨2, [], [], [0, 1]⟩], [⟨2, [], [], [0, 1]⟩], [⟨2, [], [], [0, 1]⟩], [⟨2, [], [], [0, 1]⟩], [⟨1, [], [], [0]⟩], [⟨2, [], [], [0, 1]⟩], [⟨2, [], [], [0, 1]⟩], [⟨2, ["tokens"], [], [0, 1, 2]⟩, ⟨2, [], [("tokens", .tup [.int 0, .int 1])], [0, 1, 2]⟩], [⟨1, [], [], [0]⟩], [⟨2, [], [], [0, 1]⟩], [⟨2, [], [], [0, 1]⟩], [⟨2, [], [], [0, 1]⟩], [⟨2, [], [], [0, 1]⟩], [⟨1, [], [], [0]⟩], [⟨2, [], [], [0, 1]⟩], [⟨3, [], [], [0, 1, 2]⟩], [⟨1, [], [], [0]⟩]]
def cs : List D := []
def txt : Txt := ⟨[], ["ratio", "added", "is_less", "lesser", "wholes", "grown", "paid", "pace_of", "_law_feed", "_law_draw", "_law_frac", "_law_plus", "_law_less", "_law_share", "_law_more", "_law_pace", "law"], ["abs", "len", "list", "min", "range", "repr", "tuple"], ksOf shs⟩
theorem dt0 : DefT txt shs 0 "ratio" (topS 2) f0 := ⟨⟨["over", "under", "one", "other"], ["over", "under"], ⟨rfl, rfl, rfl, by decide +kernel, rfl, by decide +kernel, by decide +kernel⟩, rfl, rfl, by decide +kernel, fun sh s h => match sh, h with
    | 0, h => by
      cases h
      exact ⟨fun kV doc pm an cdv ct D us mv ws _ h1 h2 h3 => match us, mv, ws, h1, h2, h3 with | [_, _], [], [], _, _, _ => rfl, fun _ => ⟨rfl, rfl⟩⟩
    | n + 1, h => by cases h⟩⟩
theorem dt1 : DefT txt shs 1 "added" (topS 3) f1 := ⟨⟨["one", "other"], ["one", "other"], ⟨rfl, rfl, rfl, by decide +kernel, rfl, by decide +kernel, by decide +kernel⟩, rfl, rfl, by decide +kernel, fun sh s h => match sh, h with
    | 0, h => by
      cases h
      exact ⟨fun kV doc pm an cdv ct D us mv ws _ h1 h2 h3 => match us, mv, ws, h1, h2, h3 with | [_, _], [], [], _, _, _ => rfl, fun _ => ⟨rfl, rfl⟩⟩
    | n + 1, h => by cases h⟩⟩
theorem dt2 : DefT txt shs 2 "is_less" (topS 4) f2 := ⟨⟨["one", "other"], ["one", "other"], ⟨rfl, rfl, rfl, by decide +kernel, rfl, by decide +kernel, by decide +kernel⟩, rfl, rfl, by decide +kernel, fun sh s h => match sh, h with
    | 0, h => by
      cases h
      exact ⟨fun kV doc pm an cdv ct D us mv ws _ h1 h2 h3 => match us, mv, ws, h1, h2, h3 with | [_, _], [], [], _, _, _ => rfl, fun _ => ⟨rfl, rfl⟩⟩
    | n + 1, h => by cases h⟩⟩
theorem dt3 : DefT txt shs 3 "lesser" (topS 5) f3 := ⟨⟨["one", "other"], ["one", "other"], ⟨rfl, rfl, rfl, by decide +kernel, rfl, by decide +kernel, by decide +kernel⟩, rfl, rfl, by decide +kernel, fun sh s h => match sh, h with
    | 0, h => by
      cases h
      exact ⟨fun kV doc pm an cdv ct D us mv ws _ h1 h2 h3 => match us, mv, ws, h1, h2, h3 with | [_, _], [], [], _, _, _ => rfl, fun _ => ⟨rfl, rfl⟩⟩
    | n + 1, h => by cases h⟩⟩
theorem dt4 : DefT txt shs 4 "wholes" (topS 6) f4 := ⟨⟨["fraction"], ["fraction"], ⟨rfl, rfl, rfl, by decide +kernel, rfl, by decide +kernel, by decide +kernel⟩, rfl, rfl, by decide +kernel, fun sh s h => match sh, h with
    | 0, h => by
      cases h
      exact ⟨fun kV doc pm an cdv ct D us mv ws _ h1 h2 h3 => match us, mv, ws, h1, h2, h3 with | [_], [], [], _, _, _ => rfl, fun _ => ⟨rfl, rfl⟩⟩
    | n + 1, h => by cases h⟩⟩
theorem dt5 : DefT txt shs 5 "grown" (topS 7) f5 := ⟨⟨["tokens", "share"], ["tokens", "share"], ⟨rfl, rfl, rfl, by decide +kernel, rfl, by decide +kernel, by decide +kernel⟩, rfl, rfl, by decide +kernel, fun sh s h => match sh, h with
    | 0, h => by
      cases h
      exact ⟨fun kV doc pm an cdv ct D us mv ws _ h1 h2 h3 => match us, mv, ws, h1, h2, h3 with | [_, _], [], [], _, _, _ => rfl, fun _ => ⟨rfl, rfl⟩⟩
    | n + 1, h => by cases h⟩⟩
theorem dt6 : DefT txt shs 6 "paid" (topS 8) f6 := ⟨⟨["tokens", "cost", "many"], ["tokens", "cost"], ⟨rfl, rfl, rfl, by decide +kernel, rfl, by decide +kernel, by decide +kernel⟩, rfl, rfl, by decide +kernel, fun sh s h => match sh, h with
    | 0, h => by
      cases h
      exact ⟨fun kV doc pm an cdv ct D us mv ws _ h1 h2 h3 => match us, mv, ws, h1, h2, h3 with | [_, _], [], [], _, _, _ => rfl, fun _ => ⟨rfl, rfl⟩⟩
    | n + 1, h => by cases h⟩⟩
theorem dt7 : DefT txt shs 7 "pace_of" (topS 9) f7 := ⟨⟨["share", "ticks", "tokens", "found", "tick", "many"], ["share", "ticks", "tokens"], ⟨rfl, rfl, rfl, by decide +kernel, rfl, by decide +kernel, by decide +kernel⟩, rfl, rfl, by decide +kernel, fun sh s h => match sh, h with
    | 0, h => by
      cases h
      exact ⟨fun kV doc pm an cdv ct D us mv ws _ h1 h2 h3 => match us, mv, ws, h1, h2, h3 with | [_, _], [], [_], _, _, _ => rfl, fun z => nomatch z⟩
    | 1, h => by
      cases h
      exact ⟨fun kV doc pm an cdv ct D us mv ws hD h1 h2 h3 => by
      cases hD (by decide)
      exact match us, mv, ws, h1, h2, h3 with | [_, _], [_], [], _, _, _ => ⟨_, _, _, _, _, _, rfl, rfl, rfl⟩, fun _ => ⟨rfl, rfl⟩⟩
    | n + 2, h => by cases h⟩⟩
theorem dt8 : DefT txt shs 8 "_law_feed" (topS 11) f8 := ⟨⟨["_law_script"], ["_law_script"], ⟨rfl, rfl, rfl, by decide +kernel, rfl, by decide +kernel, by decide +kernel⟩, rfl, rfl, by decide +kernel, fun sh s h => match sh, h with
    | 0, h => by
      cases h
      exact ⟨fun kV doc pm an cdv ct D us mv ws _ h1 h2 h3 => match us, mv, ws, h1, h2, h3 with | [_], [], [], _, _, _ => rfl, fun _ => ⟨rfl, rfl⟩⟩
    | n + 1, h => by cases h⟩⟩
theorem dt9 : DefT txt shs 9 "_law_draw" (topS 12) f9 := ⟨⟨["_law_feed_here", "_law_many", "_law_at", "_law_cell", "_law_mixed", "_law_figure"], ["_law_feed_here", "_law_many"], ⟨rfl, rfl, rfl, by decide +kernel, rfl, by decide +kernel, by decide +kernel⟩, rfl, rfl, by decide +kernel, fun sh s h => match sh, h with
    | 0, h => by
      cases h
      exact ⟨fun kV doc pm an cdv ct D us mv ws _ h1 h2 h3 => match us, mv, ws, h1, h2, h3 with | [_, _], [], [], _, _, _ => rfl, fun _ => ⟨rfl, rfl⟩⟩
    | n + 1, h => by cases h⟩⟩
theorem dt10 : DefT txt shs 10 "_law_frac" (topS 13) f10 := ⟨⟨["_law_over", "_law_under", "_law_one", "_law_other"], ["_law_over", "_law_under"], ⟨rfl, rfl, rfl, by decide +kernel, rfl, by decide +kernel, by decide +kernel⟩, rfl, rfl, by decide +kernel, fun sh s h => match sh, h with
    | 0, h => by
      cases h
      exact ⟨fun kV doc pm an cdv ct D us mv ws _ h1 h2 h3 => match us, mv, ws, h1, h2, h3 with | [_, _], [], [], _, _, _ => rfl, fun _ => ⟨rfl, rfl⟩⟩
    | n + 1, h => by cases h⟩⟩
theorem dt11 : DefT txt shs 11 "_law_plus" (topS 14) f11 := ⟨⟨["_law_one", "_law_other"], ["_law_one", "_law_other"], ⟨rfl, rfl, rfl, by decide +kernel, rfl, by decide +kernel, by decide +kernel⟩, rfl, rfl, by decide +kernel, fun sh s h => match sh, h with
    | 0, h => by
      cases h
      exact ⟨fun kV doc pm an cdv ct D us mv ws _ h1 h2 h3 => match us, mv, ws, h1, h2, h3 with | [_, _], [], [], _, _, _ => rfl, fun _ => ⟨rfl, rfl⟩⟩
    | n + 1, h => by cases h⟩⟩
theorem dt12 : DefT txt shs 12 "_law_less" (topS 15) f12 := ⟨⟨["_law_one", "_law_other"], ["_law_one", "_law_other"], ⟨rfl, rfl, rfl, by decide +kernel, rfl, by decide +kernel, by decide +kernel⟩, rfl, rfl, by decide +kernel, fun sh s h => match sh, h with
    | 0, h => by
      cases h
      exact ⟨fun kV doc pm an cdv ct D us mv ws _ h1 h2 h3 => match us, mv, ws, h1, h2, h3 with | [_, _], [], [], _, _, _ => rfl, fun _ => ⟨rfl, rfl⟩⟩
    | n + 1, h => by cases h⟩⟩
theorem dt13 : DefT txt shs 13 "_law_share" (topS 16) f13 := ⟨⟨["_law_feed_here", "_law_some"], ["_law_feed_here"], ⟨rfl, rfl, rfl, by decide +kernel, rfl, by decide +kernel, by decide +kernel⟩, rfl, rfl, by decide +kernel, fun sh s h => match sh, h with
    | 0, h => by
      cases h
      exact ⟨fun kV doc pm an cdv ct D us mv ws _ h1 h2 h3 => match us, mv, ws, h1, h2, h3 with | [_], [], [], _, _, _ => rfl, fun _ => ⟨rfl, rfl⟩⟩
    | n + 1, h => by cases h⟩⟩
theorem dt14 : DefT txt shs 14 "_law_more" (topS 17) f14 := ⟨⟨["_law_held", "_law_share_here", "_law_more_here", "_law_top"], ["_law_held", "_law_share_here"], ⟨rfl, rfl, rfl, by decide +kernel, rfl, by decide +kernel, by decide +kernel⟩, rfl, rfl, by decide +kernel, fun sh s h => match sh, h with
    | 0, h => by
      cases h
      exact ⟨fun kV doc pm an cdv ct D us mv ws _ h1 h2 h3 => match us, mv, ws, h1, h2, h3 with | [_, _], [], [], _, _, _ => rfl, fun _ => ⟨rfl, rfl⟩⟩
    | n + 1, h => by cases h⟩⟩
theorem dt15 : DefT txt shs 15 "_law_pace" (topS 18) f15 := ⟨⟨["_law_share_here", "_law_span", "_law_held", "_law_found", "_law_lap"], ["_law_share_here", "_law_span", "_law_held"], ⟨rfl, rfl, rfl, by decide +kernel, rfl, by decide +kernel, by decide +kernel⟩, rfl, rfl, by decide +kernel, fun sh s h => match sh, h with
    | 0, h => by
      cases h
      exact ⟨fun kV doc pm an cdv ct D us mv ws _ h1 h2 h3 => match us, mv, ws, h1, h2, h3 with | [_, _, _], [], [], _, _, _ => rfl, fun _ => ⟨rfl, rfl⟩⟩
    | n + 1, h => by cases h⟩⟩
theorem dt16 : DefT txt shs 16 "law" (topS 19) f16 := ⟨⟨["_law_script", "_law_feed_here", "_law_lap", "_law_share_here", "_law_held", "_law_price", "_law_span", "_law_due", "_law_told", "_law_seen", "_law_pays"], ["_law_script"], ⟨rfl, rfl, rfl, by decide +kernel, rfl, by decide +kernel, by decide +kernel⟩, rfl, rfl, by decide +kernel, fun sh s h => match sh, h with
    | 0, h => by
      cases h
      exact ⟨fun kV doc pm an cdv ct D us mv ws _ h1 h2 h3 => match us, mv, ws, h1, h2, h3 with | [_], [], [], _, _, _ => rfl, fun _ => ⟨rfl, rfl⟩⟩
    | n + 1, h => by cases h⟩⟩
def defs : List DefR := [⟨"ratio", topS 2, f0⟩, ⟨"added", topS 3, f1⟩, ⟨"is_less", topS 4, f2⟩, ⟨"lesser", topS 5, f3⟩, ⟨"wholes", topS 6, f4⟩, ⟨"grown", topS 7, f5⟩, ⟨"paid", topS 8, f6⟩, ⟨"pace_of", topS 9, f7⟩, ⟨"_law_feed", topS 11, f8⟩, ⟨"_law_draw", topS 12, f9⟩, ⟨"_law_frac", topS 13, f10⟩, ⟨"_law_plus", topS 14, f11⟩, ⟨"_law_less", topS 15, f12⟩, ⟨"_law_share", topS 16, f13⟩, ⟨"_law_more", topS 17, f14⟩, ⟨"_law_pace", topS 18, f15⟩, ⟨"law", topS 19, f16⟩]
theorem each : Each (fun f d => DefT txt shs f d.x d.st d.F) 0 defs := ⟨dt0, dt1, dt2, dt3, dt4, dt5, dt6, dt7, dt8, dt9, dt10, dt11, dt12, dt13, dt14, dt15, dt16, trivial⟩
noncomputable def cal (n f : Nat) (args : List D) (M : Sto) : Res D := callF (defs.map (·.F)) (fun i => cs.getD i .non) (arrOf shs) n f args M
noncomputable def C (n : Nat) : Cal := ⟨cal n, fun i => cs.getD i .non, arrOf shs⟩
theorem C_cal (n : Nat) : (C n).cal = cal n := id rfl
theorem C_arr (n : Nat) : (C n).arr = arrOf shs := id rfl
theorem C_gl (n : Nat) : (C n).gl = fun i => cs.getD i .non := id rfl
theorem st_ratio (n : Nat) (a0 a1 : D) (M : Sto) : cal (n + 1) 0 [a0, a1] M = fin (evSs (C n) f0.body [.val a0, .val a1, .non, .non] M) := id rfl
theorem ar_ratio_0 (x0 x1 : D) : arrOf shs 0 0 [x0, x1] [] = some [x0, x1] := id rfl
theorem st_added (n : Nat) (a0 a1 : D) (M : Sto) : cal (n + 1) 1 [a0, a1] M = fin (evSs (C n) f1.body [.val a0, .val a1] M) := id rfl
theorem ar_added_0 (x0 x1 : D) : arrOf shs 1 0 [x0, x1] [] = some [x0, x1] := id rfl
theorem st_is_less (n : Nat) (a0 a1 : D) (M : Sto) : cal (n + 1) 2 [a0, a1] M = fin (evSs (C n) f2.body [.val a0, .val a1] M) := id rfl
theorem ar_is_less_0 (x0 x1 : D) : arrOf shs 2 0 [x0, x1] [] = some [x0, x1] := id rfl
theorem st_lesser (n : Nat) (a0 a1 : D) (M : Sto) : cal (n + 1) 3 [a0, a1] M = fin (evSs (C n) f3.body [.val a0, .val a1] M) := id rfl
theorem ar_lesser_0 (x0 x1 : D) : arrOf shs 3 0 [x0, x1] [] = some [x0, x1] := id rfl
theorem st_wholes (n : Nat) (a0 : D) (M : Sto) : cal (n + 1) 4 [a0] M = fin (evSs (C n) f4.body [.val a0] M) := id rfl
theorem ar_wholes_0 (x0 : D) : arrOf shs 4 0 [x0] [] = some [x0] := id rfl
theorem st_grown (n : Nat) (a0 a1 : D) (M : Sto) : cal (n + 1) 5 [a0, a1] M = fin (evSs (C n) f5.body [.val a0, .val a1] M) := id rfl
theorem ar_grown_0 (x0 x1 : D) : arrOf shs 5 0 [x0, x1] [] = some [x0, x1] := id rfl
theorem st_paid (n : Nat) (a0 a1 : D) (M : Sto) : cal (n + 1) 6 [a0, a1] M = fin (evSs (C n) f6.body [.val a0, .val a1, .non] M) := id rfl
theorem ar_paid_0 (x0 x1 : D) : arrOf shs 6 0 [x0, x1] [] = some [x0, x1] := id rfl
theorem st_pace_of (n : Nat) (a0 a1 a2 : D) (M : Sto) : cal (n + 1) 7 [a0, a1, a2] M = fin (evSs (C n) f7.body [.val a0, .val a1, .val a2, .non, .non, .non] M) := id rfl
theorem ar_pace_of_0 (x0 x1 z0 : D) : arrOf shs 7 0 [x0, x1] [z0] = some [x0, x1, z0] := id rfl
theorem ar_pace_of_1 (x0 x1 : D) : arrOf shs 7 1 [x0, x1] [] = some [x0, x1, .tup [.int 0, .int 1]] := id rfl
theorem st__law_feed (n : Nat) (a0 : D) (M : Sto) : cal (n + 1) 8 [a0] M = fin (evSs (C n) f8.body [.val a0] M) := id rfl
theorem ar__law_feed_0 (x0 : D) : arrOf shs 8 0 [x0] [] = some [x0] := id rfl
theorem st__law_draw (n : Nat) (a0 a1 : D) (M : Sto) : cal (n + 1) 9 [a0, a1] M = fin (evSs (C n) f9.body [.val a0, .val a1, .non, .non, .non, .non] M) := id rfl
theorem ar__law_draw_0 (x0 x1 : D) : arrOf shs 9 0 [x0, x1] [] = some [x0, x1] := id rfl
theorem st__law_frac (n : Nat) (a0 a1 : D) (M : Sto) : cal (n + 1) 10 [a0, a1] M = fin (evSs (C n) f10.body [.val a0, .val a1, .non, .non] M) := id rfl
theorem ar__law_frac_0 (x0 x1 : D) : arrOf shs 10 0 [x0, x1] [] = some [x0, x1] := id rfl
theorem st__law_plus (n : Nat) (a0 a1 : D) (M : Sto) : cal (n + 1) 11 [a0, a1] M = fin (evSs (C n) f11.body [.val a0, .val a1] M) := id rfl
theorem ar__law_plus_0 (x0 x1 : D) : arrOf shs 11 0 [x0, x1] [] = some [x0, x1] := id rfl
theorem st__law_less (n : Nat) (a0 a1 : D) (M : Sto) : cal (n + 1) 12 [a0, a1] M = fin (evSs (C n) f12.body [.val a0, .val a1] M) := id rfl
theorem ar__law_less_0 (x0 x1 : D) : arrOf shs 12 0 [x0, x1] [] = some [x0, x1] := id rfl
theorem st__law_share (n : Nat) (a0 : D) (M : Sto) : cal (n + 1) 13 [a0] M = fin (evSs (C n) f13.body [.val a0, .non] M) := id rfl
theorem ar__law_share_0 (x0 : D) : arrOf shs 13 0 [x0] [] = some [x0] := id rfl
theorem st__law_more (n : Nat) (a0 a1 : D) (M : Sto) : cal (n + 1) 14 [a0, a1] M = fin (evSs (C n) f14.body [.val a0, .val a1, .non, .non] M) := id rfl
theorem ar__law_more_0 (x0 x1 : D) : arrOf shs 14 0 [x0, x1] [] = some [x0, x1] := id rfl
theorem st__law_pace (n : Nat) (a0 a1 a2 : D) (M : Sto) : cal (n + 1) 15 [a0, a1, a2] M = fin (evSs (C n) f15.body [.val a0, .val a1, .val a2, .non, .non] M) := id rfl
theorem ar__law_pace_0 (x0 x1 x2 : D) : arrOf shs 15 0 [x0, x1, x2] [] = some [x0, x1, x2] := id rfl
theorem st_law (n : Nat) (a0 : D) (M : Sto) : cal (n + 1) 16 [a0] M = fin (evSs (C n) f16.body [.val a0, .non, .non, .non, .non, .non, .non, .non, .non, .non, .non] M) := id rfl
theorem ar_law_0 (x0 : D) : arrOf shs 16 0 [x0] [] = some [x0] := id rfl
end Mp.Lw
end

section
set_option Elab.async false
set_option linter.all false
set_option maxRecDepth 100000
set_option maxHeartbeats 0
namespace Mp.Lw
open PySem PySem.Spec
/-! ### fractions -/
def bd (k : Nat) (i : Int) : Prop := i.natAbs < 2 ^ k
theorem bd.up {k l : Nat} {i : Int} (h : bd k i) (hl : k ≤ l) : bd l i := Nat.lt_of_lt_of_le h (Nat.pow_le_pow_right (by decide) hl)
theorem bd.add {k : Nat} {i j : Int} (h : bd k i) (g : bd k j) : bd (k + 1) (i + j) := by
  unfold bd at *
  rw [Nat.pow_succ]
  omega
theorem bd.mul {k l : Nat} {i j : Int} (h : bd k i) (g : bd l j) : bd (k + l) (i * j) := by
  unfold bd at *
  rw [Int.natAbs_mul, Nat.pow_add]
  exact Nat.mul_lt_mul'' h g
theorem bd.w {k l : Nat} {i j : Int} (h : bd k i) (g : bd l j) (hk : k ≤ 4000 := by omega) (hl : l ≤ 4000 := by omega) : widthOk i j = true := widthOk_of (h.up hk) (g.up hl)
theorem bd.div {k : Nat} {i j : Int} (h : bd k i) (hi : 0 ≤ i) (hj : 0 < j) : bd k (i / j) := by
  unfold bd at *
  have h1 := Int.ediv_nonneg hi (Int.le_of_lt hj)
  have h2 := Int.ediv_le_self j hi
  omega
theorem bd.mod {k : Nat} {i j : Int} (h : bd k j) (hj : 0 < j) : bd k (i % j) := by
  unfold bd at *
  have h1 := Int.emod_nonneg i (show j ≠ 0 by omega)
  have h2 := Int.emod_lt_of_pos i hj
  omega
theorem bd.le {k : Nat} {i j : Int} (h : bd k j) (hi : 0 ≤ i) (hj : i ≤ j) : bd k i := by
  unfold bd at *
  omega
theorem bd_of {k : Nat} {i : Int} (hk : k ≤ 200) (h : -(2 ^ k) < i) (h2 : i < 2 ^ k) : bd k i := by
  unfold bd
  have e : ((2 : Int) ^ k) = (((2 : Nat) ^ k : Nat) : Int) := by rw [Int.natCast_pow] <;> rfl
  rw [e] at h h2
  generalize (2 : Nat) ^ k = A at *
  omega
/-- a fraction of at most k bits -/
structure Fr (k : Nat) (t : Int × Int) : Prop where
  n : 0 ≤ t.1
  p : 0 < t.2
  bn : bd k t.1
  bp : bd k t.2
theorem Fr.up {k l : Nat} {t : Int × Int} (h : Fr k t) (hl : k ≤ l) : Fr l t := ⟨h.n, h.p, h.bn.up hl, h.bp.up hl⟩
def ratioL (a b : Int) : Int × Int := (a / Int.gcd a b, b / Int.gcd a b)
def frD (t : Int × Int) : D := .tup [.int t.1, .int t.2]
theorem gcd_pos' {a b : Int} (hb : 0 < b) : (0 : Int) < Int.gcd a b := by
  have := Int.gcd_pos_of_ne_zero_right a (b := b) (by omega)
  omega
theorem ratioL_ok {k : Nat} {a b : Int} (ha : 0 ≤ a) (hb : 0 < b) (h1 : bd k a) (h2 : bd k b) : Fr k (ratioL a b) :=
  ⟨Int.ediv_nonneg ha (Int.le_of_lt (gcd_pos' hb)), Int.ediv_pos_of_pos_of_dvd hb (Int.le_of_lt (gcd_pos' hb)) (Int.gcd_dvd_right a b), h1.div ha (gcd_pos' hb), h2.div (Int.le_of_lt hb) (gcd_pos' hb)⟩
theorem gcd_w {a b : Int} (hb : 0 < b) (hw : b.natAbs < 2 ^ 4000) : ((Int.gcd a b : Nat) : Int).natAbs < 2 ^ 4000 := by
  have := Int.gcd_le_natAbs_right a (b := b) (by omega)
  have e : ((Int.gcd a b : Nat) : Int).natAbs = Int.gcd a b := rfl
  rw [e]
  exact Nat.lt_of_le_of_lt this hw
def plusL (t u : Int × Int) : Int × Int := ratioL (t.1 * u.2 + u.1 * t.2) (t.2 * u.2)
theorem plusL_ok {k l : Nat} {t u : Int × Int} (h : Fr k t) (g : Fr l u) : Fr (k + l + 1) (plusL t u) := by
  refine ratioL_ok ?_ (Int.mul_pos h.p g.p) ?_ ((h.bp.mul g.bp).up (by omega))
  · exact Int.add_nonneg (Int.mul_nonneg h.n (Int.le_of_lt g.p)) (Int.mul_nonneg g.n (Int.le_of_lt h.p))
  · exact (h.bn.mul g.bp).add (by have := g.bn.mul h.bp; rw [Nat.add_comm] at this; exact this)
/-- a share's fraction -/
structure Sh (s : (Int × Int) × Int) : Prop where
  f : Fr 30 s.1
  n : 0 ≤ s.2
  b : bd 30 s.2
def shD (s : (Int × Int) × Int) : D := .tup [frD s.1, .int s.2]
def moreL (t : Int × Int) (s : (Int × Int) × Int) : Int × Int := if s.2 * (plusL t s.1).2 < (plusL t s.1).1 * 1 then (s.2, 1) else plusL t s.1
theorem moreL_ok {k : Nat} {t : Int × Int} {s : (Int × Int) × Int} (h : Fr k t) (g : Sh s) : Fr (k + 31) (moreL t s) := by
  unfold moreL
  split
  · exact ⟨g.n, (by decide : (0 : Int) < 1), g.b.up (by omega), (bd_of (i := 1) (k := 30) (by decide) (by decide) (by decide)).up (by omega)⟩
  · exact (plusL_ok h g.f).up (by omega)
/-! ### the program -/
theorem r_ratio (n : Nat) (a b : Int) (M : Sto) (ha : 0 ≤ a) (hb : 0 < b) (hw : b.natAbs < 2 ^ 4000) : cal (n + 1) 0 [.int a, .int b] M = .ok (frD (ratioL a b)) M := by
  rw [st_ratio]
  simp only [f0, C_cal, C_arr, C_gl, lkK_val, pkK_own, x_cint, x_cstr, x_cbl, x_cnon, x_var, x_glob, x_fnv, x_tup, x_lst, x_bin, x_neg, x_cmp, x_andv, x_orv, x_one, x_notv, x_ife, x_idx, x_dgt, x_slc, x_call, x_blt, x_isi, x_comp, x_dsp, xs_nil, xs_cons, xp_nil, xp_cons, xo_non, xo_som, xt_val, xt_cmp, xt_not, xt_and, xt_or, xt_one, xq_nil, xq_one, xi_seq, xi_rng1, xi_rng2, pk_own, pk_cint, pk_cstr, pk_cbl, pk_cnon, pk_var, pk_glob, pk_fnv, pk_tup, pk_lst, pk_bin, pk_neg, pk_cmp, pk_andv, pk_orv, pk_one, pk_notv, pk_ife, pk_idx, pk_dgt, pk_slc, pk_call, pk_blt, pk_isi, pk_comp, pk_dsp, k_tup, k_lst, k_con1, k_pcon1, k_con2, k_bin1, k_cmp1, k_idx1, k_dgt1, k_slc1, k_slc2, k_neg, k_not, k_non, k_ifeT, k_ifeF, k_cal1, k_cal2, k_cal3, k_isi, k_intO, k_bl, k_tcmp1, k_tnot, k_tandT, k_tandF, k_torT, k_torF, k_dsp, k_seqT, k_seqL, k_comp, d_add, d_sub, d_lt, d_le, d_gt, d_ge, d_min, d_max, d_abs, d_lenT, d_lenL, d_tupL, d_tupT, d_lstL, d_lstT, i_t0, i_l0, i_t1, i_l1, i_t2, i_l2, i_t3, i_l3, i_t4, i_l4, i_t5, i_l5, i_t6, i_l6, i_t7, i_l7, tr_bl, tr_int, tr_non, tr_tup, tr_lst, y_nil, y_cons, y_next, y_ret, y_brk, y_cnt, y_asg, y_par, y_par1, y_par2, y_ownL, y_ownK, y_app, y_appK, y_app2, y_aug, y_augK, y_augA, y_augS, y_setd, y_set1, y_set2, y_set3, y_set4, y_expr, y_exprK, y_ret1, y_retK, y_retn, y_ifs, y_ifsT, y_ifsF, y_forr, y_forK, y_whil, y_pas, y_brk1, y_cnt1, y_frz, y_frzK, y_asgK, fin_ret, fin_next, g_nm, g_tp, g_nil, g_cons, Res.bind_ok, SRes.of_ok, Option.bind_some, List.getElem?_cons_zero, List.getElem?_cons_succ, List.set_cons_zero, List.set_cons_succ, List.length_cons, List.length_nil, if_true, if_false, Nat.reduceAdd, Nat.reduceLT, Nat.zero_add, decide_true, decide_false, Bool.not_true, Bool.not_false, not_true_eq_false, not_false_eq_true, eq_self, gcd_loop a b ha (Int.le_of_lt hb), d_fdiv (gcd_pos' (a := a) hb) (gcd_w (a := a) hb hw)]
  rfl
theorem r_frac (n : Nat) (a b : Int) (M : Sto) (ha : 0 ≤ a) (hb : 0 < b) (hw : b.natAbs < 2 ^ 4000) : cal (n + 1) 10 [.int a, .int b] M = .ok (frD (ratioL a b)) M := by
  have h0 : ¬ a < 0 := by omega
  rw [st__law_frac]
  simp only [f10, C_cal, C_arr, C_gl, lkK_val, pkK_own, x_cint, x_cstr, x_cbl, x_cnon, x_var, x_glob, x_fnv, x_tup, x_lst, x_bin, x_neg, x_cmp, x_andv, x_orv, x_one, x_notv, x_ife, x_idx, x_dgt, x_slc, x_call, x_blt, x_isi, x_comp, x_dsp, xs_nil, xs_cons, xp_nil, xp_cons, xo_non, xo_som, xt_val, xt_cmp, xt_not, xt_and, xt_or, xt_one, xq_nil, xq_one, xi_seq, xi_rng1, xi_rng2, pk_own, pk_cint, pk_cstr, pk_cbl, pk_cnon, pk_var, pk_glob, pk_fnv, pk_tup, pk_lst, pk_bin, pk_neg, pk_cmp, pk_andv, pk_orv, pk_one, pk_notv, pk_ife, pk_idx, pk_dgt, pk_slc, pk_call, pk_blt, pk_isi, pk_comp, pk_dsp, k_tup, k_lst, k_con1, k_pcon1, k_con2, k_bin1, k_cmp1, k_idx1, k_dgt1, k_slc1, k_slc2, k_neg, k_not, k_non, k_ifeT, k_ifeF, k_cal1, k_cal2, k_cal3, k_isi, k_intO, k_bl, k_tcmp1, k_tnot, k_tandT, k_tandF, k_torT, k_torF, k_dsp, k_seqT, k_seqL, k_comp, d_add, d_sub, d_lt, d_le, d_gt, d_ge, d_min, d_max, d_abs, d_lenT, d_lenL, d_tupL, d_tupT, d_lstL, d_lstT, i_t0, i_l0, i_t1, i_l1, i_t2, i_l2, i_t3, i_l3, i_t4, i_l4, i_t5, i_l5, i_t6, i_l6, i_t7, i_l7, tr_bl, tr_int, tr_non, tr_tup, tr_lst, y_nil, y_cons, y_next, y_ret, y_brk, y_cnt, y_asg, y_par, y_par1, y_par2, y_ownL, y_ownK, y_app, y_appK, y_app2, y_aug, y_augK, y_augA, y_augS, y_setd, y_set1, y_set2, y_set3, y_set4, y_expr, y_exprK, y_ret1, y_retK, y_retn, y_ifs, y_ifsT, y_ifsF, y_forr, y_forK, y_whil, y_pas, y_brk1, y_cnt1, y_frz, y_frzK, y_asgK, fin_ret, fin_next, g_nm, g_tp, g_nil, g_cons, Res.bind_ok, SRes.of_ok, Option.bind_some, List.getElem?_cons_zero, List.getElem?_cons_succ, List.set_cons_zero, List.set_cons_succ, List.length_cons, List.length_nil, if_true, if_false, Nat.reduceAdd, Nat.reduceLT, Nat.zero_add, decide_true, decide_false, Bool.not_true, Bool.not_false, not_true_eq_false, not_false_eq_true, eq_self, h0, gcd_loop a b ha (Int.le_of_lt hb), gcd_pos' (a := a) hb, d_fdiv (gcd_pos' (a := a) hb) (gcd_w (a := a) hb hw)]
  rfl
theorem r_added (n : Nat) {k l : Nat} {t u : Int × Int} (M : Sto) (h : Fr k t) (g : Fr l u) (hk : k + l ≤ 3000) : cal (n + 2) 1 [frD t, frD u] M = .ok (frD (plusL t u)) M := by
  have w1 : widthOk t.1 u.2 = true := h.bn.w g.bp
  have w2 : widthOk u.1 t.2 = true := g.bn.w h.bp
  have w3 : widthOk t.2 u.2 = true := h.bp.w g.bp
  have n0 : 0 ≤ t.1 * u.2 + u.1 * t.2 := Int.add_nonneg (Int.mul_nonneg h.n (Int.le_of_lt g.p)) (Int.mul_nonneg g.n (Int.le_of_lt h.p))
  rw [st_added]
  simp only [frD, f1, C_cal, C_arr, C_gl, lkK_val, pkK_own, x_cint, x_cstr, x_cbl, x_cnon, x_var, x_glob, x_fnv, x_tup, x_lst, x_bin, x_neg, x_cmp, x_andv, x_orv, x_one, x_notv, x_ife, x_idx, x_dgt, x_slc, x_call, x_blt, x_isi, x_comp, x_dsp, xs_nil, xs_cons, xp_nil, xp_cons, xo_non, xo_som, xt_val, xt_cmp, xt_not, xt_and, xt_or, xt_one, xq_nil, xq_one, xi_seq, xi_rng1, xi_rng2, pk_own, pk_cint, pk_cstr, pk_cbl, pk_cnon, pk_var, pk_glob, pk_fnv, pk_tup, pk_lst, pk_bin, pk_neg, pk_cmp, pk_andv, pk_orv, pk_one, pk_notv, pk_ife, pk_idx, pk_dgt, pk_slc, pk_call, pk_blt, pk_isi, pk_comp, pk_dsp, k_tup, k_lst, k_con1, k_pcon1, k_con2, k_bin1, k_cmp1, k_idx1, k_dgt1, k_slc1, k_slc2, k_neg, k_not, k_non, k_ifeT, k_ifeF, k_cal1, k_cal2, k_cal3, k_isi, k_intO, k_bl, k_tcmp1, k_tnot, k_tandT, k_tandF, k_torT, k_torF, k_dsp, k_seqT, k_seqL, k_comp, d_add, d_sub, d_lt, d_le, d_gt, d_ge, d_min, d_max, d_abs, d_lenT, d_lenL, d_tupL, d_tupT, d_lstL, d_lstT, i_t0, i_l0, i_t1, i_l1, i_t2, i_l2, i_t3, i_l3, i_t4, i_l4, i_t5, i_l5, i_t6, i_l6, i_t7, i_l7, tr_bl, tr_int, tr_non, tr_tup, tr_lst, y_nil, y_cons, y_next, y_ret, y_brk, y_cnt, y_asg, y_par, y_par1, y_par2, y_ownL, y_ownK, y_app, y_appK, y_app2, y_aug, y_augK, y_augA, y_augS, y_setd, y_set1, y_set2, y_set3, y_set4, y_expr, y_exprK, y_ret1, y_retK, y_retn, y_ifs, y_ifsT, y_ifsF, y_forr, y_forK, y_whil, y_pas, y_brk1, y_cnt1, y_frz, y_frzK, y_asgK, fin_ret, fin_next, g_nm, g_tp, g_nil, g_cons, Res.bind_ok, SRes.of_ok, Option.bind_some, List.getElem?_cons_zero, List.getElem?_cons_succ, List.set_cons_zero, List.set_cons_succ, List.length_cons, List.length_nil, if_true, if_false, Nat.reduceAdd, Nat.reduceLT, Nat.zero_add, decide_true, decide_false, Bool.not_true, Bool.not_false, not_true_eq_false, not_false_eq_true, eq_self, d_mul w1, d_mul w2, d_mul w3, ar_ratio_0, r_ratio n _ _ M n0 (Int.mul_pos h.p g.p) ((h.bp.mul g.bp).up (by omega))]
  rfl
theorem r_plus (n : Nat) {k l : Nat} {t u : Int × Int} (M : Sto) (h : Fr k t) (g : Fr l u) (hk : k + l ≤ 3000) : cal (n + 2) 11 [frD t, frD u] M = .ok (frD (plusL t u)) M := by
  have w1 : widthOk t.1 u.2 = true := h.bn.w g.bp
  have w2 : widthOk u.1 t.2 = true := g.bn.w h.bp
  have w3 : widthOk t.2 u.2 = true := h.bp.w g.bp
  have n0 : 0 ≤ t.1 * u.2 + u.1 * t.2 := Int.add_nonneg (Int.mul_nonneg h.n (Int.le_of_lt g.p)) (Int.mul_nonneg g.n (Int.le_of_lt h.p))
  rw [st__law_plus]
  simp only [frD, f11, C_cal, C_arr, C_gl, lkK_val, pkK_own, x_cint, x_cstr, x_cbl, x_cnon, x_var, x_glob, x_fnv, x_tup, x_lst, x_bin, x_neg, x_cmp, x_andv, x_orv, x_one, x_notv, x_ife, x_idx, x_dgt, x_slc, x_call, x_blt, x_isi, x_comp, x_dsp, xs_nil, xs_cons, xp_nil, xp_cons, xo_non, xo_som, xt_val, xt_cmp, xt_not, xt_and, xt_or, xt_one, xq_nil, xq_one, xi_seq, xi_rng1, xi_rng2, pk_own, pk_cint, pk_cstr, pk_cbl, pk_cnon, pk_var, pk_glob, pk_fnv, pk_tup, pk_lst, pk_bin, pk_neg, pk_cmp, pk_andv, pk_orv, pk_one, pk_notv, pk_ife, pk_idx, pk_dgt, pk_slc, pk_call, pk_blt, pk_isi, pk_comp, pk_dsp, k_tup, k_lst, k_con1, k_pcon1, k_con2, k_bin1, k_cmp1, k_idx1, k_dgt1, k_slc1, k_slc2, k_neg, k_not, k_non, k_ifeT, k_ifeF, k_cal1, k_cal2, k_cal3, k_isi, k_intO, k_bl, k_tcmp1, k_tnot, k_tandT, k_tandF, k_torT, k_torF, k_dsp, k_seqT, k_seqL, k_comp, d_add, d_sub, d_lt, d_le, d_gt, d_ge, d_min, d_max, d_abs, d_lenT, d_lenL, d_tupL, d_tupT, d_lstL, d_lstT, i_t0, i_l0, i_t1, i_l1, i_t2, i_l2, i_t3, i_l3, i_t4, i_l4, i_t5, i_l5, i_t6, i_l6, i_t7, i_l7, tr_bl, tr_int, tr_non, tr_tup, tr_lst, y_nil, y_cons, y_next, y_ret, y_brk, y_cnt, y_asg, y_par, y_par1, y_par2, y_ownL, y_ownK, y_app, y_appK, y_app2, y_aug, y_augK, y_augA, y_augS, y_setd, y_set1, y_set2, y_set3, y_set4, y_expr, y_exprK, y_ret1, y_retK, y_retn, y_ifs, y_ifsT, y_ifsF, y_forr, y_forK, y_whil, y_pas, y_brk1, y_cnt1, y_frz, y_frzK, y_asgK, fin_ret, fin_next, g_nm, g_tp, g_nil, g_cons, Res.bind_ok, SRes.of_ok, Option.bind_some, List.getElem?_cons_zero, List.getElem?_cons_succ, List.set_cons_zero, List.set_cons_succ, List.length_cons, List.length_nil, if_true, if_false, Nat.reduceAdd, Nat.reduceLT, Nat.zero_add, decide_true, decide_false, Bool.not_true, Bool.not_false, not_true_eq_false, not_false_eq_true, eq_self, d_mul w1, d_mul w2, d_mul w3, ar__law_frac_0, r_frac n _ _ M n0 (Int.mul_pos h.p g.p) ((h.bp.mul g.bp).up (by omega))]
  rfl
theorem r_is_less (n : Nat) (t u : Int × Int) (M : Sto) (h1 : widthOk t.1 u.2 = true) (h2 : widthOk u.1 t.2 = true) : cal (n + 1) 2 [frD t, frD u] M = .ok (.bl (decide (t.1 * u.2 < u.1 * t.2))) M := by
  rw [st_is_less]
  simp only [frD, f2, C_cal, C_arr, C_gl, lkK_val, pkK_own, x_cint, x_cstr, x_cbl, x_cnon, x_var, x_glob, x_fnv, x_tup, x_lst, x_bin, x_neg, x_cmp, x_andv, x_orv, x_one, x_notv, x_ife, x_idx, x_dgt, x_slc, x_call, x_blt, x_isi, x_comp, x_dsp, xs_nil, xs_cons, xp_nil, xp_cons, xo_non, xo_som, xt_val, xt_cmp, xt_not, xt_and, xt_or, xt_one, xq_nil, xq_one, xi_seq, xi_rng1, xi_rng2, pk_own, pk_cint, pk_cstr, pk_cbl, pk_cnon, pk_var, pk_glob, pk_fnv, pk_tup, pk_lst, pk_bin, pk_neg, pk_cmp, pk_andv, pk_orv, pk_one, pk_notv, pk_ife, pk_idx, pk_dgt, pk_slc, pk_call, pk_blt, pk_isi, pk_comp, pk_dsp, k_tup, k_lst, k_con1, k_pcon1, k_con2, k_bin1, k_cmp1, k_idx1, k_dgt1, k_slc1, k_slc2, k_neg, k_not, k_non, k_ifeT, k_ifeF, k_cal1, k_cal2, k_cal3, k_isi, k_intO, k_bl, k_tcmp1, k_tnot, k_tandT, k_tandF, k_torT, k_torF, k_dsp, k_seqT, k_seqL, k_comp, d_add, d_sub, d_lt, d_le, d_gt, d_ge, d_min, d_max, d_abs, d_lenT, d_lenL, d_tupL, d_tupT, d_lstL, d_lstT, i_t0, i_l0, i_t1, i_l1, i_t2, i_l2, i_t3, i_l3, i_t4, i_l4, i_t5, i_l5, i_t6, i_l6, i_t7, i_l7, tr_bl, tr_int, tr_non, tr_tup, tr_lst, y_nil, y_cons, y_next, y_ret, y_brk, y_cnt, y_asg, y_par, y_par1, y_par2, y_ownL, y_ownK, y_app, y_appK, y_app2, y_aug, y_augK, y_augA, y_augS, y_setd, y_set1, y_set2, y_set3, y_set4, y_expr, y_exprK, y_ret1, y_retK, y_retn, y_ifs, y_ifsT, y_ifsF, y_forr, y_forK, y_whil, y_pas, y_brk1, y_cnt1, y_frz, y_frzK, y_asgK, fin_ret, fin_next, g_nm, g_tp, g_nil, g_cons, Res.bind_ok, SRes.of_ok, Option.bind_some, List.getElem?_cons_zero, List.getElem?_cons_succ, List.set_cons_zero, List.set_cons_succ, List.length_cons, List.length_nil, if_true, if_false, Nat.reduceAdd, Nat.reduceLT, Nat.zero_add, decide_true, decide_false, Bool.not_true, Bool.not_false, not_true_eq_false, not_false_eq_true, eq_self, d_mul h1, d_mul h2]
theorem r_less (n : Nat) (t u : Int × Int) (M : Sto) (h1 : widthOk t.1 u.2 = true) (h2 : widthOk u.1 t.2 = true) : cal (n + 1) 12 [frD t, frD u] M = .ok (.bl (decide (t.1 * u.2 < u.1 * t.2))) M := by
  rw [st__law_less]
  simp only [frD, f12, C_cal, C_arr, C_gl, lkK_val, pkK_own, x_cint, x_cstr, x_cbl, x_cnon, x_var, x_glob, x_fnv, x_tup, x_lst, x_bin, x_neg, x_cmp, x_andv, x_orv, x_one, x_notv, x_ife, x_idx, x_dgt, x_slc, x_call, x_blt, x_isi, x_comp, x_dsp, xs_nil, xs_cons, xp_nil, xp_cons, xo_non, xo_som, xt_val, xt_cmp, xt_not, xt_and, xt_or, xt_one, xq_nil, xq_one, xi_seq, xi_rng1, xi_rng2, pk_own, pk_cint, pk_cstr, pk_cbl, pk_cnon, pk_var, pk_glob, pk_fnv, pk_tup, pk_lst, pk_bin, pk_neg, pk_cmp, pk_andv, pk_orv, pk_one, pk_notv, pk_ife, pk_idx, pk_dgt, pk_slc, pk_call, pk_blt, pk_isi, pk_comp, pk_dsp, k_tup, k_lst, k_con1, k_pcon1, k_con2, k_bin1, k_cmp1, k_idx1, k_dgt1, k_slc1, k_slc2, k_neg, k_not, k_non, k_ifeT, k_ifeF, k_cal1, k_cal2, k_cal3, k_isi, k_intO, k_bl, k_tcmp1, k_tnot, k_tandT, k_tandF, k_torT, k_torF, k_dsp, k_seqT, k_seqL, k_comp, d_add, d_sub, d_lt, d_le, d_gt, d_ge, d_min, d_max, d_abs, d_lenT, d_lenL, d_tupL, d_tupT, d_lstL, d_lstT, i_t0, i_l0, i_t1, i_l1, i_t2, i_l2, i_t3, i_l3, i_t4, i_l4, i_t5, i_l5, i_t6, i_l6, i_t7, i_l7, tr_bl, tr_int, tr_non, tr_tup, tr_lst, y_nil, y_cons, y_next, y_ret, y_brk, y_cnt, y_asg, y_par, y_par1, y_par2, y_ownL, y_ownK, y_app, y_appK, y_app2, y_aug, y_augK, y_augA, y_augS, y_setd, y_set1, y_set2, y_set3, y_set4, y_expr, y_exprK, y_ret1, y_retK, y_retn, y_ifs, y_ifsT, y_ifsF, y_forr, y_forK, y_whil, y_pas, y_brk1, y_cnt1, y_frz, y_frzK, y_asgK, fin_ret, fin_next, g_nm, g_tp, g_nil, g_cons, Res.bind_ok, SRes.of_ok, Option.bind_some, List.getElem?_cons_zero, List.getElem?_cons_succ, List.set_cons_zero, List.set_cons_succ, List.length_cons, List.length_nil, if_true, if_false, Nat.reduceAdd, Nat.reduceLT, Nat.zero_add, decide_true, decide_false, Bool.not_true, Bool.not_false, not_true_eq_false, not_false_eq_true, eq_self, d_mul h1, d_mul h2]
theorem r_lesser (n : Nat) (t u : Int × Int) (M : Sto) (h1 : widthOk t.1 u.2 = true) (h2 : widthOk u.1 t.2 = true) : cal (n + 2) 3 [frD t, frD u] M = .ok (if u.1 * t.2 < t.1 * u.2 then frD u else frD t) M := by
  rw [st_lesser]
  simp only [f3, C_cal, C_arr, C_gl, lkK_val, pkK_own, x_cint, x_cstr, x_cbl, x_cnon, x_var, x_glob, x_fnv, x_tup, x_lst, x_bin, x_neg, x_cmp, x_andv, x_orv, x_one, x_notv, x_ife, x_idx, x_dgt, x_slc, x_call, x_blt, x_isi, x_comp, x_dsp, xs_nil, xs_cons, xp_nil, xp_cons, xo_non, xo_som, xt_val, xt_cmp, xt_not, xt_and, xt_or, xt_one, xq_nil, xq_one, xi_seq, xi_rng1, xi_rng2, pk_own, pk_cint, pk_cstr, pk_cbl, pk_cnon, pk_var, pk_glob, pk_fnv, pk_tup, pk_lst, pk_bin, pk_neg, pk_cmp, pk_andv, pk_orv, pk_one, pk_notv, pk_ife, pk_idx, pk_dgt, pk_slc, pk_call, pk_blt, pk_isi, pk_comp, pk_dsp, k_tup, k_lst, k_con1, k_pcon1, k_con2, k_bin1, k_cmp1, k_idx1, k_dgt1, k_slc1, k_slc2, k_neg, k_not, k_non, k_ifeT, k_ifeF, k_cal1, k_cal2, k_cal3, k_isi, k_intO, k_bl, k_tcmp1, k_tnot, k_tandT, k_tandF, k_torT, k_torF, k_dsp, k_seqT, k_seqL, k_comp, d_add, d_sub, d_lt, d_le, d_gt, d_ge, d_min, d_max, d_abs, d_lenT, d_lenL, d_tupL, d_tupT, d_lstL, d_lstT, i_t0, i_l0, i_t1, i_l1, i_t2, i_l2, i_t3, i_l3, i_t4, i_l4, i_t5, i_l5, i_t6, i_l6, i_t7, i_l7, tr_bl, tr_int, tr_non, tr_tup, tr_lst, y_nil, y_cons, y_next, y_ret, y_brk, y_cnt, y_asg, y_par, y_par1, y_par2, y_ownL, y_ownK, y_app, y_appK, y_app2, y_aug, y_augK, y_augA, y_augS, y_setd, y_set1, y_set2, y_set3, y_set4, y_expr, y_exprK, y_ret1, y_retK, y_retn, y_ifs, y_ifsT, y_ifsF, y_forr, y_forK, y_whil, y_pas, y_brk1, y_cnt1, y_frz, y_frzK, y_asgK, fin_ret, fin_next, g_nm, g_tp, g_nil, g_cons, Res.bind_ok, SRes.of_ok, Option.bind_some, List.getElem?_cons_zero, List.getElem?_cons_succ, List.set_cons_zero, List.set_cons_succ, List.length_cons, List.length_nil, if_true, if_false, Nat.reduceAdd, Nat.reduceLT, Nat.zero_add, decide_true, decide_false, Bool.not_true, Bool.not_false, not_true_eq_false, not_false_eq_true, eq_self, p_bind, p_of, p_then, p_fin, k_ifeD, y_ifsD, ar_is_less_0, r_is_less n u t M h2 h1]
  split <;> rfl
theorem r_wholes (n : Nat) (t : Int × Int) (M : Sto) (h : 0 < t.2) (h1 : t.2.natAbs < 2 ^ 4000) : cal (n + 1) 4 [frD t] M = .ok (.int (t.1 / t.2)) M := by
  rw [st_wholes]
  simp only [frD, f4, C_cal, C_arr, C_gl, lkK_val, pkK_own, x_cint, x_cstr, x_cbl, x_cnon, x_var, x_glob, x_fnv, x_tup, x_lst, x_bin, x_neg, x_cmp, x_andv, x_orv, x_one, x_notv, x_ife, x_idx, x_dgt, x_slc, x_call, x_blt, x_isi, x_comp, x_dsp, xs_nil, xs_cons, xp_nil, xp_cons, xo_non, xo_som, xt_val, xt_cmp, xt_not, xt_and, xt_or, xt_one, xq_nil, xq_one, xi_seq, xi_rng1, xi_rng2, pk_own, pk_cint, pk_cstr, pk_cbl, pk_cnon, pk_var, pk_glob, pk_fnv, pk_tup, pk_lst, pk_bin, pk_neg, pk_cmp, pk_andv, pk_orv, pk_one, pk_notv, pk_ife, pk_idx, pk_dgt, pk_slc, pk_call, pk_blt, pk_isi, pk_comp, pk_dsp, k_tup, k_lst, k_con1, k_pcon1, k_con2, k_bin1, k_cmp1, k_idx1, k_dgt1, k_slc1, k_slc2, k_neg, k_not, k_non, k_ifeT, k_ifeF, k_cal1, k_cal2, k_cal3, k_isi, k_intO, k_bl, k_tcmp1, k_tnot, k_tandT, k_tandF, k_torT, k_torF, k_dsp, k_seqT, k_seqL, k_comp, d_add, d_sub, d_lt, d_le, d_gt, d_ge, d_min, d_max, d_abs, d_lenT, d_lenL, d_tupL, d_tupT, d_lstL, d_lstT, i_t0, i_l0, i_t1, i_l1, i_t2, i_l2, i_t3, i_l3, i_t4, i_l4, i_t5, i_l5, i_t6, i_l6, i_t7, i_l7, tr_bl, tr_int, tr_non, tr_tup, tr_lst, y_nil, y_cons, y_next, y_ret, y_brk, y_cnt, y_asg, y_par, y_par1, y_par2, y_ownL, y_ownK, y_app, y_appK, y_app2, y_aug, y_augK, y_augA, y_augS, y_setd, y_set1, y_set2, y_set3, y_set4, y_expr, y_exprK, y_ret1, y_retK, y_retn, y_ifs, y_ifsT, y_ifsF, y_forr, y_forK, y_whil, y_pas, y_brk1, y_cnt1, y_frz, y_frzK, y_asgK, fin_ret, fin_next, g_nm, g_tp, g_nil, g_cons, Res.bind_ok, SRes.of_ok, Option.bind_some, List.getElem?_cons_zero, List.getElem?_cons_succ, List.set_cons_zero, List.set_cons_succ, List.length_cons, List.length_nil, if_true, if_false, Nat.reduceAdd, Nat.reduceLT, Nat.zero_add, decide_true, decide_false, Bool.not_true, Bool.not_false, not_true_eq_false, not_false_eq_true, eq_self, d_fdiv h h1]
theorem one_bd (k : Nat) (hk : 1 ≤ k) : bd k 1 := (bd_of (k := 1) (by decide) (by decide) (by decide)).up hk
theorem r_grown (n : Nat) {k : Nat} {t : Int × Int} {s : (Int × Int) × Int} (M : Sto) (h : Fr k t) (g : Sh s) (hk : k ≤ 2000) : cal (n + 3) 5 [frD t, shD s] M = .ok (frD (moreL t s)) M := by
  have q := plusL_ok h g.f
  have e1 : widthOk (plusL t s.1).1 1 = true := q.bn.w (one_bd 1 (by decide))
  have e2 : widthOk s.2 (plusL t s.1).2 = true := g.b.w q.bp
  have z := r_lesser n (plusL t s.1) (s.2, 1) M e1 e2
  rw [st_grown]
  simp only [shD, f5, C_cal, C_arr, C_gl, lkK_val, pkK_own, x_cint, x_cstr, x_cbl, x_cnon, x_var, x_glob, x_fnv, x_tup, x_lst, x_bin, x_neg, x_cmp, x_andv, x_orv, x_one, x_notv, x_ife, x_idx, x_dgt, x_slc, x_call, x_blt, x_isi, x_comp, x_dsp, xs_nil, xs_cons, xp_nil, xp_cons, xo_non, xo_som, xt_val, xt_cmp, xt_not, xt_and, xt_or, xt_one, xq_nil, xq_one, xi_seq, xi_rng1, xi_rng2, pk_own, pk_cint, pk_cstr, pk_cbl, pk_cnon, pk_var, pk_glob, pk_fnv, pk_tup, pk_lst, pk_bin, pk_neg, pk_cmp, pk_andv, pk_orv, pk_one, pk_notv, pk_ife, pk_idx, pk_dgt, pk_slc, pk_call, pk_blt, pk_isi, pk_comp, pk_dsp, k_tup, k_lst, k_con1, k_pcon1, k_con2, k_bin1, k_cmp1, k_idx1, k_dgt1, k_slc1, k_slc2, k_neg, k_not, k_non, k_ifeT, k_ifeF, k_cal1, k_cal2, k_cal3, k_isi, k_intO, k_bl, k_tcmp1, k_tnot, k_tandT, k_tandF, k_torT, k_torF, k_dsp, k_seqT, k_seqL, k_comp, d_add, d_sub, d_lt, d_le, d_gt, d_ge, d_min, d_max, d_abs, d_lenT, d_lenL, d_tupL, d_tupT, d_lstL, d_lstT, i_t0, i_l0, i_t1, i_l1, i_t2, i_l2, i_t3, i_l3, i_t4, i_l4, i_t5, i_l5, i_t6, i_l6, i_t7, i_l7, tr_bl, tr_int, tr_non, tr_tup, tr_lst, y_nil, y_cons, y_next, y_ret, y_brk, y_cnt, y_asg, y_par, y_par1, y_par2, y_ownL, y_ownK, y_app, y_appK, y_app2, y_aug, y_augK, y_augA, y_augS, y_setd, y_set1, y_set2, y_set3, y_set4, y_expr, y_exprK, y_ret1, y_retK, y_retn, y_ifs, y_ifsT, y_ifsF, y_forr, y_forK, y_whil, y_pas, y_brk1, y_cnt1, y_frz, y_frzK, y_asgK, fin_ret, fin_next, g_nm, g_tp, g_nil, g_cons, Res.bind_ok, SRes.of_ok, Option.bind_some, List.getElem?_cons_zero, List.getElem?_cons_succ, List.set_cons_zero, List.set_cons_succ, List.length_cons, List.length_nil, if_true, if_false, Nat.reduceAdd, Nat.reduceLT, Nat.zero_add, decide_true, decide_false, Bool.not_true, Bool.not_false, not_true_eq_false, not_false_eq_true, eq_self, ar_added_0, r_added n M h g.f (by omega), ar_lesser_0]
  rw [show (D.tup [D.int s.2, D.int 1]) = frD (s.2, 1) from rfl]
  simp only [C_cal, C_arr, C_gl, lkK_val, pkK_own, x_cint, x_cstr, x_cbl, x_cnon, x_var, x_glob, x_fnv, x_tup, x_lst, x_bin, x_neg, x_cmp, x_andv, x_orv, x_one, x_notv, x_ife, x_idx, x_dgt, x_slc, x_call, x_blt, x_isi, x_comp, x_dsp, xs_nil, xs_cons, xp_nil, xp_cons, xo_non, xo_som, xt_val, xt_cmp, xt_not, xt_and, xt_or, xt_one, xq_nil, xq_one, xi_seq, xi_rng1, xi_rng2, pk_own, pk_cint, pk_cstr, pk_cbl, pk_cnon, pk_var, pk_glob, pk_fnv, pk_tup, pk_lst, pk_bin, pk_neg, pk_cmp, pk_andv, pk_orv, pk_one, pk_notv, pk_ife, pk_idx, pk_dgt, pk_slc, pk_call, pk_blt, pk_isi, pk_comp, pk_dsp, k_tup, k_lst, k_con1, k_pcon1, k_con2, k_bin1, k_cmp1, k_idx1, k_dgt1, k_slc1, k_slc2, k_neg, k_not, k_non, k_ifeT, k_ifeF, k_cal1, k_cal2, k_cal3, k_isi, k_intO, k_bl, k_tcmp1, k_tnot, k_tandT, k_tandF, k_torT, k_torF, k_dsp, k_seqT, k_seqL, k_comp, d_add, d_sub, d_lt, d_le, d_gt, d_ge, d_min, d_max, d_abs, d_lenT, d_lenL, d_tupL, d_tupT, d_lstL, d_lstT, i_t0, i_l0, i_t1, i_l1, i_t2, i_l2, i_t3, i_l3, i_t4, i_l4, i_t5, i_l5, i_t6, i_l6, i_t7, i_l7, tr_bl, tr_int, tr_non, tr_tup, tr_lst, y_nil, y_cons, y_next, y_ret, y_brk, y_cnt, y_asg, y_par, y_par1, y_par2, y_ownL, y_ownK, y_app, y_appK, y_app2, y_aug, y_augK, y_augA, y_augS, y_setd, y_set1, y_set2, y_set3, y_set4, y_expr, y_exprK, y_ret1, y_retK, y_retn, y_ifs, y_ifsT, y_ifsF, y_forr, y_forK, y_whil, y_pas, y_brk1, y_cnt1, y_frz, y_frzK, y_asgK, fin_ret, fin_next, g_nm, g_tp, g_nil, g_cons, Res.bind_ok, SRes.of_ok, Option.bind_some, List.getElem?_cons_zero, List.getElem?_cons_succ, List.set_cons_zero, List.set_cons_succ, List.length_cons, List.length_nil, if_true, if_false, Nat.reduceAdd, Nat.reduceLT, Nat.zero_add, decide_true, decide_false, Bool.not_true, Bool.not_false, not_true_eq_false, not_false_eq_true, eq_self, z, moreL]
  split <;> rfl
theorem r_more (n : Nat) {k : Nat} {t : Int × Int} {s : (Int × Int) × Int} (M : Sto) (h : Fr k t) (g : Sh s) (hk : k ≤ 2000) : cal (n + 3) 14 [frD t, shD s] M = .ok (frD (moreL t s)) M := by
  have q := plusL_ok h g.f
  have e1 : widthOk (plusL t s.1).1 1 = true := q.bn.w (one_bd 1 (by decide))
  have e2 : widthOk s.2 (plusL t s.1).2 = true := g.b.w q.bp
  have z := r_less (n + 1) (s.2, 1) (plusL t s.1) M e2 e1
  rw [st__law_more]
  simp only [shD, f14, C_cal, C_arr, C_gl, lkK_val, pkK_own, x_cint, x_cstr, x_cbl, x_cnon, x_var, x_glob, x_fnv, x_tup, x_lst, x_bin, x_neg, x_cmp, x_andv, x_orv, x_one, x_notv, x_ife, x_idx, x_dgt, x_slc, x_call, x_blt, x_isi, x_comp, x_dsp, xs_nil, xs_cons, xp_nil, xp_cons, xo_non, xo_som, xt_val, xt_cmp, xt_not, xt_and, xt_or, xt_one, xq_nil, xq_one, xi_seq, xi_rng1, xi_rng2, pk_own, pk_cint, pk_cstr, pk_cbl, pk_cnon, pk_var, pk_glob, pk_fnv, pk_tup, pk_lst, pk_bin, pk_neg, pk_cmp, pk_andv, pk_orv, pk_one, pk_notv, pk_ife, pk_idx, pk_dgt, pk_slc, pk_call, pk_blt, pk_isi, pk_comp, pk_dsp, k_tup, k_lst, k_con1, k_pcon1, k_con2, k_bin1, k_cmp1, k_idx1, k_dgt1, k_slc1, k_slc2, k_neg, k_not, k_non, k_ifeT, k_ifeF, k_cal1, k_cal2, k_cal3, k_isi, k_intO, k_bl, k_tcmp1, k_tnot, k_tandT, k_tandF, k_torT, k_torF, k_dsp, k_seqT, k_seqL, k_comp, d_add, d_sub, d_lt, d_le, d_gt, d_ge, d_min, d_max, d_abs, d_lenT, d_lenL, d_tupL, d_tupT, d_lstL, d_lstT, i_t0, i_l0, i_t1, i_l1, i_t2, i_l2, i_t3, i_l3, i_t4, i_l4, i_t5, i_l5, i_t6, i_l6, i_t7, i_l7, tr_bl, tr_int, tr_non, tr_tup, tr_lst, y_nil, y_cons, y_next, y_ret, y_brk, y_cnt, y_asg, y_par, y_par1, y_par2, y_ownL, y_ownK, y_app, y_appK, y_app2, y_aug, y_augK, y_augA, y_augS, y_setd, y_set1, y_set2, y_set3, y_set4, y_expr, y_exprK, y_ret1, y_retK, y_retn, y_ifs, y_ifsT, y_ifsF, y_forr, y_forK, y_whil, y_pas, y_brk1, y_cnt1, y_frz, y_frzK, y_asgK, fin_ret, fin_next, g_nm, g_tp, g_nil, g_cons, Res.bind_ok, SRes.of_ok, Option.bind_some, List.getElem?_cons_zero, List.getElem?_cons_succ, List.set_cons_zero, List.set_cons_succ, List.length_cons, List.length_nil, if_true, if_false, Nat.reduceAdd, Nat.reduceLT, Nat.zero_add, decide_true, decide_false, Bool.not_true, Bool.not_false, not_true_eq_false, not_false_eq_true, eq_self, ar__law_plus_0, r_plus n M h g.f (by omega), ar__law_less_0]
  rw [show (D.tup [D.int s.2, D.int 1]) = frD (s.2, 1) from rfl]
  simp only [C_cal, C_arr, C_gl, lkK_val, pkK_own, x_cint, x_cstr, x_cbl, x_cnon, x_var, x_glob, x_fnv, x_tup, x_lst, x_bin, x_neg, x_cmp, x_andv, x_orv, x_one, x_notv, x_ife, x_idx, x_dgt, x_slc, x_call, x_blt, x_isi, x_comp, x_dsp, xs_nil, xs_cons, xp_nil, xp_cons, xo_non, xo_som, xt_val, xt_cmp, xt_not, xt_and, xt_or, xt_one, xq_nil, xq_one, xi_seq, xi_rng1, xi_rng2, pk_own, pk_cint, pk_cstr, pk_cbl, pk_cnon, pk_var, pk_glob, pk_fnv, pk_tup, pk_lst, pk_bin, pk_neg, pk_cmp, pk_andv, pk_orv, pk_one, pk_notv, pk_ife, pk_idx, pk_dgt, pk_slc, pk_call, pk_blt, pk_isi, pk_comp, pk_dsp, k_tup, k_lst, k_con1, k_pcon1, k_con2, k_bin1, k_cmp1, k_idx1, k_dgt1, k_slc1, k_slc2, k_neg, k_not, k_non, k_ifeT, k_ifeF, k_cal1, k_cal2, k_cal3, k_isi, k_intO, k_bl, k_tcmp1, k_tnot, k_tandT, k_tandF, k_torT, k_torF, k_dsp, k_seqT, k_seqL, k_comp, d_add, d_sub, d_lt, d_le, d_gt, d_ge, d_min, d_max, d_abs, d_lenT, d_lenL, d_tupL, d_tupT, d_lstL, d_lstT, i_t0, i_l0, i_t1, i_l1, i_t2, i_l2, i_t3, i_l3, i_t4, i_l4, i_t5, i_l5, i_t6, i_l6, i_t7, i_l7, tr_bl, tr_int, tr_non, tr_tup, tr_lst, y_nil, y_cons, y_next, y_ret, y_brk, y_cnt, y_asg, y_par, y_par1, y_par2, y_ownL, y_ownK, y_app, y_appK, y_app2, y_aug, y_augK, y_augA, y_augS, y_setd, y_set1, y_set2, y_set3, y_set4, y_expr, y_exprK, y_ret1, y_retK, y_retn, y_ifs, y_ifsT, y_ifsF, y_forr, y_forK, y_whil, y_pas, y_brk1, y_cnt1, y_frz, y_frzK, y_asgK, fin_ret, fin_next, g_nm, g_tp, g_nil, g_cons, Res.bind_ok, SRes.of_ok, Option.bind_some, List.getElem?_cons_zero, List.getElem?_cons_succ, List.set_cons_zero, List.set_cons_succ, List.length_cons, List.length_nil, if_true, if_false, Nat.reduceAdd, Nat.reduceLT, Nat.zero_add, decide_true, decide_false, Bool.not_true, Bool.not_false, not_true_eq_false, not_false_eq_true, eq_self, p_bind, p_of, p_then, p_fin, k_ifeD, y_ifsD, ar__law_less_0, z, moreL]
  split <;> rfl
def payL (t : Int × Int) (many : Int) : Int × Int := ratioL (t.1 - many * t.2) t.2
theorem mn_ok {t : Int × Int} (h : 0 ≤ t.1) (p : 0 < t.2) {m : Int} (h0 : 0 ≤ m) (h1 : m ≤ t.1 / t.2) : 0 ≤ t.1 - m * t.2 ∧ t.1 - m * t.2 ≤ t.1 := by
  have e := Int.mul_le_mul_of_nonneg_right h1 (Int.le_of_lt p)
  have e2 := Int.ediv_mul_le t.1 (show t.2 ≠ 0 by omega)
  have e3 := Int.mul_nonneg h0 (Int.le_of_lt p)
  omega
theorem payL_ok {k : Nat} {t : Int × Int} (h : Fr k t) {m : Int} (h0 : 0 ≤ m) (h1 : m ≤ t.1 / t.2) : Fr k (payL t m) := by
  obtain ⟨a, b⟩ := mn_ok h.n h.p h0 h1
  exact ratioL_ok a h.p (h.bn.le a b) h.bp
def mnL (t : Int × Int) (cost : Int) : Int := if cost < t.1 / t.2 then cost else t.1 / t.2
theorem mnL_ok {t : Int × Int} {cost : Int} (h : 0 ≤ t.1) (p : 0 < t.2) (hc : 0 ≤ cost) : 0 ≤ mnL t cost ∧ mnL t cost ≤ t.1 / t.2 := by
  have := Int.ediv_nonneg h (Int.le_of_lt p)
  unfold mnL
  split <;> omega
theorem r_paid (n : Nat) {k : Nat} {t : Int × Int} (M : Sto) (h : Fr k t) (cost : Int) (hc : 0 ≤ cost) (hk : k ≤ 1900) : cal (n + 2) 6 [frD t, .int cost] M = .ok (.tup [frD (payL t (mnL t cost)), .int (mnL t cost)]) M := by
  obtain ⟨m0, m1⟩ := mnL_ok h.n h.p hc
  obtain ⟨a, b⟩ := mn_ok h.n h.p m0 m1
  have wb : bd k (mnL t cost) := (h.bn.div h.n h.p).le m0 m1
  have w1 : widthOk (mnL t cost) t.2 = true := wb.w h.bp
  have hw : t.2.natAbs < 2 ^ 4000 := h.bp.up (by omega)
  have z := r_wholes n t M h.p hw
  have z2 := r_ratio n (t.1 - mnL t cost * t.2) t.2 M a h.p hw
  have em : (if cost < t.1 / t.2 then cost else t.1 / t.2) = mnL t cost := rfl
  rw [st_paid]
  simp only [f6, C_cal, C_arr, C_gl, lkK_val, pkK_own, x_cint, x_cstr, x_cbl, x_cnon, x_var, x_glob, x_fnv, x_tup, x_lst, x_bin, x_neg, x_cmp, x_andv, x_orv, x_one, x_notv, x_ife, x_idx, x_dgt, x_slc, x_call, x_blt, x_isi, x_comp, x_dsp, xs_nil, xs_cons, xp_nil, xp_cons, xo_non, xo_som, xt_val, xt_cmp, xt_not, xt_and, xt_or, xt_one, xq_nil, xq_one, xi_seq, xi_rng1, xi_rng2, pk_own, pk_cint, pk_cstr, pk_cbl, pk_cnon, pk_var, pk_glob, pk_fnv, pk_tup, pk_lst, pk_bin, pk_neg, pk_cmp, pk_andv, pk_orv, pk_one, pk_notv, pk_ife, pk_idx, pk_dgt, pk_slc, pk_call, pk_blt, pk_isi, pk_comp, pk_dsp, k_tup, k_lst, k_con1, k_pcon1, k_con2, k_bin1, k_cmp1, k_idx1, k_dgt1, k_slc1, k_slc2, k_neg, k_not, k_non, k_ifeT, k_ifeF, k_cal1, k_cal2, k_cal3, k_isi, k_intO, k_bl, k_tcmp1, k_tnot, k_tandT, k_tandF, k_torT, k_torF, k_dsp, k_seqT, k_seqL, k_comp, d_add, d_sub, d_lt, d_le, d_gt, d_ge, d_min, d_max, d_abs, d_lenT, d_lenL, d_tupL, d_tupT, d_lstL, d_lstT, i_t0, i_l0, i_t1, i_l1, i_t2, i_l2, i_t3, i_l3, i_t4, i_l4, i_t5, i_l5, i_t6, i_l6, i_t7, i_l7, tr_bl, tr_int, tr_non, tr_tup, tr_lst, y_nil, y_cons, y_next, y_ret, y_brk, y_cnt, y_asg, y_par, y_par1, y_par2, y_ownL, y_ownK, y_app, y_appK, y_app2, y_aug, y_augK, y_augA, y_augS, y_setd, y_set1, y_set2, y_set3, y_set4, y_expr, y_exprK, y_ret1, y_retK, y_retn, y_ifs, y_ifsT, y_ifsF, y_forr, y_forK, y_whil, y_pas, y_brk1, y_cnt1, y_frz, y_frzK, y_asgK, fin_ret, fin_next, g_nm, g_tp, g_nil, g_cons, Res.bind_ok, SRes.of_ok, Option.bind_some, List.getElem?_cons_zero, List.getElem?_cons_succ, List.set_cons_zero, List.set_cons_succ, List.length_cons, List.length_nil, if_true, if_false, Nat.reduceAdd, Nat.reduceLT, Nat.zero_add, decide_true, decide_false, Bool.not_true, Bool.not_false, not_true_eq_false, not_false_eq_true, eq_self, ar_wholes_0, z, em]
  simp only [frD, C_cal, C_arr, C_gl, lkK_val, pkK_own, x_cint, x_cstr, x_cbl, x_cnon, x_var, x_glob, x_fnv, x_tup, x_lst, x_bin, x_neg, x_cmp, x_andv, x_orv, x_one, x_notv, x_ife, x_idx, x_dgt, x_slc, x_call, x_blt, x_isi, x_comp, x_dsp, xs_nil, xs_cons, xp_nil, xp_cons, xo_non, xo_som, xt_val, xt_cmp, xt_not, xt_and, xt_or, xt_one, xq_nil, xq_one, xi_seq, xi_rng1, xi_rng2, pk_own, pk_cint, pk_cstr, pk_cbl, pk_cnon, pk_var, pk_glob, pk_fnv, pk_tup, pk_lst, pk_bin, pk_neg, pk_cmp, pk_andv, pk_orv, pk_one, pk_notv, pk_ife, pk_idx, pk_dgt, pk_slc, pk_call, pk_blt, pk_isi, pk_comp, pk_dsp, k_tup, k_lst, k_con1, k_pcon1, k_con2, k_bin1, k_cmp1, k_idx1, k_dgt1, k_slc1, k_slc2, k_neg, k_not, k_non, k_ifeT, k_ifeF, k_cal1, k_cal2, k_cal3, k_isi, k_intO, k_bl, k_tcmp1, k_tnot, k_tandT, k_tandF, k_torT, k_torF, k_dsp, k_seqT, k_seqL, k_comp, d_add, d_sub, d_lt, d_le, d_gt, d_ge, d_min, d_max, d_abs, d_lenT, d_lenL, d_tupL, d_tupT, d_lstL, d_lstT, i_t0, i_l0, i_t1, i_l1, i_t2, i_l2, i_t3, i_l3, i_t4, i_l4, i_t5, i_l5, i_t6, i_l6, i_t7, i_l7, tr_bl, tr_int, tr_non, tr_tup, tr_lst, y_nil, y_cons, y_next, y_ret, y_brk, y_cnt, y_asg, y_par, y_par1, y_par2, y_ownL, y_ownK, y_app, y_appK, y_app2, y_aug, y_augK, y_augA, y_augS, y_setd, y_set1, y_set2, y_set3, y_set4, y_expr, y_exprK, y_ret1, y_retK, y_retn, y_ifs, y_ifsT, y_ifsF, y_forr, y_forK, y_whil, y_pas, y_brk1, y_cnt1, y_frz, y_frzK, y_asgK, fin_ret, fin_next, g_nm, g_tp, g_nil, g_cons, Res.bind_ok, SRes.of_ok, Option.bind_some, List.getElem?_cons_zero, List.getElem?_cons_succ, List.set_cons_zero, List.set_cons_succ, List.length_cons, List.length_nil, if_true, if_false, Nat.reduceAdd, Nat.reduceLT, Nat.zero_add, decide_true, decide_false, Bool.not_true, Bool.not_false, not_true_eq_false, not_false_eq_true, eq_self, d_mul w1, ar_ratio_0, z2, payL]
def paceL (s : (Int × Int) × Int) : Nat → Int × Int → List Int
  | 0, _ => []
  | n + 1, t => ((moreL t s).1 / (moreL t s).2) :: paceL s n (payL (moreL t s) ((moreL t s).1 / (moreL t s).2))
theorem mnL_self (t : Int × Int) : mnL t (t.1 / t.2) = t.1 / t.2 := by
  unfold mnL
  split <;> rfl
theorem l_pace (n : Nat) {s : (Int × Int) × Int} (g : Sh s) (a1 : D) (M : Sto) : ∀ (ds : List D) (t : Int × Int) (k : Nat) (acc : List D) (e4 e5 : Slot), Fr k t → k + 31 * ds.length ≤ 1900 → acc.length + ds.length ≤ 1000 →
    ∃ t' e4' e5', forL (forS (C (n + 3)) (.nm 4) [.asg (.nm 2) (.call 5 0 (.cons (.var 2) (.cons (.var 0) .nil)) (.nil)), .asg (.tp [.nm 2, .nm 5]) (.call 6 0 (.cons (.var 2) (.cons (.call 4 0 (.cons (.var 2) .nil) (.nil)) .nil)) (.nil)), .app 3 (.var 5)]) ds
      [.val (shD s), .val a1, .val (frD t), .own acc, e4, e5] M = .next [.val (shD s), .val a1, .val (frD t'), .own (acc ++ (paceL s ds.length t).map D.int), e4', e5'] M
  | [], t, k, acc, e4, e5, h, _, _ => ⟨t, e4, e5, by simp [forL, paceL]⟩
  | d :: ds, t, k, acc, e4, e5, h, hk, hl => by
    rw [List.length_cons] at hk hl
    have u := moreL_ok h g
    have z1 := r_grown n M h g (by omega)
    have w0 := Int.ediv_nonneg u.n (Int.le_of_lt u.p)
    have z2 := r_wholes (n + 2) (moreL t s) M u.p (u.bp.up (by omega))
    have z3 := r_paid (n + 1) M u ((moreL t s).1 / (moreL t s).2) w0 (by omega)
    rw [mnL_self] at z3
    have p := payL_ok u w0 (Int.le_refl _)
    have hll : acc.length < line := by unfold line; omega
    obtain ⟨t', e4', e5', ih⟩ := l_pace n g a1 M ds (payL (moreL t s) ((moreL t s).1 / (moreL t s).2)) (k + 31) (acc ++ [.int ((moreL t s).1 / (moreL t s).2)]) (.val d) (.val (.int ((moreL t s).1 / (moreL t s).2))) p (by omega) (by rw [List.length_append]; simp only [List.length_cons, List.length_nil]; omega)
    have st : forS (C (n + 3)) (.nm 4) [.asg (.nm 2) (.call 5 0 (.cons (.var 2) (.cons (.var 0) .nil)) (.nil)), .asg (.tp [.nm 2, .nm 5]) (.call 6 0 (.cons (.var 2) (.cons (.call 4 0 (.cons (.var 2) .nil) (.nil)) .nil)) (.nil)), .app 3 (.var 5)] d
      [.val (shD s), .val a1, .val (frD t), .own acc, e4, e5] M = .next [.val (shD s), .val a1, .val (frD (payL (moreL t s) ((moreL t s).1 / (moreL t s).2))), .own (acc ++ [.int ((moreL t s).1 / (moreL t s).2)]), .val d, .val (.int ((moreL t s).1 / (moreL t s).2))] M := by
      simp only [y_forS, C_cal, C_arr, C_gl, lkK_val, pkK_own, x_cint, x_cstr, x_cbl, x_cnon, x_var, x_glob, x_fnv, x_tup, x_lst, x_bin, x_neg, x_cmp, x_andv, x_orv, x_one, x_notv, x_ife, x_idx, x_dgt, x_slc, x_call, x_blt, x_isi, x_comp, x_dsp, xs_nil, xs_cons, xp_nil, xp_cons, xo_non, xo_som, xt_val, xt_cmp, xt_not, xt_and, xt_or, xt_one, xq_nil, xq_one, xi_seq, xi_rng1, xi_rng2, pk_own, pk_cint, pk_cstr, pk_cbl, pk_cnon, pk_var, pk_glob, pk_fnv, pk_tup, pk_lst, pk_bin, pk_neg, pk_cmp, pk_andv, pk_orv, pk_one, pk_notv, pk_ife, pk_idx, pk_dgt, pk_slc, pk_call, pk_blt, pk_isi, pk_comp, pk_dsp, k_tup, k_lst, k_con1, k_pcon1, k_con2, k_bin1, k_cmp1, k_idx1, k_dgt1, k_slc1, k_slc2, k_neg, k_not, k_non, k_ifeT, k_ifeF, k_cal1, k_cal2, k_cal3, k_isi, k_intO, k_bl, k_tcmp1, k_tnot, k_tandT, k_tandF, k_torT, k_torF, k_dsp, k_seqT, k_seqL, k_comp, d_add, d_sub, d_lt, d_le, d_gt, d_ge, d_min, d_max, d_abs, d_lenT, d_lenL, d_tupL, d_tupT, d_lstL, d_lstT, i_t0, i_l0, i_t1, i_l1, i_t2, i_l2, i_t3, i_l3, i_t4, i_l4, i_t5, i_l5, i_t6, i_l6, i_t7, i_l7, tr_bl, tr_int, tr_non, tr_tup, tr_lst, y_nil, y_cons, y_next, y_ret, y_brk, y_cnt, y_asg, y_par, y_par1, y_par2, y_ownL, y_ownK, y_app, y_appK, y_app2, y_aug, y_augK, y_augA, y_augS, y_setd, y_set1, y_set2, y_set3, y_set4, y_expr, y_exprK, y_ret1, y_retK, y_retn, y_ifs, y_ifsT, y_ifsF, y_forr, y_forK, y_whil, y_pas, y_brk1, y_cnt1, y_frz, y_frzK, y_asgK, fin_ret, fin_next, g_nm, g_tp, g_nil, g_cons, Res.bind_ok, SRes.of_ok, Option.bind_some, List.getElem?_cons_zero, List.getElem?_cons_succ, List.set_cons_zero, List.set_cons_succ, List.length_cons, List.length_nil, if_true, if_false, Nat.reduceAdd, Nat.reduceLT, Nat.zero_add, decide_true, decide_false, Bool.not_true, Bool.not_false, not_true_eq_false, not_false_eq_true, eq_self, ar_grown_0, z1, ar_wholes_0, z2, ar_paid_0, z3, hll]
    refine ⟨t', e4', e5', ?_⟩
    simp only [forL, st, ih, paceL, List.length_cons, List.map_cons, List.append_assoc, List.singleton_append]
theorem r_pace (n : Nat) {s : (Int × Int) × Int} (g : Sh s) (ticks : Nat) (t : Int × Int) (k : Nat) (M : Sto) (h : Fr k t) (hk : k ≤ 100) (ht : ticks ≤ 50) : cal (n + 4) 7 [shD s, .int ticks, frD t] M = .ok (.tup ((paceL s ticks t).map .int)) M := by
  obtain ⟨t', e4', e5', z⟩ := l_pace n g (.int ticks) M (iota 0 ticks) t k [] .non .non h (by rw [iota_len]; omega) (by rw [iota_len]; simp only [List.length_nil]; omega)
  rw [iota_len, List.nil_append] at z
  have hr : (0 : Int) ≤ (ticks : Int) ∧ (ticks : Int) ≤ 1000000 := by omega
  rw [st_pace_of]
  simp only [f7, C_cal, C_arr, C_gl, lkK_val, pkK_own, x_cint, x_cstr, x_cbl, x_cnon, x_var, x_glob, x_fnv, x_tup, x_lst, x_bin, x_neg, x_cmp, x_andv, x_orv, x_one, x_notv, x_ife, x_idx, x_dgt, x_slc, x_call, x_blt, x_isi, x_comp, x_dsp, xs_nil, xs_cons, xp_nil, xp_cons, xo_non, xo_som, xt_val, xt_cmp, xt_not, xt_and, xt_or, xt_one, xq_nil, xq_one, xi_seq, xi_rng1, xi_rng2, pk_own, pk_cint, pk_cstr, pk_cbl, pk_cnon, pk_var, pk_glob, pk_fnv, pk_tup, pk_lst, pk_bin, pk_neg, pk_cmp, pk_andv, pk_orv, pk_one, pk_notv, pk_ife, pk_idx, pk_dgt, pk_slc, pk_call, pk_blt, pk_isi, pk_comp, pk_dsp, k_tup, k_lst, k_con1, k_pcon1, k_con2, k_bin1, k_cmp1, k_idx1, k_dgt1, k_slc1, k_slc2, k_neg, k_not, k_non, k_ifeT, k_ifeF, k_cal1, k_cal2, k_cal3, k_isi, k_intO, k_bl, k_tcmp1, k_tnot, k_tandT, k_tandF, k_torT, k_torF, k_dsp, k_seqT, k_seqL, k_comp, d_add, d_sub, d_lt, d_le, d_gt, d_ge, d_min, d_max, d_abs, d_lenT, d_lenL, d_tupL, d_tupT, d_lstL, d_lstT, i_t0, i_l0, i_t1, i_l1, i_t2, i_l2, i_t3, i_l3, i_t4, i_l4, i_t5, i_l5, i_t6, i_l6, i_t7, i_l7, tr_bl, tr_int, tr_non, tr_tup, tr_lst, y_nil, y_cons, y_next, y_ret, y_brk, y_cnt, y_asg, y_par, y_par1, y_par2, y_ownL, y_ownK, y_app, y_appK, y_app2, y_aug, y_augK, y_augA, y_augS, y_setd, y_set1, y_set2, y_set3, y_set4, y_expr, y_exprK, y_ret1, y_retK, y_retn, y_ifs, y_ifsT, y_ifsF, y_forr, y_forK, y_whil, y_pas, y_brk1, y_cnt1, y_frz, y_frzK, y_asgK, fin_ret, fin_next, g_nm, g_tp, g_nil, g_cons, Res.bind_ok, SRes.of_ok, Option.bind_some, List.getElem?_cons_zero, List.getElem?_cons_succ, List.set_cons_zero, List.set_cons_succ, List.length_cons, List.length_nil, if_true, if_false, Nat.reduceAdd, Nat.reduceLT, Nat.zero_add, decide_true, decide_false, Bool.not_true, Bool.not_false, not_true_eq_false, not_false_eq_true, eq_self, k_rng1 hr, Int.toNat_natCast, z]
theorem l_lpace (n : Nat) {s : (Int × Int) × Int} (g : Sh s) (a1 : D) (M : Sto) : ∀ (ds : List D) (t : Int × Int) (k : Nat) (acc : List D) (e4 : Slot), Fr k t → k + 31 * ds.length ≤ 1900 → acc.length + ds.length ≤ 1000 →
    ∃ t' e4', forL (forS (C (n + 3)) (.nm 4) [.asg (.nm 2) (.call 14 0 (.cons (.var 2) (.cons (.var 0) .nil)) (.nil)), .app 3 (.bin .fdiv (.idx (.var 2) (.cint 0)) (.idx (.var 2) (.cint 1))), .asg (.nm 2) (.call 10 0 (.cons (.bin .mod (.idx (.var 2) (.cint 0)) (.idx (.var 2) (.cint 1))) (.cons (.idx (.var 2) (.cint 1)) .nil)) (.nil))]) ds
      [.val (shD s), .val a1, .val (frD t), .own acc, e4] M = .next [.val (shD s), .val a1, .val (frD t'), .own (acc ++ (paceL s ds.length t).map D.int), e4'] M
  | [], t, k, acc, e4, h, _, _ => ⟨t, e4, by simp [forL, paceL]⟩
  | d :: ds, t, k, acc, e4, h, hk, hl => by
    rw [List.length_cons] at hk hl
    have u := moreL_ok h g
    have z1 := r_more n M h g (by omega)
    have w0 := Int.ediv_nonneg u.n (Int.le_of_lt u.p)
    have hw : (moreL t s).2.natAbs < 2 ^ 4000 := u.bp.up (by omega)
    have z3 := r_frac (n + 2) ((moreL t s).1 % (moreL t s).2) (moreL t s).2 M (Int.emod_nonneg _ (by have := u.p; omega)) u.p hw
    have em : ratioL ((moreL t s).1 % (moreL t s).2) (moreL t s).2 = payL (moreL t s) ((moreL t s).1 / (moreL t s).2) := by
      unfold payL
      rw [Int.emod_def, Int.mul_comm]
    rw [em] at z3
    have p := payL_ok u w0 (Int.le_refl _)
    have hll : acc.length < line := by unfold line; omega
    obtain ⟨t', e4', ih⟩ := l_lpace n g a1 M ds (payL (moreL t s) ((moreL t s).1 / (moreL t s).2)) (k + 31) (acc ++ [.int ((moreL t s).1 / (moreL t s).2)]) (.val d) p (by omega) (by rw [List.length_append]; simp only [List.length_cons, List.length_nil]; omega)
    have st : forS (C (n + 3)) (.nm 4) [.asg (.nm 2) (.call 14 0 (.cons (.var 2) (.cons (.var 0) .nil)) (.nil)), .app 3 (.bin .fdiv (.idx (.var 2) (.cint 0)) (.idx (.var 2) (.cint 1))), .asg (.nm 2) (.call 10 0 (.cons (.bin .mod (.idx (.var 2) (.cint 0)) (.idx (.var 2) (.cint 1))) (.cons (.idx (.var 2) (.cint 1)) .nil)) (.nil))] d
      [.val (shD s), .val a1, .val (frD t), .own acc, e4] M = .next [.val (shD s), .val a1, .val (frD (payL (moreL t s) ((moreL t s).1 / (moreL t s).2))), .own (acc ++ [.int ((moreL t s).1 / (moreL t s).2)]), .val d] M := by
      simp only [y_forS, C_cal, C_arr, C_gl, lkK_val, pkK_own, x_cint, x_cstr, x_cbl, x_cnon, x_var, x_glob, x_fnv, x_tup, x_lst, x_bin, x_neg, x_cmp, x_andv, x_orv, x_one, x_notv, x_ife, x_idx, x_dgt, x_slc, x_call, x_blt, x_isi, x_comp, x_dsp, xs_nil, xs_cons, xp_nil, xp_cons, xo_non, xo_som, xt_val, xt_cmp, xt_not, xt_and, xt_or, xt_one, xq_nil, xq_one, xi_seq, xi_rng1, xi_rng2, pk_own, pk_cint, pk_cstr, pk_cbl, pk_cnon, pk_var, pk_glob, pk_fnv, pk_tup, pk_lst, pk_bin, pk_neg, pk_cmp, pk_andv, pk_orv, pk_one, pk_notv, pk_ife, pk_idx, pk_dgt, pk_slc, pk_call, pk_blt, pk_isi, pk_comp, pk_dsp, k_tup, k_lst, k_con1, k_pcon1, k_con2, k_bin1, k_cmp1, k_idx1, k_dgt1, k_slc1, k_slc2, k_neg, k_not, k_non, k_ifeT, k_ifeF, k_cal1, k_cal2, k_cal3, k_isi, k_intO, k_bl, k_tcmp1, k_tnot, k_tandT, k_tandF, k_torT, k_torF, k_dsp, k_seqT, k_seqL, k_comp, d_add, d_sub, d_lt, d_le, d_gt, d_ge, d_min, d_max, d_abs, d_lenT, d_lenL, d_tupL, d_tupT, d_lstL, d_lstT, i_t0, i_l0, i_t1, i_l1, i_t2, i_l2, i_t3, i_l3, i_t4, i_l4, i_t5, i_l5, i_t6, i_l6, i_t7, i_l7, tr_bl, tr_int, tr_non, tr_tup, tr_lst, y_nil, y_cons, y_next, y_ret, y_brk, y_cnt, y_asg, y_par, y_par1, y_par2, y_ownL, y_ownK, y_app, y_appK, y_app2, y_aug, y_augK, y_augA, y_augS, y_setd, y_set1, y_set2, y_set3, y_set4, y_expr, y_exprK, y_ret1, y_retK, y_retn, y_ifs, y_ifsT, y_ifsF, y_forr, y_forK, y_whil, y_pas, y_brk1, y_cnt1, y_frz, y_frzK, y_asgK, fin_ret, fin_next, g_nm, g_tp, g_nil, g_cons, Res.bind_ok, SRes.of_ok, Option.bind_some, List.getElem?_cons_zero, List.getElem?_cons_succ, List.set_cons_zero, List.set_cons_succ, List.length_cons, List.length_nil, if_true, if_false, Nat.reduceAdd, Nat.reduceLT, Nat.zero_add, decide_true, decide_false, Bool.not_true, Bool.not_false, not_true_eq_false, not_false_eq_true, eq_self, ar__law_more_0, z1, hll]
      simp only [frD, C_cal, C_arr, C_gl, lkK_val, pkK_own, x_cint, x_cstr, x_cbl, x_cnon, x_var, x_glob, x_fnv, x_tup, x_lst, x_bin, x_neg, x_cmp, x_andv, x_orv, x_one, x_notv, x_ife, x_idx, x_dgt, x_slc, x_call, x_blt, x_isi, x_comp, x_dsp, xs_nil, xs_cons, xp_nil, xp_cons, xo_non, xo_som, xt_val, xt_cmp, xt_not, xt_and, xt_or, xt_one, xq_nil, xq_one, xi_seq, xi_rng1, xi_rng2, pk_own, pk_cint, pk_cstr, pk_cbl, pk_cnon, pk_var, pk_glob, pk_fnv, pk_tup, pk_lst, pk_bin, pk_neg, pk_cmp, pk_andv, pk_orv, pk_one, pk_notv, pk_ife, pk_idx, pk_dgt, pk_slc, pk_call, pk_blt, pk_isi, pk_comp, pk_dsp, k_tup, k_lst, k_con1, k_pcon1, k_con2, k_bin1, k_cmp1, k_idx1, k_dgt1, k_slc1, k_slc2, k_neg, k_not, k_non, k_ifeT, k_ifeF, k_cal1, k_cal2, k_cal3, k_isi, k_intO, k_bl, k_tcmp1, k_tnot, k_tandT, k_tandF, k_torT, k_torF, k_dsp, k_seqT, k_seqL, k_comp, d_add, d_sub, d_lt, d_le, d_gt, d_ge, d_min, d_max, d_abs, d_lenT, d_lenL, d_tupL, d_tupT, d_lstL, d_lstT, i_t0, i_l0, i_t1, i_l1, i_t2, i_l2, i_t3, i_l3, i_t4, i_l4, i_t5, i_l5, i_t6, i_l6, i_t7, i_l7, tr_bl, tr_int, tr_non, tr_tup, tr_lst, y_nil, y_cons, y_next, y_ret, y_brk, y_cnt, y_asg, y_par, y_par1, y_par2, y_ownL, y_ownK, y_app, y_appK, y_app2, y_aug, y_augK, y_augA, y_augS, y_setd, y_set1, y_set2, y_set3, y_set4, y_expr, y_exprK, y_ret1, y_retK, y_retn, y_ifs, y_ifsT, y_ifsF, y_forr, y_forK, y_whil, y_pas, y_brk1, y_cnt1, y_frz, y_frzK, y_asgK, fin_ret, fin_next, g_nm, g_tp, g_nil, g_cons, Res.bind_ok, SRes.of_ok, Option.bind_some, List.getElem?_cons_zero, List.getElem?_cons_succ, List.set_cons_zero, List.set_cons_succ, List.length_cons, List.length_nil, if_true, if_false, Nat.reduceAdd, Nat.reduceLT, Nat.zero_add, decide_true, decide_false, Bool.not_true, Bool.not_false, not_true_eq_false, not_false_eq_true, eq_self, d_fdiv u.p hw, d_mod u.p, hll]
      simp only [frD] at z3
      simp only [C_cal, C_arr, C_gl, lkK_val, pkK_own, x_cint, x_cstr, x_cbl, x_cnon, x_var, x_glob, x_fnv, x_tup, x_lst, x_bin, x_neg, x_cmp, x_andv, x_orv, x_one, x_notv, x_ife, x_idx, x_dgt, x_slc, x_call, x_blt, x_isi, x_comp, x_dsp, xs_nil, xs_cons, xp_nil, xp_cons, xo_non, xo_som, xt_val, xt_cmp, xt_not, xt_and, xt_or, xt_one, xq_nil, xq_one, xi_seq, xi_rng1, xi_rng2, pk_own, pk_cint, pk_cstr, pk_cbl, pk_cnon, pk_var, pk_glob, pk_fnv, pk_tup, pk_lst, pk_bin, pk_neg, pk_cmp, pk_andv, pk_orv, pk_one, pk_notv, pk_ife, pk_idx, pk_dgt, pk_slc, pk_call, pk_blt, pk_isi, pk_comp, pk_dsp, k_tup, k_lst, k_con1, k_pcon1, k_con2, k_bin1, k_cmp1, k_idx1, k_dgt1, k_slc1, k_slc2, k_neg, k_not, k_non, k_ifeT, k_ifeF, k_cal1, k_cal2, k_cal3, k_isi, k_intO, k_bl, k_tcmp1, k_tnot, k_tandT, k_tandF, k_torT, k_torF, k_dsp, k_seqT, k_seqL, k_comp, d_add, d_sub, d_lt, d_le, d_gt, d_ge, d_min, d_max, d_abs, d_lenT, d_lenL, d_tupL, d_tupT, d_lstL, d_lstT, i_t0, i_l0, i_t1, i_l1, i_t2, i_l2, i_t3, i_l3, i_t4, i_l4, i_t5, i_l5, i_t6, i_l6, i_t7, i_l7, tr_bl, tr_int, tr_non, tr_tup, tr_lst, y_nil, y_cons, y_next, y_ret, y_brk, y_cnt, y_asg, y_par, y_par1, y_par2, y_ownL, y_ownK, y_app, y_appK, y_app2, y_aug, y_augK, y_augA, y_augS, y_setd, y_set1, y_set2, y_set3, y_set4, y_expr, y_exprK, y_ret1, y_retK, y_retn, y_ifs, y_ifsT, y_ifsF, y_forr, y_forK, y_whil, y_pas, y_brk1, y_cnt1, y_frz, y_frzK, y_asgK, fin_ret, fin_next, g_nm, g_tp, g_nil, g_cons, Res.bind_ok, SRes.of_ok, Option.bind_some, List.getElem?_cons_zero, List.getElem?_cons_succ, List.set_cons_zero, List.set_cons_succ, List.length_cons, List.length_nil, if_true, if_false, Nat.reduceAdd, Nat.reduceLT, Nat.zero_add, decide_true, decide_false, Bool.not_true, Bool.not_false, not_true_eq_false, not_false_eq_true, eq_self, ar__law_frac_0, z3]
    refine ⟨t', e4', ?_⟩
    simp only [forL, st, ih, paceL, List.length_cons, List.map_cons, List.append_assoc, List.singleton_append]
theorem r_lpace (n : Nat) {s : (Int × Int) × Int} (g : Sh s) (ticks : Nat) (t : Int × Int) (k : Nat) (M : Sto) (h : Fr k t) (hk : k ≤ 100) (ht : ticks ≤ 50) : cal (n + 4) 15 [shD s, .int ticks, frD t] M = .ok (.tup ((paceL s ticks t).map .int)) M := by
  obtain ⟨t', e4', z⟩ := l_lpace n g (.int ticks) M (iota 0 ticks) t k [] .non h (by rw [iota_len]; omega) (by rw [iota_len]; simp only [List.length_nil]; omega)
  rw [iota_len, List.nil_append] at z
  have hr : (0 : Int) ≤ (ticks : Int) ∧ (ticks : Int) ≤ 1000000 := by omega
  rw [st__law_pace]
  simp only [f15, C_cal, C_arr, C_gl, lkK_val, pkK_own, x_cint, x_cstr, x_cbl, x_cnon, x_var, x_glob, x_fnv, x_tup, x_lst, x_bin, x_neg, x_cmp, x_andv, x_orv, x_one, x_notv, x_ife, x_idx, x_dgt, x_slc, x_call, x_blt, x_isi, x_comp, x_dsp, xs_nil, xs_cons, xp_nil, xp_cons, xo_non, xo_som, xt_val, xt_cmp, xt_not, xt_and, xt_or, xt_one, xq_nil, xq_one, xi_seq, xi_rng1, xi_rng2, pk_own, pk_cint, pk_cstr, pk_cbl, pk_cnon, pk_var, pk_glob, pk_fnv, pk_tup, pk_lst, pk_bin, pk_neg, pk_cmp, pk_andv, pk_orv, pk_one, pk_notv, pk_ife, pk_idx, pk_dgt, pk_slc, pk_call, pk_blt, pk_isi, pk_comp, pk_dsp, k_tup, k_lst, k_con1, k_pcon1, k_con2, k_bin1, k_cmp1, k_idx1, k_dgt1, k_slc1, k_slc2, k_neg, k_not, k_non, k_ifeT, k_ifeF, k_cal1, k_cal2, k_cal3, k_isi, k_intO, k_bl, k_tcmp1, k_tnot, k_tandT, k_tandF, k_torT, k_torF, k_dsp, k_seqT, k_seqL, k_comp, d_add, d_sub, d_lt, d_le, d_gt, d_ge, d_min, d_max, d_abs, d_lenT, d_lenL, d_tupL, d_tupT, d_lstL, d_lstT, i_t0, i_l0, i_t1, i_l1, i_t2, i_l2, i_t3, i_l3, i_t4, i_l4, i_t5, i_l5, i_t6, i_l6, i_t7, i_l7, tr_bl, tr_int, tr_non, tr_tup, tr_lst, y_nil, y_cons, y_next, y_ret, y_brk, y_cnt, y_asg, y_par, y_par1, y_par2, y_ownL, y_ownK, y_app, y_appK, y_app2, y_aug, y_augK, y_augA, y_augS, y_setd, y_set1, y_set2, y_set3, y_set4, y_expr, y_exprK, y_ret1, y_retK, y_retn, y_ifs, y_ifsT, y_ifsF, y_forr, y_forK, y_whil, y_pas, y_brk1, y_cnt1, y_frz, y_frzK, y_asgK, fin_ret, fin_next, g_nm, g_tp, g_nil, g_cons, Res.bind_ok, SRes.of_ok, Option.bind_some, List.getElem?_cons_zero, List.getElem?_cons_succ, List.set_cons_zero, List.set_cons_succ, List.length_cons, List.length_nil, if_true, if_false, Nat.reduceAdd, Nat.reduceLT, Nat.zero_add, decide_true, decide_false, Bool.not_true, Bool.not_false, not_true_eq_false, not_false_eq_true, eq_self, k_rng1 hr, Int.toNat_natCast, z]
end Mp.Lw
end

section
set_option Elab.async false
set_option linter.all false
set_option maxRecDepth 100000
set_option maxHeartbeats 0
namespace Mp.Lw
open PySem PySem.Spec
theorem r_draw (n : Nat) {b m : Int} {M : Sto} (F : FeedAt 0 b M) (hb : b < 2 ^ 100) (hm : 0 < m) (hm2 : m < 2 ^ 64) : ∃ r M', cal (n + 1) 9 [.obj 0, .int m] M = .ok (.int r) M' ∧ 0 ≤ r ∧ r < m ∧ FeedAt 0 (b + 1) M' := by
  obtain ⟨r, M', h, h0, h1, f, _⟩ := draw_run (c := C n) (c1 := 1) (c2 := 1) (c3 := 31) (p := 10) (e := 18) (c4 := 1000000403) (c5 := 80209) (c6 := 83) (c7 := 2147483563) (c8 := 5928373) (c9 := 53) (c10 := 2147483543) (c11 := 43) (c12 := 2147483489) (c13 := 16) rfl rfl ⟨by decide, by decide, by decide, by decide⟩
    ⟨by decide, by decide⟩ ⟨by decide, by decide⟩ ⟨by decide, by decide⟩ ⟨by decide, by decide⟩ ⟨by decide, by decide⟩ ⟨by decide, by decide⟩ ⟨by decide, by decide⟩ ⟨by decide, by decide⟩ F hb hm hm2
  exact ⟨r, M', h, h0, h1, f⟩
theorem bd30 {i : Int} (h : 0 ≤ i) (h2 : i < 2 ^ 30) : bd 30 i := bd_of (by decide) (by omega) h2
theorem fr30 {a b : Int} (h : 0 ≤ a) (h2 : a < 2 ^ 30) (h3 : 0 < b) (h4 : b < 2 ^ 30) : Fr 30 (a, b) := ⟨h, h3, bd30 h h2, bd30 (Int.le_of_lt h3) h4⟩
theorem r_share (n : Nat) {b : Int} {M : Sto} (F : FeedAt 0 b M) (hb : b < 2 ^ 90) : ∃ s M', cal (n + 2) 13 [.obj 0] M = .ok (shD s) M' ∧ Sh s ∧ FeedAt 0 (b + 2) M' := by
  obtain ⟨r1, M1, e1, a1, b1, F1⟩ := r_draw n F (by omega) (show (0 : Int) < 9 by decide) (by decide)
  obtain ⟨r2, M2, e2, a2, b2, F2⟩ := r_draw n F1 (by omega) (show (0 : Int) < 6 by decide) (by decide)
  obtain ⟨d, hd, hi⟩ := idx_dom (ds := [.tup [.int 1, .int 2], .tup [.int 1, .int 1], .tup [.int 3, .int 2], .tup [.int 2, .int 1], .tup [.int 5, .int 3], .tup [.int 7, .int 4], .tup [.int 0, .int 1], .tup [.int 1, .int 3], .tup [.int 3, .int 1]]) a1 b1
  have hf : ∃ t, d = frD t ∧ Fr 30 t := by
    simp only [List.mem_cons, List.not_mem_nil, or_false] at hd
    rcases hd with rfl | rfl | rfl | rfl | rfl | rfl | rfl | rfl | rfl <;> exact ⟨(_, _), rfl, fr30 (by decide) (by decide) (by decide) (by decide)⟩
  obtain ⟨t, rfl, ht⟩ := hf
  refine ⟨(t, 1 + r2), M2, ?_, ⟨ht, by show 0 ≤ 1 + r2; omega, bd30 (by show 0 ≤ 1 + r2; omega) (by show 1 + r2 < _; omega)⟩, F2.up (by omega)⟩
  rw [st__law_share]
  simp only [f13, C_cal, C_arr, C_gl, lkK_val, pkK_own, x_cint, x_cstr, x_cbl, x_cnon, x_var, x_glob, x_fnv, x_tup, x_lst, x_bin, x_neg, x_cmp, x_andv, x_orv, x_one, x_notv, x_ife, x_idx, x_dgt, x_slc, x_call, x_blt, x_isi, x_comp, x_dsp, xs_nil, xs_cons, xp_nil, xp_cons, xo_non, xo_som, xt_val, xt_cmp, xt_not, xt_and, xt_or, xt_one, xq_nil, xq_one, xi_seq, xi_rng1, xi_rng2, pk_own, pk_cint, pk_cstr, pk_cbl, pk_cnon, pk_var, pk_glob, pk_fnv, pk_tup, pk_lst, pk_bin, pk_neg, pk_cmp, pk_andv, pk_orv, pk_one, pk_notv, pk_ife, pk_idx, pk_dgt, pk_slc, pk_call, pk_blt, pk_isi, pk_comp, pk_dsp, k_tup, k_lst, k_con1, k_pcon1, k_con2, k_bin1, k_cmp1, k_idx1, k_dgt1, k_slc1, k_slc2, k_neg, k_not, k_non, k_ifeT, k_ifeF, k_cal1, k_cal2, k_cal3, k_isi, k_intO, k_bl, k_tcmp1, k_tnot, k_tandT, k_tandF, k_torT, k_torF, k_dsp, k_seqT, k_seqL, k_comp, d_add, d_sub, d_lt, d_le, d_gt, d_ge, d_eqS, d_neS, d_eqI, d_neI, d_neNil, d_min, d_max, d_abs, d_lenT, d_lenL, d_tupL, d_tupT, d_lstL, d_lstT, i_t0, i_l0, i_t1, i_l1, i_t2, i_l2, i_t3, i_l3, i_t4, i_l4, i_t5, i_l5, i_t6, i_l6, i_t7, i_l7, tr_bl, tr_int, tr_non, tr_tup, tr_lst, y_nil, y_cons, y_next, y_ret, y_brk, y_cnt, y_asg, y_par, y_par1, y_par2, y_ownL, y_ownK, y_app, y_appK, y_app2, y_aug, y_augK, y_augA, y_augS, y_setd, y_set1, y_set2, y_set3, y_set4, y_expr, y_exprK, y_ret1, y_retK, y_retn, y_ifs, y_ifsT, y_ifsF, y_forr, y_forK, y_whil, y_pas, y_brk1, y_cnt1, y_frz, y_frzK, y_asgK, fin_ret, fin_next, g_nm, g_tp, g_nil, g_cons, Res.bind_ok, SRes.of_ok, Option.bind_some, List.getElem?_cons_zero, List.getElem?_cons_succ, List.set_cons_zero, List.set_cons_succ, List.length_cons, List.length_nil, if_true, if_false, Nat.reduceAdd, Nat.reduceLT, Nat.zero_add, decide_true, decide_false, Bool.not_true, Bool.not_false, not_true_eq_false, not_false_eq_true, eq_self, ar__law_draw_0, e1, hi, e2]
  rfl
/-- the slots in a turn -/
def envL (s : D) (e2 e3 e4 e5 e6 e7 e8 e9 e10 : Slot) : Env := [.val s, .val (.obj 0), e2, e3, e4, e5, e6, e7, e8, e9, e10]
def preB : List S := [.asg (.nm 3) (.ife (.cmp .lt (.var 2) (.cint 12)) (.call 13 0 (.cons (.var 1) .nil) (.nil)) (.tup (.cons (.tup (.cons (.cint 999983) (.cons (.cint 2) .nil))) (.cons (.bin .sub (.bin .pow (.cint 10) (.cint 6)) (.bin .mul (.cint 13) (.call 9 0 (.cons (.var 1) (.cons (.cint 3) .nil)) (.nil)))) .nil)))), .asg (.nm 4) (.call 10 0 (.cons (.call 9 0 (.cons (.var 1) (.cons (.cint 12) .nil)) (.nil)) (.cons (.bin .add (.cint 1) (.call 9 0 (.cons (.var 1) (.cons (.cint 4) .nil)) (.nil))) .nil)) (.nil)), .asg (.nm 4) (.ife (.cmp .lt (.var 2) (.cint 12)) (.var 4) (.call 10 0 (.cons (.bin .sub (.bin .sub (.bin .pow (.cint 10) (.cint 6)) (.cint 40)) (.call 9 0 (.cons (.var 1) (.cons (.cint 9) .nil)) (.nil))) (.cons (.cint 1) .nil)) (.nil))), .asg (.nm 4) (.ife (.not (.val (.call 12 0 (.cons (.tup (.cons (.idx (.var 3) (.cint 1)) (.cons (.cint 1) .nil))) (.cons (.var 4) .nil)) (.nil)))) (.var 4) (.tup (.cons (.idx (.var 3) (.cint 1)) (.cons (.cint 1) .nil)))), .asg (.nm 5) (.ife (.cmp .eq (.var 2) (.cint 13)) (.bin .pow (.cint 10) (.cint 6)) (.cint 100)), .asg (.nm 6) (.call 9 0 (.cons (.var 1) (.cons (.cint 21) .nil)) (.nil)), .asg (.nm 5) (.ife (.cmp .lt (.var 2) (.cint 12)) (.idx (.lst (.cons (.cint 0) (.cons (.cint 1) (.cons (.cint 2) (.cons (.cint 5) (.cons (.cint 100) (.cons (.bin .pow (.cint 10) (.cint 6)) .nil))))))) (.call 9 0 (.cons (.var 1) (.cons (.cint 6) .nil)) (.nil))) (.var 5))]
def postB : List S := [.par 9 10 (.blt .repr (.cons (.tup (.cons (.var 3) (.cons (.var 4) .nil))) .nil)) (.blt .min (.cons (.var 5) (.cons (.bin .fdiv (.idx (.var 4) (.cint 0)) (.idx (.var 4) (.cint 1))) .nil))), .asg (.nm 7) (.tup (.cons (.call 14 0 (.cons (.var 4) (.cons (.var 3) .nil)) (.nil)) (.cons (.tup (.cons (.call 10 0 (.cons (.bin .sub (.idx (.var 4) (.cint 0)) (.bin .mul (.var 10) (.idx (.var 4) (.cint 1)))) (.cons (.idx (.var 4) (.cint 1)) .nil)) (.nil)) (.cons (.var 10) .nil))) .nil))), .ifs (.cmp .ne (.blt .repr (.cons (.tup (.cons (.call 5 0 (.cons (.var 4) (.cons (.var 3) .nil)) (.nil)) (.cons (.call 6 0 (.cons (.var 4) (.cons (.var 5) .nil)) (.nil)) .nil))) .nil)) (.blt .repr (.cons (.var 7) .nil))) [.ret (.cbl false)] [], .asg (.nm 7) (.tup (.cons (.call 15 0 (.cons (.var 3) (.cons (.var 6) (.cons (.var 4) .nil))) (.nil)) (.cons (.call 15 0 (.cons (.var 3) (.cons (.var 6) (.cons (.tup (.cons (.cint 0) (.cons (.cint 1) .nil))) .nil))) (.nil)) .nil))), .asg (.nm 8) (.tup (.cons (.call 7 0 (.cons (.var 3) (.cons (.var 6) .nil)) (.cons (.var 4) .nil)) (.cons (.call 7 1 (.cons (.var 3) (.cons (.var 6) .nil)) (.nil)) .nil))), .ifs (.or (.cmp .ne (.blt .repr (.cons (.var 8) .nil)) (.blt .repr (.cons (.var 7) .nil))) (.one (.cmp .ne (.blt .repr (.cons (.tup (.cons (.var 3) (.cons (.var 4) .nil))) .nil)) (.var 9)))) [.ret (.cbl false)] []]
theorem capL_ok {k : Nat} {s : (Int × Int) × Int} {t : Int × Int} (g : Sh s) (h : Fr k t) (hk : 30 ≤ k) : Fr k (if s.2 * t.2 < t.1 * 1 then (s.2, 1) else t) := by
  split
  · exact ⟨g.n, (by decide : (0 : Int) < 1), g.b.up hk, (bd_of (i := 1) (k := 30) (by decide) (by decide) (by decide)).up hk⟩
  · exact h
theorem pre_ok (n : Nat) {b : Int} {M : Sto} (F : FeedAt 0 b M) (hb : b < 2 ^ 80) (x : D) (j : Int) (hj : 0 ≤ j) (e3 e4 e5 e6 e7 e8 e9 e10 : Slot) : ∃ s t span price M', Sh s ∧ Fr 30 t ∧ 0 ≤ price ∧ span ≤ 20 ∧ FeedAt 0 (b + 20) M' ∧
    evSs (C (n + 5)) preB (envL x (.val (.int j)) e3 e4 e5 e6 e7 e8 e9 e10) M = .next (envL x (.val (.int j)) (.val (shD s)) (.val (frD t)) (.val (.int price)) (.val (.int (span : Nat))) e7 e8 e9 e10) M' := by
  by_cases hj12 : j < 12
  · obtain ⟨s, M1, h1, gs, F1⟩ := r_share (n + 3) F (by omega)
    obtain ⟨r2, M2, h2, a2, b2, F2⟩ := r_draw (n + 4) F1 (by omega) (show (0 : Int) < 12 by decide) (by decide)
    obtain ⟨r3, M3, h3, a3, b3, F3⟩ := r_draw (n + 4) F2 (by omega) (show (0 : Int) < 4 by decide) (by decide)
    obtain ⟨r4, M4, h4, a4, b4, F4⟩ := r_draw (n + 4) F3 (by omega) (show (0 : Int) < 21 by decide) (by decide)
    obtain ⟨r5, M5, h5, a5, b5, F5⟩ := r_draw (n + 4) F4 (by omega) (show (0 : Int) < 6 by decide) (by decide)
    obtain ⟨span, rfl⟩ := Int.eq_ofNat_of_zero_le a4
    have t0 : Fr 30 (ratioL r2 (1 + r3)) := ratioL_ok a2 (by omega) (bd30 a2 (by omega)) (bd30 (by omega) (by omega))
    have z0 := r_frac (n + 4) r2 (1 + r3) M3 a2 (by omega) (w2 (by omega) (by omega))
    have z1 := r_less (n + 4) (s.2, 1) (ratioL r2 (1 + r3)) M3 (gs.b.w t0.bp) (t0.bn.w (one_bd 1 (by decide)))
    obtain ⟨d, hd, hi⟩ := idx_dom (ds := [.int 0, .int 1, .int 2, .int 5, .int 100, .int (10 ^ (6 : Int).toNat)]) a5 b5
    have hp : ∃ p : Int, d = .int p ∧ 0 ≤ p := by
      simp only [List.mem_cons, List.not_mem_nil, or_false] at hd
      rcases hd with rfl | rfl | rfl | rfl | rfl | rfl <;> exact ⟨_, rfl, by decide⟩
    obtain ⟨price, rfl, hp⟩ := hp
    refine ⟨s, _, span, price, M5, gs, capL_ok gs t0 (by omega), hp, by omega, F5.up (by omega), ?_⟩
    have e13 : ¬ j = 13 := by omega
    have pw : ∀ M : Sto, binD .pow (.int 10) (.int 6) M = .ok (.int (10 ^ (6 : Int).toNat)) M := fun M => d_pow ⟨by decide, by decide, by decide⟩
    simp only [preB, envL, C_cal, C_arr, C_gl, lkK_val, pkK_own, x_cint, x_cstr, x_cbl, x_cnon, x_var, x_glob, x_fnv, x_tup, x_lst, x_bin, x_neg, x_cmp, x_andv, x_orv, x_one, x_notv, x_ife, x_idx, x_dgt, x_slc, x_call, x_blt, x_isi, x_comp, x_dsp, xs_nil, xs_cons, xp_nil, xp_cons, xo_non, xo_som, xt_val, xt_cmp, xt_not, xt_and, xt_or, xt_one, xq_nil, xq_one, xi_seq, xi_rng1, xi_rng2, pk_own, pk_cint, pk_cstr, pk_cbl, pk_cnon, pk_var, pk_glob, pk_fnv, pk_tup, pk_lst, pk_bin, pk_neg, pk_cmp, pk_andv, pk_orv, pk_one, pk_notv, pk_ife, pk_idx, pk_dgt, pk_slc, pk_call, pk_blt, pk_isi, pk_comp, pk_dsp, k_tup, k_lst, k_con1, k_pcon1, k_con2, k_bin1, k_cmp1, k_idx1, k_dgt1, k_slc1, k_slc2, k_neg, k_not, k_non, k_ifeT, k_ifeF, k_cal1, k_cal2, k_cal3, k_isi, k_intO, k_bl, k_tcmp1, k_tnot, k_tandT, k_tandF, k_torT, k_torF, k_dsp, k_seqT, k_seqL, k_comp, d_add, d_sub, d_lt, d_le, d_gt, d_ge, d_eqS, d_neS, d_eqI, d_neI, d_neNil, d_min, d_max, d_abs, d_lenT, d_lenL, d_tupL, d_tupT, d_lstL, d_lstT, i_t0, i_l0, i_t1, i_l1, i_t2, i_l2, i_t3, i_l3, i_t4, i_l4, i_t5, i_l5, i_t6, i_l6, i_t7, i_l7, tr_bl, tr_int, tr_non, tr_tup, tr_lst, y_nil, y_cons, y_next, y_ret, y_brk, y_cnt, y_asg, y_par, y_par1, y_par2, y_ownL, y_ownK, y_app, y_appK, y_app2, y_aug, y_augK, y_augA, y_augS, y_setd, y_set1, y_set2, y_set3, y_set4, y_expr, y_exprK, y_ret1, y_retK, y_retn, y_ifs, y_ifsT, y_ifsF, y_forr, y_forK, y_whil, y_pas, y_brk1, y_cnt1, y_frz, y_frzK, y_asgK, fin_ret, fin_next, g_nm, g_tp, g_nil, g_cons, Res.bind_ok, SRes.of_ok, Option.bind_some, List.getElem?_cons_zero, List.getElem?_cons_succ, List.set_cons_zero, List.set_cons_succ, List.length_cons, List.length_nil, if_true, if_false, Nat.reduceAdd, Nat.reduceLT, Nat.zero_add, decide_true, decide_false, Bool.not_true, Bool.not_false, not_true_eq_false, not_false_eq_true, eq_self, hj12, ar__law_share_0, h1, ar__law_draw_0, h2, h3, ar__law_frac_0, z0, e13, h4, h5]
    simp only [shD, C_cal, C_arr, C_gl, lkK_val, pkK_own, x_cint, x_cstr, x_cbl, x_cnon, x_var, x_glob, x_fnv, x_tup, x_lst, x_bin, x_neg, x_cmp, x_andv, x_orv, x_one, x_notv, x_ife, x_idx, x_dgt, x_slc, x_call, x_blt, x_isi, x_comp, x_dsp, xs_nil, xs_cons, xp_nil, xp_cons, xo_non, xo_som, xt_val, xt_cmp, xt_not, xt_and, xt_or, xt_one, xq_nil, xq_one, xi_seq, xi_rng1, xi_rng2, pk_own, pk_cint, pk_cstr, pk_cbl, pk_cnon, pk_var, pk_glob, pk_fnv, pk_tup, pk_lst, pk_bin, pk_neg, pk_cmp, pk_andv, pk_orv, pk_one, pk_notv, pk_ife, pk_idx, pk_dgt, pk_slc, pk_call, pk_blt, pk_isi, pk_comp, pk_dsp, k_tup, k_lst, k_con1, k_pcon1, k_con2, k_bin1, k_cmp1, k_idx1, k_dgt1, k_slc1, k_slc2, k_neg, k_not, k_non, k_ifeT, k_ifeF, k_cal1, k_cal2, k_cal3, k_isi, k_intO, k_bl, k_tcmp1, k_tnot, k_tandT, k_tandF, k_torT, k_torF, k_dsp, k_seqT, k_seqL, k_comp, d_add, d_sub, d_lt, d_le, d_gt, d_ge, d_eqS, d_neS, d_eqI, d_neI, d_neNil, d_min, d_max, d_abs, d_lenT, d_lenL, d_tupL, d_tupT, d_lstL, d_lstT, i_t0, i_l0, i_t1, i_l1, i_t2, i_l2, i_t3, i_l3, i_t4, i_l4, i_t5, i_l5, i_t6, i_l6, i_t7, i_l7, tr_bl, tr_int, tr_non, tr_tup, tr_lst, y_nil, y_cons, y_next, y_ret, y_brk, y_cnt, y_asg, y_par, y_par1, y_par2, y_ownL, y_ownK, y_app, y_appK, y_app2, y_aug, y_augK, y_augA, y_augS, y_setd, y_set1, y_set2, y_set3, y_set4, y_expr, y_exprK, y_ret1, y_retK, y_retn, y_ifs, y_ifsT, y_ifsF, y_forr, y_forK, y_whil, y_pas, y_brk1, y_cnt1, y_frz, y_frzK, y_asgK, fin_ret, fin_next, g_nm, g_tp, g_nil, g_cons, Res.bind_ok, SRes.of_ok, Option.bind_some, List.getElem?_cons_zero, List.getElem?_cons_succ, List.set_cons_zero, List.set_cons_succ, List.length_cons, List.length_nil, if_true, if_false, Nat.reduceAdd, Nat.reduceLT, Nat.zero_add, decide_true, decide_false, Bool.not_true, Bool.not_false, not_true_eq_false, not_false_eq_true, eq_self]
    rw [show (D.tup [D.int s.2, D.int 1]) = frD (s.2, 1) from rfl]
    simp only [C_cal, C_arr, C_gl, lkK_val, pkK_own, x_cint, x_cstr, x_cbl, x_cnon, x_var, x_glob, x_fnv, x_tup, x_lst, x_bin, x_neg, x_cmp, x_andv, x_orv, x_one, x_notv, x_ife, x_idx, x_dgt, x_slc, x_call, x_blt, x_isi, x_comp, x_dsp, xs_nil, xs_cons, xp_nil, xp_cons, xo_non, xo_som, xt_val, xt_cmp, xt_not, xt_and, xt_or, xt_one, xq_nil, xq_one, xi_seq, xi_rng1, xi_rng2, pk_own, pk_cint, pk_cstr, pk_cbl, pk_cnon, pk_var, pk_glob, pk_fnv, pk_tup, pk_lst, pk_bin, pk_neg, pk_cmp, pk_andv, pk_orv, pk_one, pk_notv, pk_ife, pk_idx, pk_dgt, pk_slc, pk_call, pk_blt, pk_isi, pk_comp, pk_dsp, k_tup, k_lst, k_con1, k_pcon1, k_con2, k_bin1, k_cmp1, k_idx1, k_dgt1, k_slc1, k_slc2, k_neg, k_not, k_non, k_ifeT, k_ifeF, k_cal1, k_cal2, k_cal3, k_isi, k_intO, k_bl, k_tcmp1, k_tnot, k_tandT, k_tandF, k_torT, k_torF, k_dsp, k_seqT, k_seqL, k_comp, d_add, d_sub, d_lt, d_le, d_gt, d_ge, d_eqS, d_neS, d_eqI, d_neI, d_neNil, d_min, d_max, d_abs, d_lenT, d_lenL, d_tupL, d_tupT, d_lstL, d_lstT, i_t0, i_l0, i_t1, i_l1, i_t2, i_l2, i_t3, i_l3, i_t4, i_l4, i_t5, i_l5, i_t6, i_l6, i_t7, i_l7, tr_bl, tr_int, tr_non, tr_tup, tr_lst, y_nil, y_cons, y_next, y_ret, y_brk, y_cnt, y_asg, y_par, y_par1, y_par2, y_ownL, y_ownK, y_app, y_appK, y_app2, y_aug, y_augK, y_augA, y_augS, y_setd, y_set1, y_set2, y_set3, y_set4, y_expr, y_exprK, y_ret1, y_retK, y_retn, y_ifs, y_ifsT, y_ifsF, y_forr, y_forK, y_whil, y_pas, y_brk1, y_cnt1, y_frz, y_frzK, y_asgK, fin_ret, fin_next, g_nm, g_tp, g_nil, g_cons, Res.bind_ok, SRes.of_ok, Option.bind_some, List.getElem?_cons_zero, List.getElem?_cons_succ, List.set_cons_zero, List.set_cons_succ, List.length_cons, List.length_nil, if_true, if_false, Nat.reduceAdd, Nat.reduceLT, Nat.zero_add, decide_true, decide_false, Bool.not_true, Bool.not_false, not_true_eq_false, not_false_eq_true, eq_self, p_bind, p_of, p_then, p_fin, k_ifeD, y_ifsD, k_ifeN, y_ifsN, ar__law_less_0, z1, e13, ar__law_draw_0, h4, h5, pw, hi]
    by_cases hc : s.2 * (ratioL r2 (1 + r3)).2 < (ratioL r2 (1 + r3)).1 * 1 <;> simp only [hc, hj12, if_true, if_false] <;> rfl
  · obtain ⟨r1, M1, h1, a1, b1, F1⟩ := r_draw (n + 4) F (by omega) (show (0 : Int) < 3 by decide) (by decide)
    obtain ⟨r2, M2, h2, a2, b2, F2⟩ := r_draw (n + 4) F1 (by omega) (show (0 : Int) < 12 by decide) (by decide)
    obtain ⟨r3, M3, h3, a3, b3, F3⟩ := r_draw (n + 4) F2 (by omega) (show (0 : Int) < 4 by decide) (by decide)
    obtain ⟨r4, M4, h4, a4, b4, F4⟩ := r_draw (n + 4) F3 (by omega) (show (0 : Int) < 9 by decide) (by decide)
    obtain ⟨r5, M5, h5, a5, b5, F5⟩ := r_draw (n + 4) F4 (by omega) (show (0 : Int) < 21 by decide) (by decide)
    obtain ⟨span, rfl⟩ := Int.eq_ofNat_of_zero_le a5
    have p6 : (10 : Int) ^ (6 : Int).toNat = 1000000 := by decide
    have gs : Sh ((999983, 2), 1000000 - 13 * r1) := ⟨fr30 (by decide) (by decide) (by decide) (by decide), by show (0 : Int) ≤ 1000000 - 13 * r1; omega, bd30 (by show (0 : Int) ≤ 1000000 - 13 * r1; omega) (by show (1000000 : Int) - 13 * r1 < _; omega)⟩
    have t0 : Fr 30 (ratioL (1000000 - 40 - r4) 1) := ratioL_ok (by omega) (by omega) (bd30 (by omega) (by omega)) (bd30 (by omega) (by omega))
    have z0 := r_frac (n + 4) r2 (1 + r3) M3 a2 (by omega) (w2 (by omega) (by omega))
    have z2 := r_frac (n + 4) (1000000 - 40 - r4) 1 M4 (by omega) (by omega) (w2 (by omega) (by omega))
    have z1 := r_less (n + 4) (1000000 - 13 * r1, 1) (ratioL (1000000 - 40 - r4) 1) M4 (gs.b.w t0.bp) (t0.bn.w (one_bd 1 (by decide)))
    refine ⟨_, _, span, if j = 13 then 1000000 else 100, M5, gs, capL_ok gs t0 (by omega), by split <;> decide, by omega, F5.up (by omega), ?_⟩
    have pw : ∀ M : Sto, binD .pow (.int 10) (.int 6) M = .ok (.int 1000000) M := fun M => (d_pow ⟨by decide, by decide, by decide⟩).trans (by rw [p6])
    have mw : widthOk 13 r1 = true := ww (by decide) (by decide) (by omega) (by omega)
    simp only [preB, envL, C_cal, C_arr, C_gl, lkK_val, pkK_own, x_cint, x_cstr, x_cbl, x_cnon, x_var, x_glob, x_fnv, x_tup, x_lst, x_bin, x_neg, x_cmp, x_andv, x_orv, x_one, x_notv, x_ife, x_idx, x_dgt, x_slc, x_call, x_blt, x_isi, x_comp, x_dsp, xs_nil, xs_cons, xp_nil, xp_cons, xo_non, xo_som, xt_val, xt_cmp, xt_not, xt_and, xt_or, xt_one, xq_nil, xq_one, xi_seq, xi_rng1, xi_rng2, pk_own, pk_cint, pk_cstr, pk_cbl, pk_cnon, pk_var, pk_glob, pk_fnv, pk_tup, pk_lst, pk_bin, pk_neg, pk_cmp, pk_andv, pk_orv, pk_one, pk_notv, pk_ife, pk_idx, pk_dgt, pk_slc, pk_call, pk_blt, pk_isi, pk_comp, pk_dsp, k_tup, k_lst, k_con1, k_pcon1, k_con2, k_bin1, k_cmp1, k_idx1, k_dgt1, k_slc1, k_slc2, k_neg, k_not, k_non, k_ifeT, k_ifeF, k_cal1, k_cal2, k_cal3, k_isi, k_intO, k_bl, k_tcmp1, k_tnot, k_tandT, k_tandF, k_torT, k_torF, k_dsp, k_seqT, k_seqL, k_comp, d_add, d_sub, d_lt, d_le, d_gt, d_ge, d_eqS, d_neS, d_eqI, d_neI, d_neNil, d_min, d_max, d_abs, d_lenT, d_lenL, d_tupL, d_tupT, d_lstL, d_lstT, i_t0, i_l0, i_t1, i_l1, i_t2, i_l2, i_t3, i_l3, i_t4, i_l4, i_t5, i_l5, i_t6, i_l6, i_t7, i_l7, tr_bl, tr_int, tr_non, tr_tup, tr_lst, y_nil, y_cons, y_next, y_ret, y_brk, y_cnt, y_asg, y_par, y_par1, y_par2, y_ownL, y_ownK, y_app, y_appK, y_app2, y_aug, y_augK, y_augA, y_augS, y_setd, y_set1, y_set2, y_set3, y_set4, y_expr, y_exprK, y_ret1, y_retK, y_retn, y_ifs, y_ifsT, y_ifsF, y_forr, y_forK, y_whil, y_pas, y_brk1, y_cnt1, y_frz, y_frzK, y_asgK, fin_ret, fin_next, g_nm, g_tp, g_nil, g_cons, Res.bind_ok, SRes.of_ok, Option.bind_some, List.getElem?_cons_zero, List.getElem?_cons_succ, List.set_cons_zero, List.set_cons_succ, List.length_cons, List.length_nil, if_true, if_false, Nat.reduceAdd, Nat.reduceLT, Nat.zero_add, decide_true, decide_false, Bool.not_true, Bool.not_false, not_true_eq_false, not_false_eq_true, eq_self, hj12, ar__law_draw_0, pw, h1, d_mul mw, h2, h3, ar__law_frac_0, z0, h4, z2, h5]
    rw [show (D.tup [D.int (1000000 - 13 * r1), D.int 1]) = frD (1000000 - 13 * r1, 1) from rfl]
    simp only [C_cal, C_arr, C_gl, lkK_val, pkK_own, x_cint, x_cstr, x_cbl, x_cnon, x_var, x_glob, x_fnv, x_tup, x_lst, x_bin, x_neg, x_cmp, x_andv, x_orv, x_one, x_notv, x_ife, x_idx, x_dgt, x_slc, x_call, x_blt, x_isi, x_comp, x_dsp, xs_nil, xs_cons, xp_nil, xp_cons, xo_non, xo_som, xt_val, xt_cmp, xt_not, xt_and, xt_or, xt_one, xq_nil, xq_one, xi_seq, xi_rng1, xi_rng2, pk_own, pk_cint, pk_cstr, pk_cbl, pk_cnon, pk_var, pk_glob, pk_fnv, pk_tup, pk_lst, pk_bin, pk_neg, pk_cmp, pk_andv, pk_orv, pk_one, pk_notv, pk_ife, pk_idx, pk_dgt, pk_slc, pk_call, pk_blt, pk_isi, pk_comp, pk_dsp, k_tup, k_lst, k_con1, k_pcon1, k_con2, k_bin1, k_cmp1, k_idx1, k_dgt1, k_slc1, k_slc2, k_neg, k_not, k_non, k_ifeT, k_ifeF, k_cal1, k_cal2, k_cal3, k_isi, k_intO, k_bl, k_tcmp1, k_tnot, k_tandT, k_tandF, k_torT, k_torF, k_dsp, k_seqT, k_seqL, k_comp, d_add, d_sub, d_lt, d_le, d_gt, d_ge, d_eqS, d_neS, d_eqI, d_neI, d_neNil, d_min, d_max, d_abs, d_lenT, d_lenL, d_tupL, d_tupT, d_lstL, d_lstT, i_t0, i_l0, i_t1, i_l1, i_t2, i_l2, i_t3, i_l3, i_t4, i_l4, i_t5, i_l5, i_t6, i_l6, i_t7, i_l7, tr_bl, tr_int, tr_non, tr_tup, tr_lst, y_nil, y_cons, y_next, y_ret, y_brk, y_cnt, y_asg, y_par, y_par1, y_par2, y_ownL, y_ownK, y_app, y_appK, y_app2, y_aug, y_augK, y_augA, y_augS, y_setd, y_set1, y_set2, y_set3, y_set4, y_expr, y_exprK, y_ret1, y_retK, y_retn, y_ifs, y_ifsT, y_ifsF, y_forr, y_forK, y_whil, y_pas, y_brk1, y_cnt1, y_frz, y_frzK, y_asgK, fin_ret, fin_next, g_nm, g_tp, g_nil, g_cons, Res.bind_ok, SRes.of_ok, Option.bind_some, List.getElem?_cons_zero, List.getElem?_cons_succ, List.set_cons_zero, List.set_cons_succ, List.length_cons, List.length_nil, if_true, if_false, Nat.reduceAdd, Nat.reduceLT, Nat.zero_add, decide_true, decide_false, Bool.not_true, Bool.not_false, not_true_eq_false, not_false_eq_true, eq_self, p_bind, p_of, p_then, p_fin, k_ifeD, y_ifsD, k_ifeN, y_ifsN, ar__law_less_0, z1, ar__law_draw_0, h5, pw]
    by_cases hc : (1000000 - 13 * r1) * (ratioL (1000000 - 40 - r4) 1).2 < (ratioL (1000000 - 40 - r4) 1).1 * 1 <;> by_cases h13 : j = 13 <;> simp only [hc, hj12, h13, if_true, if_false] <;> rfl
theorem sw_fr {k : Nat} {t : Int × Int} (h : Fr k t) (hk : k ≤ 1900) : Sw (frD t) 4007 1 := Sw.tup (Sws.cons (Sw.int (h.bn.up hk)) (Sws.cons (Sw.int (h.bp.up hk)) Sws.nil))
theorem sw_sh {s : (Int × Int) × Int} (h : Sh s) : Sw (shD s) 6014 2 := Sw.tup (Sws.cons (sw_fr h.f (by omega)) (Sws.cons (Sw.int (h.b.up (by omega))) Sws.nil))
theorem pace_bd {s : (Int × Int) × Int} (g : Sh s) : ∀ (m : Nat) (t : Int × Int) (k : Nat), Fr k t → k + 31 * m ≤ 1900 → ∀ i ∈ paceL s m t, i.natAbs < 2 ^ 1900
  | 0, _, _, _, _, i, h => by cases h
  | m + 1, t, k, ht, hk, i, h => by
    have u := moreL_ok ht g
    have w0 := Int.ediv_nonneg u.n (Int.le_of_lt u.p)
    rcases List.mem_cons.mp h with e | h
    · rw [e]
      exact (u.bn.div u.n u.p).up (by omega)
    · exact pace_bd g m _ (k + 31) (payL_ok u w0 (Int.le_refl _)) (by omega) i h
theorem pace_len {s : (Int × Int) × Int} : ∀ (m : Nat) (t : Int × Int), (paceL s m t).length = m
  | 0, _ => rfl
  | m + 1, t => congrArg Nat.succ (pace_len m _)
theorem sw_pace {s : (Int × Int) × Int} (g : Sh s) {m k : Nat} {t : Int × Int} (h : Fr k t) (hk : k ≤ 100) (hm : m ≤ 20) : Sw (.tup ((paceL s m t).map .int)) 50000 1 := by
  refine (Sw.tup (Sws.ints (pace_bd g m t k h (by omega)))).up ?_ (Nat.le_refl _)
  rw [pace_len]
  omega
theorem post_ok (n : Nat) {M : Sto} (x : D) (j : Int) {s : (Int × Int) × Int} {t : Int × Int} {price : Int} {span : Nat} (g : Sh s) (h : Fr 30 t) (hp : 0 ≤ price) (hs : span ≤ 20) (e7' e8' e9' e10' : Slot) : ∃ e7 e8 e9 e10,
    evSs (C (n + 5)) postB (envL x (.val (.int j)) (.val (shD s)) (.val (frD t)) (.val (.int price)) (.val (.int (span : Nat))) e7' e8' e9' e10') M = .next (envL x (.val (.int j)) (.val (shD s)) (.val (frD t)) (.val (.int price)) (.val (.int (span : Nat))) e7 e8 e9 e10) M := by
  have hn0 : Fr 30 ((0, 1) : Int × Int) := fr30 (by decide) (by decide) (by decide) (by decide)
  obtain ⟨m0, m1⟩ := mnL_ok h.n h.p hp
  obtain ⟨a, b⟩ := mn_ok h.n h.p m0 m1
  have wb : bd 30 (mnL t price) := (h.bn.div h.n h.p).le m0 m1
  have w1 : widthOk (mnL t price) t.2 = true := wb.w h.bp
  have hw : t.2.natAbs < 2 ^ 4000 := h.bp.up (by omega)
  have em : (if t.1 / t.2 < price then t.1 / t.2 else price) = mnL t price := by
    unfold mnL
    split <;> split <;> omega
  have z1 := r_more (n + 2) M h g (by omega)
  have z2 := r_frac (n + 4) (t.1 - mnL t price * t.2) t.2 M a h.p hw
  have z3 := r_grown (n + 2) M h g (by omega)
  have z4 := r_paid (n + 3) M h price hp (by omega)
  have z5 := r_lpace (n + 1) g span t 30 M h (by omega) (by omega)
  have z6 := r_lpace (n + 1) g span (0, 1) 30 M hn0 (by omega) (by omega)
  have z7 := r_pace (n + 1) g span t 30 M h (by omega) (by omega)
  have z8 := r_pace (n + 1) g span (0, 1) 30 M hn0 (by omega) (by omega)
  have q1 := (Sw.tup (Sws.cons (sw_sh g) (Sws.cons (sw_fr h (by omega)) Sws.nil))).repr (M := M)
  have q2 := (Sw.tup (Sws.cons (sw_fr (moreL_ok h g) (by omega)) (Sws.cons (Sw.tup (Sws.cons (sw_fr (payL_ok h m0 m1) (by omega)) (Sws.cons (Sw.int (wb.up (by omega))) Sws.nil))) Sws.nil))).repr (M := M)
  have q3 := (Sw.tup (Sws.cons (sw_pace g h (by omega) hs) (Sws.cons (sw_pace g hn0 (by omega) hs) Sws.nil))).repr (M := M)
  have en : (D.tup [D.int 0, D.int 1]) = frD (0, 1) := rfl
  have fr0 : ∀ (t : Int × Int) (M : Sto), idxD (frD t) (.int 0) M = .ok (.int t.1) M := fun t M => i_t0 ..
  have fr1 : ∀ (t : Int × Int) (M : Sto), idxD (frD t) (.int 1) M = .ok (.int t.2) M := fun t M => i_t1 ..
  unfold payL at q2 z4
  simp only [postB, envL, C_cal, C_arr, C_gl, lkK_val, pkK_own, x_cint, x_cstr, x_cbl, x_cnon, x_var, x_glob, x_fnv, x_tup, x_lst, x_bin, x_neg, x_cmp, x_andv, x_orv, x_one, x_notv, x_ife, x_idx, x_dgt, x_slc, x_call, x_blt, x_isi, x_comp, x_dsp, xs_nil, xs_cons, xp_nil, xp_cons, xo_non, xo_som, xt_val, xt_cmp, xt_not, xt_and, xt_or, xt_one, xq_nil, xq_one, xi_seq, xi_rng1, xi_rng2, pk_own, pk_cint, pk_cstr, pk_cbl, pk_cnon, pk_var, pk_glob, pk_fnv, pk_tup, pk_lst, pk_bin, pk_neg, pk_cmp, pk_andv, pk_orv, pk_one, pk_notv, pk_ife, pk_idx, pk_dgt, pk_slc, pk_call, pk_blt, pk_isi, pk_comp, pk_dsp, k_tup, k_lst, k_con1, k_pcon1, k_con2, k_bin1, k_cmp1, k_idx1, k_dgt1, k_slc1, k_slc2, k_neg, k_not, k_non, k_ifeT, k_ifeF, k_cal1, k_cal2, k_cal3, k_isi, k_intO, k_bl, k_tcmp1, k_tnot, k_tandT, k_tandF, k_torT, k_torF, k_dsp, k_seqT, k_seqL, k_comp, d_add, d_sub, d_lt, d_le, d_gt, d_ge, d_eqS, d_neS, d_eqI, d_neI, d_neNil, d_min, d_max, d_abs, d_lenT, d_lenL, d_tupL, d_tupT, d_lstL, d_lstT, i_t0, i_l0, i_t1, i_l1, i_t2, i_l2, i_t3, i_l3, i_t4, i_l4, i_t5, i_l5, i_t6, i_l6, i_t7, i_l7, tr_bl, tr_int, tr_non, tr_tup, tr_lst, y_nil, y_cons, y_next, y_ret, y_brk, y_cnt, y_asg, y_par, y_par1, y_par2, y_ownL, y_ownK, y_app, y_appK, y_app2, y_aug, y_augK, y_augA, y_augS, y_setd, y_set1, y_set2, y_set3, y_set4, y_expr, y_exprK, y_ret1, y_retK, y_retn, y_ifs, y_ifsT, y_ifsF, y_forr, y_forK, y_whil, y_pas, y_brk1, y_cnt1, y_frz, y_frzK, y_asgK, fin_ret, fin_next, g_nm, g_tp, g_nil, g_cons, Res.bind_ok, SRes.of_ok, Option.bind_some, List.getElem?_cons_zero, List.getElem?_cons_succ, List.set_cons_zero, List.set_cons_succ, List.length_cons, List.length_nil, if_true, if_false, Nat.reduceAdd, Nat.reduceLT, Nat.zero_add, decide_true, decide_false, Bool.not_true, Bool.not_false, not_true_eq_false, not_false_eq_true, eq_self, q1, fr0, fr1, d_fdiv h.p hw, em, ar__law_more_0, z1, d_mul w1, ar__law_frac_0, z2, ar_grown_0, z3, ar_paid_0, z4, q2, ar__law_pace_0, z5, z6, en, ar_pace_of_0, ar_pace_of_1, z7, z8, q3]
  exact ⟨_, _, _, _, rfl⟩
theorem law (ns : List Int) (h : ns.length ≤ 63) : ∃ M, callF (defs.map (·.F)) (fun i => cs.getD i .non) (arrOf shs) 100 16 [.lst (ns.map .int)] [] = .ok (.bl true) M := by
  have r_feed : ∀ (n : Nat) (ns : List Int), ns.length ≤ 63 → cal (n + 1) 8 [.lst (ns.map .int)] [] = .ok (.obj 0) [feedD ns 0 0 0] := by
    intro n ns hl
    have hs : cutD (ns.map D.int) none (some 63) = ns.map .int := by
      unfold cutD
      have e1 : HT.sIx (ns.map D.int).length 0 none = 0 := rfl
      have e2 : HT.sIx (ns.map D.int).length (ns.map D.int).length (some 63) = min 63 (ns.map D.int).length := HT.sIx_nat _ _ 63
      rw [e1, e2, List.drop_zero, List.length_map, Nat.sub_zero, List.take_of_length_le]
      rw [List.length_map]
      omega
    have hd : ∀ M, slcD (.lst (ns.map .int)) none (some 63) M = .ok (.lst (ns.map .int)) M := fun M => by
      show Res.ok (D.lst (cutD (ns.map D.int) none (some 63))) M = _
      rw [hs]
    rw [st__law_feed]
    simp only [f8, C_cal, C_arr, C_gl, lkK_val, pkK_own, x_cint, x_cstr, x_cbl, x_cnon, x_var, x_glob, x_fnv, x_tup, x_lst, x_bin, x_neg, x_cmp, x_andv, x_orv, x_one, x_notv, x_ife, x_idx, x_dgt, x_slc, x_call, x_blt, x_isi, x_comp, x_dsp, xs_nil, xs_cons, xp_nil, xp_cons, xo_non, xo_som, xt_val, xt_cmp, xt_not, xt_and, xt_or, xt_one, xq_nil, xq_one, xi_seq, xi_rng1, xi_rng2, pk_own, pk_cint, pk_cstr, pk_cbl, pk_cnon, pk_var, pk_glob, pk_fnv, pk_tup, pk_lst, pk_bin, pk_neg, pk_cmp, pk_andv, pk_orv, pk_one, pk_notv, pk_ife, pk_idx, pk_dgt, pk_slc, pk_call, pk_blt, pk_isi, pk_comp, pk_dsp, k_tup, k_lst, k_con1, k_pcon1, k_con2, k_bin1, k_cmp1, k_idx1, k_dgt1, k_slc1, k_slc2, k_neg, k_not, k_non, k_ifeT, k_ifeF, k_cal1, k_cal2, k_cal3, k_isi, k_intO, k_bl, k_tcmp1, k_tnot, k_tandT, k_tandF, k_torT, k_torF, k_dsp, k_seqT, k_seqL, k_comp, d_add, d_sub, d_lt, d_le, d_gt, d_ge, d_eqS, d_neS, d_eqI, d_neI, d_neNil, d_min, d_max, d_abs, d_lenT, d_lenL, d_tupL, d_tupT, d_lstL, d_lstT, i_t0, i_l0, i_t1, i_l1, i_t2, i_l2, i_t3, i_l3, i_t4, i_l4, i_t5, i_l5, i_t6, i_l6, i_t7, i_l7, tr_bl, tr_int, tr_non, tr_tup, tr_lst, y_nil, y_cons, y_next, y_ret, y_brk, y_cnt, y_asg, y_par, y_par1, y_par2, y_ownL, y_ownK, y_app, y_appK, y_app2, y_aug, y_augK, y_augA, y_augS, y_setd, y_set1, y_set2, y_set3, y_set4, y_expr, y_exprK, y_ret1, y_retK, y_retn, y_ifs, y_ifsT, y_ifsF, y_forr, y_forK, y_whil, y_pas, y_brk1, y_cnt1, y_frz, y_frzK, y_asgK, fin_ret, fin_next, g_nm, g_tp, g_nil, g_cons, Res.bind_ok, SRes.of_ok, Option.bind_some, List.getElem?_cons_zero, List.getElem?_cons_succ, List.set_cons_zero, List.set_cons_succ, List.length_cons, List.length_nil, if_true, if_false, Nat.reduceAdd, Nat.reduceLT, Nat.zero_add, decide_true, decide_false, Bool.not_true, Bool.not_false, not_true_eq_false, not_false_eq_true, eq_self, hd]
    rfl
  show ∃ M, cal (98 + 2) 16 [.lst (ns.map .int)] [] = .ok (.bl true) M
  rw [show (98 + 2) = 99 + 1 from rfl, st_law]
  have F0 : FeedAt 0 0 [feedD ns 0 0 0] := ⟨ns, 0, 0, 0, rfl, by decide, by decide, by decide, by decide⟩
  have loop := forL_idx (step := forS (C 99) (.nm 2) (preB ++ postB)) (fun i env M => ∃ e2 e3 e4 e5 e6 e7 e8 e9 e10, env = envL (.lst (ns.map .int)) e2 e3 e4 e5 e6 e7 e8 e9 e10 ∧ FeedAt 0 (20 * i) M) (iota 0 14) 0 (envL (.lst (ns.map .int)) .non .non .non .non .non .non .non .non .non) [feedD ns 0 0 0]
    ⟨_, _, _, _, _, _, _, _, _, rfl, F0.up (by decide)⟩ fun j d hd env M hI => by
      obtain ⟨hj, rfl⟩ := iota_at 14 j 0 d hd
      obtain ⟨e2, e3, e4, e5, e6, e7, e8, e9, e10, rfl, F⟩ := hI
      obtain ⟨s, t, span, price, M', g, ht, hp, hs, F', e⟩ := pre_ok 94 F (by omega) (.lst (ns.map .int)) (0 + (j : Int)) (by omega) e3 e4 e5 e6 e7 e8 e9 e10
      obtain ⟨e7', e8', e9', e10', e'⟩ := post_ok 94 (M := M') (.lst (ns.map .int)) (0 + (j : Int)) g ht hp hs e7 e8 e9 e10
      have eg : bindG (.nm 2) (.int (0 + (j : Int))) (envL (.lst (ns.map .int)) e2 e3 e4 e5 e6 e7 e8 e9 e10) = some (envL (.lst (ns.map .int)) (.val (.int (0 + (j : Int)))) e3 e4 e5 e6 e7 e8 e9 e10) := rfl
      have q3 := evSs_append (c := C (94 + 5)) preB postB (envL (.lst (ns.map .int)) (.val (.int (0 + (j : Int)))) e3 e4 e5 e6 e7 e8 e9 e10) M
      rw [e, y_next, e'] at q3
      have q4 := (y_forS (c := C 99) (env := envL (.lst (ns.map .int)) e2 e3 e4 e5 e6 e7 e8 e9 e10) (M := M) (.nm 2) (preB ++ postB) (.int (0 + (j : Int))))
      rw [eg] at q4
      exact ⟨_, M', q4.trans q3, _, _, _, _, _, _, _, _, _, rfl, F'.up (by omega)⟩
  obtain ⟨env', M', hl, _⟩ := loop
  refine ⟨M', ?_⟩
  have k14 : rng1K (.int 14) [feedD ns 0 0 0] = .ok (iota 0 14) [feedD ns 0 0 0] := k_rng1 (n := 14) (by decide)
  have eb : f16.body = [.asg (.nm 1) (.call 8 0 (.cons (.var 0) .nil) .nil), .forr (.nm 2) (.rng1 (.cint 14)) (preB ++ postB), .ret (.cbl true)] := rfl
  rw [eb]
  simp only [C_cal, C_arr, C_gl, lkK_val, pkK_own, x_cint, x_cstr, x_cbl, x_cnon, x_var, x_glob, x_fnv, x_tup, x_lst, x_bin, x_neg, x_cmp, x_andv, x_orv, x_one, x_notv, x_ife, x_idx, x_dgt, x_slc, x_call, x_blt, x_isi, x_comp, x_dsp, xs_nil, xs_cons, xp_nil, xp_cons, xo_non, xo_som, xt_val, xt_cmp, xt_not, xt_and, xt_or, xt_one, xq_nil, xq_one, xi_seq, xi_rng1, xi_rng2, pk_own, pk_cint, pk_cstr, pk_cbl, pk_cnon, pk_var, pk_glob, pk_fnv, pk_tup, pk_lst, pk_bin, pk_neg, pk_cmp, pk_andv, pk_orv, pk_one, pk_notv, pk_ife, pk_idx, pk_dgt, pk_slc, pk_call, pk_blt, pk_isi, pk_comp, pk_dsp, k_tup, k_lst, k_con1, k_pcon1, k_con2, k_bin1, k_cmp1, k_idx1, k_dgt1, k_slc1, k_slc2, k_neg, k_not, k_non, k_ifeT, k_ifeF, k_cal1, k_cal2, k_cal3, k_isi, k_intO, k_bl, k_tcmp1, k_tnot, k_tandT, k_tandF, k_torT, k_torF, k_dsp, k_seqT, k_seqL, k_comp, d_add, d_sub, d_lt, d_le, d_gt, d_ge, d_eqS, d_neS, d_eqI, d_neI, d_neNil, d_min, d_max, d_abs, d_lenT, d_lenL, d_tupL, d_tupT, d_lstL, d_lstT, i_t0, i_l0, i_t1, i_l1, i_t2, i_l2, i_t3, i_l3, i_t4, i_l4, i_t5, i_l5, i_t6, i_l6, i_t7, i_l7, tr_bl, tr_int, tr_non, tr_tup, tr_lst, y_nil, y_cons, y_next, y_ret, y_brk, y_cnt, y_asg, y_par, y_par1, y_par2, y_ownL, y_ownK, y_app, y_appK, y_app2, y_aug, y_augK, y_augA, y_augS, y_setd, y_set1, y_set2, y_set3, y_set4, y_expr, y_exprK, y_ret1, y_retK, y_retn, y_ifs, y_ifsT, y_ifsF, y_forr, y_forK, y_whil, y_pas, y_brk1, y_cnt1, y_frz, y_frzK, y_asgK, fin_ret, fin_next, g_nm, g_tp, g_nil, g_cons, Res.bind_ok, SRes.of_ok, Option.bind_some, List.getElem?_cons_zero, List.getElem?_cons_succ, List.set_cons_zero, List.set_cons_succ, List.length_cons, List.length_nil, if_true, if_false, Nat.reduceAdd, Nat.reduceLT, Nat.zero_add, decide_true, decide_false, Bool.not_true, Bool.not_false, not_true_eq_false, not_false_eq_true, eq_self, ar__law_feed_0, r_feed _ ns h, k14]
  simp only [envL] at hl
  simp only [hl, C_cal, C_arr, C_gl, lkK_val, pkK_own, x_cint, x_cstr, x_cbl, x_cnon, x_var, x_glob, x_fnv, x_tup, x_lst, x_bin, x_neg, x_cmp, x_andv, x_orv, x_one, x_notv, x_ife, x_idx, x_dgt, x_slc, x_call, x_blt, x_isi, x_comp, x_dsp, xs_nil, xs_cons, xp_nil, xp_cons, xo_non, xo_som, xt_val, xt_cmp, xt_not, xt_and, xt_or, xt_one, xq_nil, xq_one, xi_seq, xi_rng1, xi_rng2, pk_own, pk_cint, pk_cstr, pk_cbl, pk_cnon, pk_var, pk_glob, pk_fnv, pk_tup, pk_lst, pk_bin, pk_neg, pk_cmp, pk_andv, pk_orv, pk_one, pk_notv, pk_ife, pk_idx, pk_dgt, pk_slc, pk_call, pk_blt, pk_isi, pk_comp, pk_dsp, k_tup, k_lst, k_con1, k_pcon1, k_con2, k_bin1, k_cmp1, k_idx1, k_dgt1, k_slc1, k_slc2, k_neg, k_not, k_non, k_ifeT, k_ifeF, k_cal1, k_cal2, k_cal3, k_isi, k_intO, k_bl, k_tcmp1, k_tnot, k_tandT, k_tandF, k_torT, k_torF, k_dsp, k_seqT, k_seqL, k_comp, d_add, d_sub, d_lt, d_le, d_gt, d_ge, d_eqS, d_neS, d_eqI, d_neI, d_neNil, d_min, d_max, d_abs, d_lenT, d_lenL, d_tupL, d_tupT, d_lstL, d_lstT, i_t0, i_l0, i_t1, i_l1, i_t2, i_l2, i_t3, i_l3, i_t4, i_l4, i_t5, i_l5, i_t6, i_l6, i_t7, i_l7, tr_bl, tr_int, tr_non, tr_tup, tr_lst, y_nil, y_cons, y_next, y_ret, y_brk, y_cnt, y_asg, y_par, y_par1, y_par2, y_ownL, y_ownK, y_app, y_appK, y_app2, y_aug, y_augK, y_augA, y_augS, y_setd, y_set1, y_set2, y_set3, y_set4, y_expr, y_exprK, y_ret1, y_retK, y_retn, y_ifs, y_ifsT, y_ifsF, y_forr, y_forK, y_whil, y_pas, y_brk1, y_cnt1, y_frz, y_frzK, y_asgK, fin_ret, fin_next, g_nm, g_tp, g_nil, g_cons, Res.bind_ok, SRes.of_ok, Option.bind_some, List.getElem?_cons_zero, List.getElem?_cons_succ, List.set_cons_zero, List.set_cons_succ, List.length_cons, List.length_nil, if_true, if_false, Nat.reduceAdd, Nat.reduceLT, Nat.zero_add, decide_true, decide_false, Bool.not_true, Bool.not_false, not_true_eq_false, not_false_eq_true, eq_self]
end Mp.Lw
end

section
set_option Elab.async false
set_option linter.all false
set_option maxRecDepth 100000
set_option maxHeartbeats 0
namespace Mp.Lw
open PySem PySem.Spec PyProof.Rows L2
abbrev R : PySem.W.OpenRow := PySem.W.OpenLaw.row PySem.Challenge.rw_tenanthall_k20_tokens_told
def loose0 : List PySem.Str := ["ratio", "added", "is_less", "lesser", "wholes", "grown", "paid", "pace_of", "_law_feed", "_law_draw", "_law_frac", "_law_plus", "_law_less", "_law_share", "_law_more", "_law_pace", "NOUGHT"]
def loose : List PySem.Str := loose0
abbrev hk : PySem.W.Hook := hookM 4 defs (moreB txt cs shs)
def ob (s : PySem.W.SharedT) : He.AlD := obsM 4 defs (moreB txt cs shs) (HandSHeadRun.getT s)
theorem ob_eq (s : PySem.W.SharedT) : ob s = hk.obs s.abs := obsM_eq (HandSHeadRun.getT_eq s)
theorem run (w : World) : HandSHeadRun.RunEq R (PySem.W.view R.prog [19]) hk ob 4000 loose w := by
  intro os
  kernel_rfl
end Mp.Lw
end

section
set_option maxRecDepth 100000
open PySem PySem.W PySem.Calls PyProof.Rows
set_option maxHeartbeats 0 in
theorem PySem.Challenge.cw_tenanthall_k20_tokens_told_holds : PySem.Challenge.rw_tenanthall_k20_tokens_told.Holds := by
  w_on; o_law
  refine HandSHeadRun.head_any (r := OpenLaw.row PySem.Challenge.rw_tenanthall_k20_tokens_told) (q := view (OpenLaw.row PySem.Challenge.rw_tenanthall_k20_tokens_told).prog [19]) (H := Mp.Lw.hk) (ob := Mp.Lw.ob) (M := 4000) (loose := Mp.Lw.loose) (d := HandSHeadRun.topDef (OpenLaw.row PySem.Challenge.rw_tenanthall_k20_tokens_told).prog 19) (kwd := []) Mp.Lw.ob_eq
    (by kernel_rfl) (fun s => by kernel_rfl) Mp.Lw.run (by kernel_rfl) (by kernel_rfl) (by kernel_rfl) (by rfl) (by first | assumption | decide +kernel) (by decide +kernel) ⟨rfl, rfl, rfl, rfl, rfl, by decide +kernel⟩ ?hw ?hc
  case hw => w_witness2
  case hc => exact Mp.top_law (l := PySem.Challenge.rw_tenanthall_k20_tokens_told) (n := 63) (k := 100) (fl := 16) rfl (by decide) (by kernel_rfl) ⟨rfl, by decide, by decide⟩ rfl rfl rfl (by decide) Mp.Lw.each (by kernel_rfl) rfl Mp.Lw.law
end
