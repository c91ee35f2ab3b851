import PyProof.Rows.All
import PyProof.EqLayable
import HandS.ForMost
import KE.SortData
import PyProof.StrBlock2
import HandS.IsInst
import HandS.TupAny
import HandS.Flow
import HandS.Wide
import HandS.Deep
import HandS.TupMul
import HandS.Style
import HandS.Conv
import HandS.TupLen
import HandS.More
import PyProof.AutoSeq1
import PyProof.WalksMore
import PyProof.WalksS
import PyProof.CollectIter
import PyProof.MakeMany
import HandS.Defaults
import KE.KTupSum
import HandS.DictComp
import HandS.Iter
import HandS.Zip
import HandS.DictTup
import KE.GoesMore
import PyProof.EnumMake
import HandS.NoneIn
import KE.KStateDown
import HandS.Head0
import HandS.Head1
import HandS.Head2
import HandS.HeadHook1
import HandS.HeadHook2
import HandS.HeadHook4
import PyProof.Rows.ReprOcc
import KE.SortLaws
import PySem.Challenge.RW_tenanthall_k21_whole_pace_by_rate

section
set_option Elab.async false
set_option linter.all false
/-! A small Python over plain data: values, a store, an IR, its evaluator. -/
namespace Mp
open PySem

inductive D where
  | non | bl (b : Bool) | int (i : Int) | str (s : Str) | tup (ds : List D) | lst (ds : List D) | obj (i : Nat) | fn (i : Nat)

/-- an object of the store -/
inductive Ob where
  | dk (kvs : List (L2.Key × D))
  | dt (kvs : List (List L2.Key × D))
  | ls (ds : List D)
  | lk (o : Ob)

abbrev Sto := List Ob
/-- an exception: which class, its fields -/
structure Ex where
  c : Nat
  fs : List (Str × D)

inductive Res (α : Type) where
  | ok (a : α) (M : Sto)
  | exc (x : Ex) (M : Sto)
  | stk

namespace Res
variable {α β γ : Type}
@[inline] def bind (r : Res α) (k : α → Sto → Res β) : Res β := match r with
  | .ok a M => k a M
  | .exc x M => .exc x M
  | .stk => .stk
@[simp] theorem bind_ok (a : α) (M : Sto) (k : α → Sto → Res β) : bind (.ok a M) k = k a M := id rfl
@[simp] theorem bind_exc (x : Ex) (M : Sto) (k : α → Sto → Res β) : bind (.exc x M) k = .exc x M := id rfl
@[simp] theorem bind_stk (k : α → Sto → Res β) : bind (.stk : Res α) k = .stk := id rfl
end Res

/-! ### data as the library's data -/
mutual
def py : D → PyData
  | .non => .none
  | .bl b => .bool b
  | .int i => .int i
  | .str s => .str s
  | .tup ds => .tuple (pys ds)
  | .lst ds => .list (pys ds)
  | .obj _ => .none
  | .fn _ => .none
def pys : List D → List PyData
  | [] => []
  | d :: ds => py d :: pys ds
end
mutual
/-- no object, no function within; texts of signs -/
def pure? : D → Bool
  | .tup ds => pures ds
  | .lst ds => pures ds
  | .obj _ => false
  | .fn _ => false
  | .str s => PyData.strOk s
  | _ => true
def pures : List D → Bool
  | [] => true
  | d :: ds => pure? d && pures ds
end
mutual
/-- how deep -/
def dep : D → Nat
  | .tup ds => deps ds + 1
  | .lst ds => deps ds + 1
  | _ => 0
def deps : List D → Nat
  | [] => 0
  | d :: ds => max (dep d) (deps ds)
end
mutual
/-- the text of repr is no longer than this -/
def wt : D → Nat
  | .str s => 10 * s.length + 2
  | .tup ds => wts ds + 3
  | .lst ds => wts ds + 3
  | .int _ => 2000
  | _ => 5
def wts : List D → Nat
  | [] => 0
  | d :: ds => wt d + 2 + wts ds
end
mutual
/-- ints that repr writes -/
def small? : D → Bool
  | .int i => decide (i.natAbs < 2 ^ 1900)
  | .tup ds => smalls ds
  | .lst ds => smalls ds
  | _ => true
def smalls : List D → Bool
  | [] => true
  | d :: ds => small? d && smalls ds
end

mutual
/-- names no object from the n-th on -/
def scp (n : Nat) : D → Bool
  | .obj i => decide (i < n)
  | .tup ds => scps n ds
  | .lst ds => scps n ds
  | _ => true
def scps (n : Nat) : List D → Bool
  | [] => true
  | d :: ds => scp n d && scps n ds
end
def scpO (n : Nat) : Ob → Bool
  | .dk kvs => scps n (kvs.map (·.2))
  | .dt kvs => scps n (kvs.map (·.2))
  | .ls ds => scps n ds
  | .lk o => scpO n o
def gcOk (M : Sto) (ds : List D) (M' : Sto) : Prop := scps M.length ds = true ∧ (M'.take M.length = M ∨ (M'.take M.length).all (scpO M.length) = true)
open Classical in
/-- what a def has made and does not hand out is gone behind it -/
noncomputable def gcR (M : Sto) (r : Res D) : Res D := match r with
  | .ok d M' => if gcOk M [d] M' then .ok d (M'.take M.length) else .ok d M'
  | .exc x M' => if gcOk M (x.fs.map (·.2)) M' then .exc x (M'.take M.length) else .exc x M'
  | .stk => .stk

/-! ### operators -/
inductive Bop where
  | add | sub | mul | fdiv | mod | pow
  deriving DecidableEq
inductive Cop where
  | eq | ne | lt | le | gt | ge | is_ | isnot | in_ | notin
  deriving DecidableEq
inductive Ty where
  | tuple | list | int | bool | str | dict
  deriving DecidableEq
inductive Blt where
  | len | repr | tuple | list | all | any | sum | min | max | abs | int | sorted | dict
  deriving DecidableEq

def line : Nat := 16000000
def widthOk (i j : Int) : Bool := decide (i.natAbs < 2 ^ 4000) && decide (j.natAbs < 2 ^ 4000)

def binI (o : Bop) (i j : Int) : Option Int := match o with
  | .add => some (i + j)
  | .sub => some (i - j)
  | .mul => if widthOk i j then some (i * j) else none
  | .fdiv => if j = 0 then none else if j.natAbs < 1073741824 then some (i.fdiv j) else if 0 < j ∧ j.natAbs < 2 ^ 4000 then some (i / j) else none
  | .mod => if j = 0 then none else some (i.fmod j)
  | .pow => if 0 ≤ j ∧ j ≤ 1000 ∧ i.natAbs < 2 ^ 64 then some (i ^ j.toNat) else none
def binD (o : Bop) (x y : D) (M : Sto) : Res D := match x, y with
  | .tup a, .int k => (match o with | .mul => if a.isEmpty = false ∧ 2 ≤ k ∧ k ≤ 1000 ∧ a.length ≤ 1000 then .ok (.tup (List.replicate k.toNat a).flatten) M else .stk | _ => .stk)
  | .lst a, .int k => (match o with | .mul => if 0 ≤ k ∧ k ≤ 1000 ∧ a.length * k.toNat ≤ line then .ok (.lst (List.replicate k.toNat a).flatten) M else .stk | _ => .stk)
  | .str a, .int k => (match o with | .mul => if 0 ≤ k ∧ k ≤ 1000 ∧ a.length ≤ 10000 then .ok (.str (Txt.mul a k)) M else .stk | _ => .stk)
  | .int i, .int j => (match binI o i j with | some k => .ok (.int k) M | none => .stk)
  | .tup a, .tup b => (match o with | .add => if a.length + b.length ≤ line then .ok (.tup (a ++ b)) M else .stk | _ => .stk)
  | .lst a, .lst b => (match o with | .add => if a.length + b.length ≤ line then .ok (.lst (a ++ b)) M else .stk | _ => .stk)
  | .str a, .str b => (match o with | .add => if a.length + b.length ≤ line then .ok (.str (a ++ b)) M else .stk | _ => .stk)
  | _, _ => .stk
def eqOk (x y : D) : Bool := pure? x && pure? y && decide (dep x ≤ 60) && decide (dep y ≤ 60)
def isNonD : D → Bool
  | .non => true
  | _ => false
def strP (x y : D) : Option Bool := match x, y with
  | .str a, .str b => some (decide (a = b))
  | _, _ => none
def dget {κ : Type} [DecidableEq κ] (kvs : List (κ × D)) (k : κ) : Option D := (kvs.find? fun p => decide (p.1 = k)).map (·.2)
def dput {κ : Type} [DecidableEq κ] (kvs : List (κ × D)) (k : κ) (v : D) : List (κ × D) := if (kvs.any fun p => decide (p.1 = k)) = true then kvs.map (fun p => if p.1 = k then (p.1, v) else p) else kvs ++ [(k, v)]
def keyD : D → Option L2.Key
  | .int i => some (.inl i)
  | .str s => some (.inr s)
  | _ => none
def keysD : List D → Option (List L2.Key)
  | [] => some []
  | d :: ds => (keyD d).bind fun k => (keysD ds).map (k :: ·)
def isL : L2.Key → Bool
  | .inl _ => true
  | .inr _ => false
/-- an int and a text at least -/
def mixK (ks : List L2.Key) : Bool := ks.any isL && ks.any fun k => !isL k
def tkeyD : D → Option (List L2.Key)
  | .tup ds => (keysD ds).bind fun ks => if mixK ks = true then some ks else none
  | _ => none
def keyB : L2.Key → D
  | .inl i => .int i
  | .inr s => .str s
def openO : Ob → Ob
  | .lk o => o
  | o => o
def obAt (M : Sto) (a : Nat) : Option Ob := (M[a]?).map openO
/-- what the dict at a holds at a key (none: no such dict, no such key) -/
def look (M : Sto) (a : Nat) (y : D) : Option (Option D) := match obAt M a with
  | some (.dk kvs) => (keyD y).map (dget kvs)
  | some (.dt kvs) => (tkeyD y).map (dget kvs)
  | _ => none
/-- what a walk over an object goes through -/
def walkO : Ob → Option (List D)
  | .dk kvs => some (kvs.map fun p => keyB p.1)
  | .dt kvs => some (kvs.map fun p => .tup (p.1.map keyB))
  | .ls ds => some ds
  | .lk _ => none
def itemsO : Ob → Option (List D)
  | .dk kvs => some (kvs.map fun p => .tup [keyB p.1, p.2])
  | .dt kvs => some (kvs.map fun p => .tup [.tup (p.1.map keyB), p.2])
  | _ => none
/-- from now on it stays as it is -/
def lockM (M : Sto) (a : Nat) : Option (Ob × Sto) := match M[a]? with
  | some (.lk o) => some (o, M)
  | some o => some (o, M.set a (.lk o))
  | none => none
def dline : Nat := 1000000
def stor (M : Sto) (n : Nat) (y x : D) : Option Sto := match M[n]? with
  | some (.dk kvs) => (keyD y).bind fun k => if kvs.length < dline then some (M.set n (.dk (dput kvs k x))) else none
  | some (.dt kvs) => (tkeyD y).bind fun k => if kvs.length < dline then some (M.set n (.dt (dput kvs k x))) else none
  | some (.ls ds) => (match y with | .int i => if 0 ≤ i ∧ i < ds.length then some (M.set n (.ls (ds.set i.toNat x))) else none | _ => none)
  | _ => none
/-- behind an append -/
def apnd (M : Sto) (n : Nat) (x : D) : Option Sto := match M[n]? with
  | some (.ls ds) => if ds.length < line then some (M.set n (.ls (ds ++ [x]))) else none
  | _ => none
def isLst (M : Sto) (n : Nat) : Bool := match obAt M n with
  | some (.ls _) => true
  | _ => false
def subB (s t : Str) : Bool := !(Builtin.Str.occurrences t s 0 t.length 1).isEmpty
def inD (x y : D) (M : Sto) : Option Bool := match y with
  | .str t => (match x with | .str s => some (subB s t) | _ => none)
  | .tup ds => if eqOk x (.tup ds) then some ((pys ds).any fun z => PyData.eqv z (py x)) else none
  | .lst ds => if eqOk x (.lst ds) then some ((pys ds).any fun z => PyData.eqv z (py x)) else none
  | .obj a => (look M a x).map (·.isSome)
  | _ => none
def cmpD (o : Cop) (x y : D) (M : Sto) : Res D := match o with
  | .eq => (match strP x y with | some b => .ok (.bl b) M | none => if eqOk x y then .ok (.bl (PyData.eqv (py x) (py y))) M else .stk)
  | .ne => (match strP x y with | some b => .ok (.bl (!b)) M | none => if eqOk x y then .ok (.bl (!PyData.eqv (py x) (py y))) M else .stk)
  | .is_ => (match y with | .non => .ok (.bl (isNonD x)) M | .bl b => (match x with | .bl a => .ok (.bl (decide (a = b))) M | _ => .stk) | _ => .stk)
  | .isnot => (match y with | .non => .ok (.bl (!isNonD x)) M | .bl b => (match x with | .bl a => .ok (.bl (!decide (a = b))) M | _ => .stk) | _ => .stk)
  | .lt => (match x, y with | .int i, .int j => .ok (.bl (decide (i < j))) M | _, _ => .stk)
  | .le => (match x, y with | .int i, .int j => .ok (.bl (decide (i ≤ j))) M | _, _ => .stk)
  | .gt => (match x, y with | .int i, .int j => .ok (.bl (decide (j < i))) M | _, _ => .stk)
  | .ge => (match x, y with | .int i, .int j => .ok (.bl (decide (j ≤ i))) M | _, _ => .stk)
  | .in_ => (match inD x y M with | some b => .ok (.bl b) M | none => .stk)
  | .notin => (match inD x y M with | some b => .ok (.bl (!b)) M | none => .stk)
def truO (x : D) : Option Bool := match x with
  | .non => some false
  | .bl b => some b
  | .int i => some (i != 0)
  | .str s => if s.length ≤ line then some (s.length != 0) else none
  | .tup ds => some (!ds.isEmpty)
  | .lst ds => some (!ds.isEmpty)
  | _ => none
def truD (x : D) (M : Sto) : Res Bool := match truO x with
  | some b => .ok b M
  | none => .stk
def dgtD (x y : D) (M : Sto) : Res D := match x with
  | .obj a => (match look M a y with | some (some d) => .ok d M | _ => .stk)
  | _ => .stk
def isDct (x : D) (M : Sto) : Bool := match x with
  | .obj a => (match obAt M a with | some (.dk _) => true | some (.dt _) => true | _ => false)
  | _ => false
def seqO : D → Option (List D)
  | .tup ds => some ds
  | .lst ds => some ds
  | _ => none
def getD (x y w : D) (M : Sto) : Res D := match x with
  | .obj a => (match look M a y with | some (some d) => .ok d M | some none => .ok w M | none => .stk)
  | _ => .stk
def idxD (x y : D) (M : Sto) : Res D := match x, y with
  | .tup ds, .int i => (match L2.atI ds i with | some d => .ok d M | none => .stk)
  | .lst ds, .int i => (match L2.atI ds i with | some d => .ok d M | none => .stk)
  | .str s, .int i => if s.length ≤ line then (match L2.atI s.cps.toList i with | some c => .ok (.str ⟨#[c]⟩) M | none => .stk) else .stk
  | .obj a, y => (match obAt M a with
    | some (.ls ds) => (match y with | .int i => (match L2.atI ds i with | some d => .ok d M | none => .stk) | _ => .stk)
    | _ => dgtD (.obj a) y M)
  | _, _ => .stk
/-- each other one -/
def evens {α : Type} : List α → List α
  | [] => []
  | [a] => [a]
  | a :: _ :: r => a :: evens r
/-- the items that xs[::k] takes -/
def stepL {α : Type} (xs : List α) (k : Int) : List α := if k = -1 then xs.reverse else if k = 2 then evens xs else xs
def cutD {α : Type} (xs : List α) (lo hi : Option Int) : List α := (xs.drop (HT.sIx xs.length 0 lo)).take (HT.sIx xs.length xs.length hi - HT.sIx xs.length 0 lo)
def slcD (x : D) (lo hi : Option Int) (M : Sto) : Res D := match x with
  | .tup ds => .ok (.tup (cutD ds lo hi)) M
  | .lst ds => .ok (.lst (cutD ds lo hi)) M
  | .str s => if s.length ≤ line then .ok (.str (L2.cutS s lo hi)) M else .stk
  | _ => .stk
/-- x[::k] -/
def stpD (x : D) (k : Int) (M : Sto) : Res D := match x with
  | .tup ds => if k = -1 ∨ k = 1 ∨ k = 2 then .ok (.tup (stepL ds k)) M else .stk
  | .lst ds => if k = -1 ∨ k = 1 ∨ k = 2 then .ok (.lst (stepL ds k)) M else .stk
  | _ => .stk
def isiD (x : D) (t : Ty) : Bool := match x, t with
  | .tup _, .tuple => true
  | .lst _, .list => true
  | .int _, .int => true
  | .bl _, .int => true
  | .bl _, .bool => true
  | .str _, .str => true
  | .obj _, .dict => true
  | _, _ => false
def isiOk (x : D) : Bool := match x with | .fn _ => false | .obj _ => false | _ => true
def reprD (x : D) (M : Sto) : Res D := if pure? x && small? x && decide (dep x ≤ 60) && decide (wt x ≤ line) then .ok (.str (PyData.shown (py x))) M else .stk
def bools : List D → Option (List Bool)
  | [] => some []
  | .bl b :: r => (bools r).map (b :: ·)
  | _ => none
def intsD : List D → Option (List Int)
  | [] => some []
  | .int b :: r => (intsD r).map (b :: ·)
  | _ => none
/-- sorted by the order of data -/
def sortD (ds : List D) : List D := ds.mergeSort fun a b => PySem.W.dataLe false py a b
def tupB? : D → Bool
  | .tup (_ :: _) => true
  | _ => false
def flatB? : D → Bool
  | .tup _ => false
  | .non => false
  | .obj _ => false
  | .fn _ => false
  | _ => true
def sortOk (ds : List D) : Bool := pures ds && ds.all (fun d => decide (dep d ≤ 60)) && ds.all (fun d => ds.all fun e => PySem.W.alike (py d) (py e)) && (ds.all tupB? || ds.all flatB?)
/-- a row of pairs, their first ones keys -/
def pairsD : List D → Option (List (L2.Key × D))
  | [] => some []
  | .tup [k, v] :: r => (keyD k).bind fun k => (pairsD r).map ((k, v) :: ·)
  | _ => none
def mergeD {κ : Type} [DecidableEq κ] (kvs more : List (κ × D)) : List (κ × D) := more.foldl (fun acc p => dput acc p.1 p.2) kvs
def lenO : Ob → Option Nat
  | .dk kvs => some kvs.length
  | .dt kvs => some kvs.length
  | .ls ds => some ds.length
  | .lk _ => none
def bltD (b : Blt) (xs : List D) (M : Sto) : Res D := match b, xs with
  | .len, [.obj a] => (match (obAt M a).bind lenO with | some n => .ok (.int n) M | none => .stk)
  | .list, [.obj a] => (match (obAt M a).bind walkO with | some ds => .ok (.lst ds) M | none => .stk)
  | .sorted, [.obj a] => (match (obAt M a).bind walkO with | some ds => if sortOk ds = true then .ok (.lst (sortD ds)) M else .stk | none => .stk)
  | .len, [.tup ds] => .ok (.int ds.length) M
  | .len, [.lst ds] => .ok (.int ds.length) M
  | .len, [.str s] => if s.length ≤ line then .ok (.int s.length) M else .stk
  | .dict, [.lst ds] => (match pairsD ds with | some kvs => .ok (.obj M.length) (M ++ [.dk (mergeD [] kvs)]) | none => .stk)
  | .repr, [x] => reprD x M
  | .tuple, [.tup ds] => .ok (.tup ds) M
  | .tuple, [.lst ds] => .ok (.tup ds) M
  | .list, [.tup ds] => .ok (.lst ds) M
  | .list, [.lst ds] => .ok (.lst ds) M
  | .all, [.lst ds] => (match bools ds with | some bs => .ok (.bl (bs.all id)) M | none => .stk)
  | .any, [.lst ds] => (match bools ds with | some bs => .ok (.bl (bs.any id)) M | none => .stk)
  | .sum, [.lst ds] => (match intsD ds with | some bs => .ok (.int bs.sum) M | none => .stk)
  | .sum, [.tup ds] => (match intsD ds with | some bs => .ok (.int bs.sum) M | none => .stk)
  | .min, [.int i, .int j] => .ok (.int (if j < i then j else i)) M
  | .max, [.int i, .int j] => .ok (.int (if j > i then j else i)) M
  | .abs, [.int i] => .ok (.int (if i < 0 then -i else i)) M
  | .int, [.int i] => .ok (.int i) M
  | .sorted, [.lst ds] => if sortOk ds = true then .ok (.lst (sortD ds)) M else .stk
  | .int, [.bl b] => .ok (.int (if b = true then 1 else 0)) M
  | _, _ => .stk

/-! ### the IR -/
inductive G where
  | nm (i : Nat)
  | tp (gs : List G)

mutual
inductive E where
  | cint (i : Int) | cstr (s : Str) | cbl (b : Bool) | cnon
  | var (i : Nat)
  | own (i : Nat)
  | glob (k : Nat)
  | fnv (f : Nat)
  | tup (es : Es) | lst (es : Es)
  | bin (o : Bop) (a b : E)
  | neg (a : E)
  | cmp (o : Cop) (a b : E)
  | chn (o p : Cop) (a b c : E)
  | andv (a b : E) | orv (a b : E) | one (a : E)
  | notv (a : E)
  | ife (t : T) (a b : E)
  | idx (a b : E)
  | dgt (a b : E)
  | slc (a : E) (lo hi : O)
  | call (f sh : Nat) (es ks : Es)
  | callv (i : Nat) (es : Es)
  | blt (b : Blt) (es : Es)
  | isi (e : E) (t : Ty)
  | comp (g : G) (own : List (Str × Nat)) (it : It) (t : Ts) (elt : E)
  | dcomp (tk : Bool) (g : G) (own : List (Str × Nat)) (it : It) (t : Ts) (k v : E)
  | lrng (t : Bool) (it : It)
  | lnew (es : Es)
  | stp (a k : E)
  | dsp (ks : List Str) (vs : Es)
  | dnew (t : Bool)
  | get2 (a k z : E) | get1 (a k : E)
inductive Es where
  | nil | cons (e : E) (r : Es)
inductive O where
  | non | som (e : E)
inductive T where
  | val (e : E)
  | cmp (o : Cop) (a b : E)
  | chn (o p : Cop) (a b c : E)
  | not (t : T)
  | and (a b : T) | or (a b : T) | one (a : T)
inductive Ts where
  | nil | one (t : T)
inductive It where
  | seq (e : E)
  | rng1 (e : E) | rng2 (a b : E)
  | enum (e : E) | zip (a b : E) | items (e : E)
end

/-- a row's right side: a value, a list of the frame's own -/
inductive RX where
  | v (e : E)
  | o (es : Es)
inductive S where
  | asg (g : G) (e : E)
  | par (i j : Nat) (a b : E)
  | ownL (i : Nat) (es : Es)
  | ownF (i : Nat) (e : E)
  | ownC (i : Nat) (e : E)
  | app (i : Nat) (e : E)
  | ext (i : Nat) (e : E)
  | star (gs : List G) (i : Nat) (e : E)
  | row (ts : List Nat) (rs : List RX)
  | aug (i : Nat) (o : Bop) (e : E)
  | setd (a k e : E)
  | appo (a e : E)
  | expr (e : E)
  | ret (e : E) | retn
  | ifs (t : T) (a b : List S)
  | forr (g : G) (it : It) (b : List S)
  | whil (t : T) (b : List S)
  | pas | brk | cnt
  | frz (i : Nat) (s : S)

/-! ### evaluation -/
inductive Slot where
  | non | val (d : D) | own (ds : List D)
abbrev Env := List Slot

structure Cal where
  cal : Nat → List D → Sto → Res D
  gl : Nat → D
  arr : Nat → Nat → List D → List D → Option (List D)

mutual
def bindG : G → D → Env → Option Env
  | .nm i, d, env => if i < env.length then some (env.set i (.val d)) else none
  | .tp gs, d, env => match d with
    | .tup ds => bindGs gs ds env
    | .lst ds => bindGs gs ds env
    | _ => none
def bindGs : List G → List D → Env → Option Env
  | [], [], env => some env
  | g :: gs, d :: ds, env => (bindG g d env).bind fun env' => bindGs gs ds env'
  | _, _, _ => none
end

/-- a list of the store as what a row of targets takes -/
def unO (M : Sto) (x : D) : D := match x with
  | .obj a => (match obAt M a with | some (.ls ds) => .lst ds | _ => x)
  | _ => x
def bindM (M : Sto) (g : G) (x : D) (env : Env) : Option Env := match g with
  | .nm i => bindG (.nm i) x env
  | .tp gs => bindG (.tp gs) (unO M x) env
/-- a, b, *c = x -/
def starD (gs : List G) (i : Nat) (x : D) (env : Env) : Option Env := match x with
  | .tup ds => if gs.length ≤ ds.length then bindGs (gs ++ [.nm i]) (ds.take gs.length ++ [.lst (ds.drop gs.length)]) env else none
  | _ => none
def peek (e : E) (env : Env) (M : Sto) (r : Res D) : Res D := match e with
  | .own i => (match env[i]? with | some (.own ds) => .ok (.lst ds) M | _ => .stk)
  | _ => r

def compL (step : D → Sto → Res (Option D)) : List D → List D → Sto → Res (List D)
  | [], acc, M => .ok acc M
  | d :: ds, acc, M => match step d M with
    | .ok (some y) M' => compL step ds (acc ++ [y]) M'
    | .ok none M' => compL step ds acc M'
    | _ => .stk

def dcompL {κ : Type} [DecidableEq κ] (key : D → Option κ) (step : D → Sto → Res (Option (D × D))) : List D → List (κ × D) → Sto → Res (List (κ × D))
  | [], acc, M => .ok acc M
  | d :: ds, acc, M => match step d M with
    | .ok (some (k, y)) M' => (match key k with | some k => if acc.length < dline then dcompL key step ds (dput acc k y) M' else .stk | none => .stk)
    | .ok none M' => dcompL key step ds acc M'
    | _ => .stk
def enumD : Nat → List D → List D
  | _, [] => []
  | i, d :: ds => .tup [.int (i : Nat), d] :: enumD (i + 1) ds
def zipD : List D → List D → List D
  | a :: as, b :: bs => .tup [a, b] :: zipD as bs
  | _, _ => []
def wipeE (env : Env) : List (Str × Nat) → Env
  | [] => env
  | p :: ps => (wipeE env ps).set p.2 .non

def ownFree (env : Env) (own : List (Str × Nat)) : Bool := own.all fun p => match env[p.2]? with | some (.own _) => false | _ => true

def iota (lo : Int) : Nat → List D
  | 0 => []
  | n + 1 => .int lo :: iota (lo + 1) n
def rngOk (i : Int) : Bool := decide (-1000000000 ≤ i) && decide (i < 1000000000)
mutual
def evE (c : Cal) : E → Env → Sto → Res D
  | .cint i, _, M => .ok (.int i) M
  | .cstr s, _, M => .ok (.str s) M
  | .cbl b, _, M => .ok (.bl b) M
  | .cnon, _, M => .ok .non M
  | .var i, env, M => (match env[i]? with | some (.val d) => .ok d M | _ => .stk)
  | .own _, _, _ => .stk
  | .glob k, _, M => .ok (c.gl k) M
  | .fnv f, _, M => .ok (.fn f) M
  | .tup es, env, M => (evEs c es env M).bind fun ds M => .ok (.tup ds) M
  | .lst es, env, M => (evEs c es env M).bind fun ds M => .ok (.lst ds) M
  | .bin o a b, env, M => (evE c a env M).bind fun x M => (evE c b env M).bind fun y M => binD o x y M
  | .neg a, env, M => (evE c a env M).bind fun x M => (match x with | .int i => .ok (.int (-i)) M | _ => .stk)
  | .cmp o a b, env, M => (peek a env M (evE c a env M)).bind fun x M => (peek b env M (evE c b env M)).bind fun y M => cmpD o x y M
  | .chn o p a b d, env, M => (evE c a env M).bind fun x M => (evE c b env M).bind fun y M => (cmpD o x y M).bind fun z M => (match z with
      | .bl true => (evE c d env M).bind fun w M => cmpD p y w M
      | .bl false => .ok (.bl false) M
      | _ => .stk)
  | .andv a b, env, M => (evE c a env M).bind fun x M => (truD x M).bind fun t M => if t = true then evE c b env M else .ok x M
  | .orv a b, env, M => (evE c a env M).bind fun x M => (truD x M).bind fun t M => if t = true then .ok x M else evE c b env M
  | .one a, env, M => evE c a env M
  | .notv a, env, M => (evE c a env M).bind fun x M => (truD x M).bind fun t M => .ok (.bl (!t)) M
  | .ife t a b, env, M => (evT c t env M).bind fun t M => if t = true then evE c a env M else evE c b env M
  | .idx a b, env, M => (peek a env M (evE c a env M)).bind fun x M => (evE c b env M).bind fun y M => idxD x y M
  | .dgt a b, env, M => (evE c a env M).bind fun x M => (evE c b env M).bind fun y M => dgtD x y M
  | .dcomp tk g own it t k v, env, M => if ownFree env own = false then .stk else (evI c it env M).bind fun ds M =>
      let step := fun d M => match bindG g d (wipeE env own) with
        | some env2 => (evTs c t env2 M).bind fun b M => if b = true then (evE c k env2 M).bind fun y M => (evE c v env2 M).bind fun z M => .ok (some (y, z)) M else .ok none M
        | none => .stk
      if tk = true then (dcompL tkeyD step ds [] M).bind fun kvs M => .ok (.obj M.length) (M ++ [.dt kvs]) else (dcompL keyD step ds [] M).bind fun kvs M => .ok (.obj M.length) (M ++ [.dk kvs])
  | .lrng t it, env, M => match it with
    | .rng1 _ => (evI c it env M).bind fun ds M => .ok (if t = true then .tup ds else .lst ds) M
    | .rng2 _ _ => (evI c it env M).bind fun ds M => .ok (if t = true then .tup ds else .lst ds) M
    | _ => .stk
  | .lnew es, env, M => (evEs c es env M).bind fun ds M => .ok (.obj M.length) (M ++ [.ls ds])
  | .stp a k, env, M => (peek a env M (evE c a env M)).bind fun x M => (evE c k env M).bind fun y M => (match y with | .int k => stpD x k M | _ => .stk)
  | .slc a lo hi, env, M => (peek a env M (evE c a env M)).bind fun x M => (evO c lo env M).bind fun l M => (evO c hi env M).bind fun h M => slcD x l h M
  | .call f sh es ks, env, M => (evEs c es env M).bind fun xs M => (evEs c ks env M).bind fun zs M => (match c.arr f sh xs zs with | some ds => c.cal f ds M | none => .stk)
  | .callv i es, env, M => (match env[i]? with | some (.val (.fn f)) => (evEs c es env M).bind fun xs M => c.cal f xs M | _ => .stk)
  | .blt b es, env, M => (evPs c es env M).bind fun xs M => bltD b xs M
  | .isi e t, env, M => (peek e env M (evE c e env M)).bind fun x M => if isiOk x then .ok (.bl (isiD x t)) M else .stk
  | .comp g own it t elt, env, M => if ownFree env own = false then .stk else (evI c it env M).bind fun ds M =>
      (compL (fun d M => match bindG g d (wipeE env own) with
        | some env2 => (evTs c t env2 M).bind fun b M => if b = true then (evE c elt env2 M).bind fun y M => .ok (some y) M else .ok none M
        | none => .stk) ds [] M).bind fun ys M => .ok (.lst ys) M
  | .dnew t, _, M => .ok (.obj M.length) (M ++ [if t = true then .dt [] else .dk []])
  | .get2 a k z, env, M => (evE c a env M).bind fun x M => if isDct x M = true then (evE c k env M).bind fun y M => (evE c z env M).bind fun w M => getD x y w M else .stk
  | .get1 a k, env, M => (evE c a env M).bind fun x M => if isDct x M = true then (evE c k env M).bind fun y M => getD x y .non M else .stk
  | .dsp ks vs, env, M => (evEs c vs env M).bind fun ys M => .ok (.obj M.length) (M ++ [.dk ((ks.map Sum.inr).zip ys)])
def evEs (c : Cal) : Es → Env → Sto → Res (List D)
  | .nil, _, M => .ok [] M
  | .cons e r, env, M => (evE c e env M).bind fun x M => (evEs c r env M).bind fun xs M => .ok (x :: xs) M
def evPs (c : Cal) : Es → Env → Sto → Res (List D)
  | .nil, _, M => .ok [] M
  | .cons e r, env, M => (peek e env M (evE c e env M)).bind fun x M => (evPs c r env M).bind fun xs M => .ok (x :: xs) M
def evO (c : Cal) : O → Env → Sto → Res (Option Int)
  | .non, _, M => .ok none M
  | .som e, env, M => (evE c e env M).bind fun x M => (match x with | .int i => .ok (some i) M | _ => .stk)
def evT (c : Cal) : T → Env → Sto → Res Bool
  | .val e, env, M => (peek e env M (evE c e env M)).bind fun x M => truD x M
  | .cmp o a b, env, M => (peek a env M (evE c a env M)).bind fun x M => (peek b env M (evE c b env M)).bind fun y M => (cmpD o x y M).bind fun z M => (match z with | .bl k => .ok k M | _ => .stk)
  | .chn o p a b d, env, M => (evE c a env M).bind fun x M => (evE c b env M).bind fun y M => (cmpD o x y M).bind fun z M => (match z with
      | .bl true => (evE c d env M).bind fun w M => (cmpD p y w M).bind fun z M => (match z with | .bl k => .ok k M | _ => .stk)
      | .bl false => .ok false M
      | _ => .stk)
  | .not t, env, M => (evT c t env M).bind fun b M => .ok (!b) M
  | .and a b, env, M => (evT c a env M).bind fun x M => if x = true then evT c b env M else .ok false M
  | .or a b, env, M => (evT c a env M).bind fun x M => if x = true then .ok true M else evT c b env M
  | .one a, env, M => evT c a env M
def evTs (c : Cal) : Ts → Env → Sto → Res Bool
  | .nil, _, M => .ok true M
  | .one t, env, M => evT c t env M
def evI (c : Cal) : It → Env → Sto → Res (List D)
  | .seq e, env, M => (evE c e env M).bind fun x M => (match x with | .tup ds => .ok ds M | .lst ds => .ok ds M | .obj a => (match lockM M a with | some (o, M') => (match walkO o with | some ds => .ok ds M' | none => .stk) | none => .stk) | _ => .stk)
  | .enum e, env, M => (evE c e env M).bind fun x M => (match x with | .tup ds => .ok (enumD 0 ds) M | .lst ds => .ok (enumD 0 ds) M | _ => .stk)
  | .zip a b, env, M => (evE c a env M).bind fun x M => (evE c b env M).bind fun y M => (match x, y with | .tup ds, .tup es => .ok (zipD ds es) M | .lst ds, .lst es => .ok (zipD ds es) M | _, _ => .stk)
  | .items e, env, M => (evE c e env M).bind fun x M => (match x with | .obj a => (match lockM M a with | some (o, M') => (match itemsO o with | some ds => .ok ds M' | none => .stk) | none => .stk) | _ => .stk)
  | .rng1 a, env, M => (evE c a env M).bind fun x M => (match x with | .int n => if rngOk n && decide (n.toNat ≤ line) then .ok (iota 0 n.toNat) M else .stk | _ => .stk)
  | .rng2 a b, env, M => (evE c a env M).bind fun x M => (evE c b env M).bind fun y M => (match x, y with | .int i, .int j => if rngOk i && rngOk j && decide ((j - i).toNat ≤ line) then .ok (iota i (j - i).toNat) M else .stk | _, _ => .stk)
end

def evR (c : Cal) (r : RX) (env : Env) (M : Sto) : Res Slot := match r with
  | .v e => (evE c e env M).bind fun x M => .ok (.val x) M
  | .o es => (evEs c es env M).bind fun xs M => .ok (.own xs) M
def evRs (c : Cal) : List RX → Env → Sto → Res (List Slot)
  | [], _, M => .ok [] M
  | r :: rs, env, M => (evR c r env M).bind fun s M => (evRs c rs env M).bind fun ss M => .ok (s :: ss) M
def setsE : List Nat → List Slot → Env → Env
  | t :: ts, s :: ss, env => setsE ts ss (env.set t s)
  | _, _, env => env
def AugOk (o : Bop) : Bool := match o with | .add => true | .sub => true | _ => false
def AugT (o : Bop) : Bool := match o with | .add => true | _ => false
inductive SRes where
  | next (env : Env) (M : Sto)
  | ret (d : D) (M : Sto)
  | brk (env : Env) (M : Sto)
  | cnt (env : Env) (M : Sto)
  | exc (x : Ex) (M : Sto)
  | stk
def SRes.of {α : Type} (r : Res α) (k : α → Sto → SRes) : SRes := match r with
  | .ok a M => k a M
  | .exc x M => .exc x M
  | .stk => .stk
@[simp] theorem SRes.of_ok {α : Type} (a : α) (M : Sto) (k : α → Sto → SRes) : SRes.of (.ok a M) k = k a M := id rfl
@[simp] theorem SRes.of_exc {α : Type} (a : Ex) (M : Sto) (k : α → Sto → SRes) : SRes.of (.exc a M) k = .exc a M := id rfl
@[simp] theorem SRes.of_stk {α : Type} (k : α → Sto → SRes) : SRes.of .stk k = .stk := id rfl
def SRes.andThen (r : SRes) (k : Env → Sto → SRes) : SRes := match r with
  | .next env M => k env M
  | r => r

def forL (step : D → Env → Sto → SRes) : List D → Env → Sto → SRes
  | [], env, M => .next env M
  | d :: ds, env, M => match step d env M with
    | .next env' M' => forL step ds env' M'
    | .cnt env' M' => forL step ds env' M'
    | .brk env' M' => .next env' M'
    | r => r

/-- n turns at most -/
def whileN (t : Env → Sto → Res Bool) (b : Env → Sto → SRes) : Nat → Env → Sto → Option SRes
  | 0, _, _ => none
  | n + 1, env, M => match t env M with
    | .ok true M' => (match b env M' with
      | .next env' M'' => whileN t b n env' M''
      | .cnt env' M'' => whileN t b n env' M''
      | .brk env' M'' => some (.next env' M'')
      | r => some r)
    | .ok false M' => some (.next env M')
    | .exc x M' => some (.exc x M')
    | .stk => some .stk
open Classical in
noncomputable def whileD (t : Env → Sto → Res Bool) (b : Env → Sto → SRes) (env : Env) (M : Sto) : SRes :=
  if h : ∃ r n, whileN t b n env M = some r then h.choose else .stk

mutual
noncomputable def evS (c : Cal) : S → Env → Sto → SRes
  | .asg g e, env, M => .of (evE c e env M) fun x M => (match bindM M g x env with | some env' => .next env' M | none => .stk)
  | .par i j a b, env, M => .of (evE c a env M) fun x M => .of (evE c b env M) fun y M => .next ((env.set i (.val x)).set j (.val y)) M
  | .ownL i es, env, M => .of (evEs c es env M) fun xs M => if i < env.length then .next (env.set i (.own xs)) M else .stk
  | .ownC i e, env, M => .of (peek e env M (evE c e env M)) fun x M => (match seqO x with | some ds => if i < env.length then .next (env.set i (.own ds)) M else .stk | none => .stk)
  | .ownF i e, env, M => .of (evE c e env M) fun x M => (match x with | .lst ds => if i < env.length then .next (env.set i (.own ds)) M else .stk | _ => .stk)
  | .app i e, env, M => (match env[i]? with | some (.own ds) => .of (evE c e env M) fun x M => if ds.length < line then .next (env.set i (.own (ds ++ [x]))) M else .stk | _ => .stk)
  | .row ts rs, env, M => .of (evRs c rs env M) fun ss M => if ts.length = ss.length ∧ (ts.all fun t => decide (t < env.length)) = true then .next (setsE ts ss env) M else .stk
  | .star gs i e, env, M => .of (evE c e env M) fun x M => (match starD gs i x env with | some env' => .next env' M | none => .stk)
  | .ext i e, env, M => (match env[i]? with | some (.own ds) => .of (evE c e env M) fun x M => (match seqO x with | some es => if ds.length + es.length ≤ line then .next (env.set i (.own (ds ++ es))) M else .stk | none => .stk) | _ => .stk)
  | .aug i o e, env, M => (match env[i]? with | some (.val y) => .of (evE c e env M) fun x M => (match y, x with | .int i0, .int j0 => if AugOk o = true then .of (binD o (.int i0) (.int j0) M) fun z M => .next (env.set i (.val z)) M else .stk | .tup a0, .tup b0 => if AugT o = true then .of (binD .add (.tup a0) (.tup b0) M) fun z M => .next (env.set i (.val z)) M else .stk | _, _ => .stk) | _ => .stk)
  | .setd a k e, env, M => .of (evE c e env M) fun x M => .of (evE c a env M) fun o M => .of (evE c k env M) fun k M => (match o with
      | .obj n => (match stor M n k x with | some M' => .next env M' | none => .stk)
      | _ => .stk)
  | .appo a e, env, M => .of (evE c a env M) fun o M => (match o with
      | .obj n => if isLst M n = true then .of (evE c e env M) fun x M => (match apnd M n x with | some M' => .next env M' | none => .stk) else .stk
      | _ => .stk)
  | .expr e, env, M => .of (evE c e env M) fun _ M => .next env M
  | .ret e, env, M => .of (evE c e env M) fun x M => .ret x M
  | .retn, _, M => .ret .non M
  | .ifs t a b, env, M => .of (evT c t env M) fun t M => if t = true then evSs c a env M else evSs c b env M
  | .forr g it b, env, M => .of (evI c it env M) fun ds M => forL (fun d env M => match bindG g d env with | some env' => evSs c b env' M | none => .stk) ds env M
  | .whil t b, env, M => whileD (fun env M => evT c t env M) (fun env M => evSs c b env M) env M
  | .pas, env, M => .next env M
  | .brk, env, M => .brk env M
  | .cnt, env, M => .cnt env M
  | .frz i s, env, M => (match env[i]? with | some (.own ds) => evS c s (env.set i (.val (.lst ds))) M | _ => .stk)
noncomputable def evSs (c : Cal) : List S → Env → Sto → SRes
  | [], env, M => .next env M
  | s :: r, env, M => (evS c s env M).andThen fun env M => evSs c r env M
end

structure Fn where
  np : Nat
  nn : Nat
  body : List S
def fin (r : SRes) : Res D := match r with
  | .next _ M => .ok .non M
  | .ret d M => .ok d M
  | .exc x M => .exc x M
  | _ => .stk
def env0 (f : Fn) (args : List D) : Env := args.map .val ++ List.replicate (f.nn - args.length) .non
noncomputable def callF (fns : List Fn) (gl : Nat → D) (arr : Nat → Nat → List D → List D → Option (List D)) : Nat → Nat → List D → Sto → Res D
  | 0, _, _, _ => .stk
  | n + 1, f, args, M => match fns[f]? with
    | some fd => if args.length = fd.np then gcR M (fin (evSs ⟨callF fns gl arr n, gl, arr⟩ fd.body (env0 fd args) M)) else .stk
    | none => .stk
end Mp
end

section
set_option Elab.async false
set_option linter.all false
set_option maxRecDepth 100000
/-! What stands for plain data in the abstract heap; the relation of a frame's slots and the store. -/
namespace Mp
open PySem PySem.Spec L2

/-- what is fixed through a law -/
structure Cfg where
  P : Program
  w : World
  K : PySem.W.Frag
  mg : Str → Option Value
  base : Heap
  fA : Nat → Addr
  cA : Nat → Addr

/-- a tuple: tracked, or of the module -/
def TupR (K : PySem.W.Frag) (H : Hp) (a : Addr) (xs : List V) : Prop :=
  H a = some (.tup xs) ∨ ∃ (o : Obj) (its : Array Value) (n : Nat), K.lookup a = some o ∧ o.cls = .type "tuple" ∧ o.data = .seq its n ∧ its.size ≤ sizeLine ∧ Vals xs its.toList
theorem TupR.sq {K : PySem.W.Frag} {H : Hp} {a : Addr} {xs : List V} (h : TupR K H a xs) : SqT K H a xs := by
  rcases h with h | h
  · exact .inl (.inl h)
  · exact .inr h
theorem TupR.sub {K : PySem.W.Frag} {G G' : Hp} {a : Addr} {xs : List V} (s : Same G G') (h : TupR K G a xs) : TupR K G' a xs := by
  rcases h with h | h
  · exact .inl (s _ _ h)
  · exact .inr h
/-- a tuple that holds an int and a text -/
def mixV (us : List Value) : Bool := (us.any fun u => match u with | .int _ _ => true | _ => false) && us.any fun u => match u with | .str _ _ => true | _ => false
/-- no such one is the module's -/
def NoMix (K : PySem.W.Frag) : Prop := ∀ (a : Addr) (o : Obj) (its : Array Value) (n : Nat), K.lookup a = some o → o.data = .seq its n → mixV its.toList = false
mutual
inductive Rep (Γ : Cfg) (G : Hp) (ρ : List Addr) : V → D → Prop
  | non : Rep Γ G ρ .non .non
  | bl (b : Bool) : Rep Γ G ρ (.bl b) (.bl b)
  | int (i : Int) : Rep Γ G ρ (.int i) (.int i)
  | str (x : Str) : Rep Γ G ρ (.str x) (.str x)
  | tup {a : Addr} {xs : List V} {ds : List D} : TupR Γ.K G a xs → Reps Γ G ρ xs ds → Rep Γ G ρ (.ref a) (.tup ds)
  | lst {a : Addr} {xs : List V} {ds : List D} : SqL Γ.K G a xs → Reps Γ G ρ xs ds → Rep Γ G ρ (.ref a) (.lst ds)
  | obj {i : Nat} {a : Addr} : ρ[i]? = some a → Rep Γ G ρ (.ref a) (.obj i)
  | fn (i : Nat) : Rep Γ G ρ (.ref (Γ.fA i)) (.fn i)
inductive Reps (Γ : Cfg) (G : Hp) (ρ : List Addr) : List V → List D → Prop
  | nil : Reps Γ G ρ [] []
  | cons {v : V} {vs : List V} {d : D} {ds : List D} : Rep Γ G ρ v d → Reps Γ G ρ vs ds → Reps Γ G ρ (v :: vs) (d :: ds)
end

/-- the second heap has all that the first has -/
abbrev Sub (G G' : Hp) : Prop := Same G G'
def Pre (ρ ρ' : List Addr) : Prop := ∀ (i : Nat) (a : Addr), ρ[i]? = some a → ρ'[i]? = some a
theorem Pre.refl (ρ : List Addr) : Pre ρ ρ := fun _ _ h => h
theorem Pre.trans {a b c : List Addr} (h : Pre a b) (k : Pre b c) : Pre a c := fun i x e => k i x (h i x e)

theorem Rd.sub {G G' : Hp} {a : Addr} {u : HO} (s : Sub G G') (h : Rd G a u) : Rd G' a u := by
  rcases h with h | ⟨o, h⟩
  · exact .inl (s _ _ h)
  · exact .inr ⟨o, s _ _ h⟩
theorem SqT.sub {K : PySem.W.Frag} {G G' : Hp} {a : Addr} {xs : List V} (s : Sub G G') (h : SqT K G a xs) : SqT K G' a xs := by
  rcases h with h | h
  · exact .inl (Rd.sub s h)
  · exact .inr h
mutual
theorem Rep.mono {Γ : Cfg} {G G' : Hp} {ρ ρ' : List Addr} (s : Sub G G') (p : Pre ρ ρ') : ∀ {v : V} {d : D}, Rep Γ G ρ v d → Rep Γ G' ρ' v d
  | _, _, .non => .non
  | _, _, .bl b => .bl b
  | _, _, .int i => .int i
  | _, _, .str x => .str x
  | _, _, .tup h t => .tup (h.sub s) (Reps.mono s p t)
  | _, _, .lst h t => .lst (s.seq h) (Reps.mono s p t)
  | _, _, .obj h => .obj (p _ _ h)
  | _, _, .fn i => .fn i
theorem Reps.mono {Γ : Cfg} {G G' : Hp} {ρ ρ' : List Addr} (s : Sub G G') (p : Pre ρ ρ') : ∀ {v : List V} {d : List D}, Reps Γ G ρ v d → Reps Γ G' ρ' v d
  | _, _, .nil => .nil
  | _, _, .cons h t => .cons (Rep.mono s p h) (Reps.mono s p t)
end
theorem Reps.len {Γ : Cfg} {G : Hp} {ρ : List Addr} : ∀ {v : List V} {d : List D}, Reps Γ G ρ v d → v.length = d.length
  | _, _, .nil => rfl
  | _, _, .cons _ t => congrArg Nat.succ (Reps.len t)
theorem Reps.get {Γ : Cfg} {G : Hp} {ρ : List Addr} : ∀ {v : List V} {d : List D} {i : Nat} {y : D}, Reps Γ G ρ v d → d[i]? = some y → ∃ x, v[i]? = some x ∧ Rep Γ G ρ x y
  | _, _, 0, _, .cons h _, e => by simp at e; subst e; exact ⟨_, rfl, h⟩
  | _, _, i + 1, y, .cons _ t, e => by
    obtain ⟨x, e1, e2⟩ := Reps.get (i := i) (y := y) t (by simpa using e)
    exact ⟨x, by simpa using e1, e2⟩
  | _, _, _, _, .nil, e => by simp at e
theorem Reps.append {Γ : Cfg} {G : Hp} {ρ : List Addr} : ∀ {v w : List V} {d e : List D}, Reps Γ G ρ v d → Reps Γ G ρ w e → Reps Γ G ρ (v ++ w) (d ++ e)
  | _, _, _, _, .nil, s => s
  | _, _, _, _, .cons h t, s => .cons h (Reps.append t s)
theorem Reps.drop {Γ : Cfg} {G : Hp} {ρ : List Addr} : ∀ {v : List V} {d : List D} (n : Nat), Reps Γ G ρ v d → Reps Γ G ρ (v.drop n) (d.drop n)
  | _, _, 0, h => h
  | _, _, _ + 1, .nil => .nil
  | _, _, n + 1, .cons _ t => Reps.drop n t
theorem Reps.take {Γ : Cfg} {G : Hp} {ρ : List Addr} : ∀ {v : List V} {d : List D} (n : Nat), Reps Γ G ρ v d → Reps Γ G ρ (v.take n) (d.take n)
  | _, _, 0, _ => .nil
  | _, _, _ + 1, .nil => .nil
  | _, _, n + 1, .cons h t => .cons h (Reps.take n t)

/-- off the store -/
def Off (ρ : List Addr) (G : Hp) : Prop := ∀ a ∈ ρ, G a = none

/-- an object of the store as it stands -/
def ObRel (Γ : Cfg) (G : Hp) (ρ : List Addr) (H : Hp) (a : Addr) : Ob → Prop
  | .dk kvs => ∃ us : List (Key × V), H a = some (.dK us) ∧ us.map (·.1) = kvs.map (·.1) ∧ Reps Γ G ρ (us.map (·.2)) (kvs.map (·.2))
  | .dt kvs => ∃ us : List (List Key × V), H a = some (.dT us) ∧ us.map (·.1) = kvs.map (·.1) ∧ Reps Γ G ρ (us.map (·.2)) (kvs.map (·.2))
  | .ls ds => ∃ us : List V, H a = some (.lst us) ∧ Reps Γ G ρ us ds
  | .lk (.dk kvs) => ∃ (od : Obj) (us : List (Key × V)), H a = some (.frz od (.dK us)) ∧ us.map (·.1) = kvs.map (·.1) ∧ Reps Γ G ρ (us.map (·.2)) (kvs.map (·.2))
  | .lk (.dt kvs) => ∃ (od : Obj) (us : List (List Key × V)), H a = some (.frz od (.dT us)) ∧ us.map (·.1) = kvs.map (·.1) ∧ Reps Γ G ρ (us.map (·.2)) (kvs.map (·.2))
  | .lk (.ls ds) => ∃ (od : Obj) (us : List V), H a = some (.frz od (.lst us)) ∧ Reps Γ G ρ us ds
  | .lk (.lk _) => False
def isFrz : HO → Prop
  | .frz _ _ => True
  | _ => False
/-- no tuple -/
def NoTup (o : HO) : Prop := ∀ xs, o ≠ .tup xs
theorem ObRel.there {Γ : Cfg} {G : Hp} {ρ : List Addr} {H : Hp} {a : Addr} {o : Ob} (r : ObRel Γ G ρ H a o) : ∃ u, H a = some u ∧ NoTup u := by
  unfold ObRel at r
  split at r
  · obtain ⟨us, e, _⟩ := r; exact ⟨_, e, fun _ z => by cases z⟩
  · obtain ⟨us, e, _⟩ := r; exact ⟨_, e, fun _ z => by cases z⟩
  · obtain ⟨us, e, _⟩ := r; exact ⟨_, e, fun _ z => by cases z⟩
  · obtain ⟨od, us, e, _⟩ := r; exact ⟨_, e, fun _ z => by cases z⟩
  · obtain ⟨od, us, e, _⟩ := r; exact ⟨_, e, fun _ z => by cases z⟩
  · obtain ⟨od, us, e, _⟩ := r; exact ⟨_, e, fun _ z => by cases z⟩
  · exact r.elim

/-- the heap without slots. G: what stands for good; ρ: the store's places -/
structure Core (Γ : Cfg) (G : Hp) (ρ : List Addr) (M : Sto) (H : Hp) : Prop where
  gh : Sub G H
  off : Off ρ G
  nd : ρ.Nodup
  len : ρ.length = M.length
  st : ∀ (i : Nat) (o : Ob) (a : Addr), M[i]? = some o → ρ[i]? = some a → ObRel Γ G ρ H a o

/-- a step: nothing that was tracked changes but the store -/
structure Adv (G : Hp) (ρ : List Addr) (H : Hp) (G' : Hp) (ρ' : List Addr) (H' : Hp) : Prop where
  gg : Sub G G'
  pp : Pre ρ ρ'
  new : ∀ a ∈ ρ', a ∉ ρ → H a = none
  kp : ∀ b o, (b ∉ ρ ∨ isFrz o) → H b = some o → H' b = some o
  gnew : ∀ b, G b = none → (∃ o, H b = some o ∧ NoTup o) → G' b = none
theorem Adv.keep {G : Hp} {ρ : List Addr} {H G' : Hp} {ρ' : List Addr} {H' : Hp} (s : Adv G ρ H G' ρ' H') : ∀ b o, b ∉ ρ → H b = some o → H' b = some o := fun b o h e => s.kp b o (.inl h) e

theorem Pre.mem {ρ ρ' : List Addr} (p : Pre ρ ρ') {a : Addr} (h : a ∈ ρ) : a ∈ ρ' := by
  obtain ⟨i, e⟩ := List.getElem?_of_mem h
  exact List.mem_of_getElem? (p i a e)
section
variable {Γ : Cfg} {G G1 G2 G' : Hp} {ρ ρ1 ρ2 ρ' : List Addr} {H H1 H2 H' : Hp} {M M' : Sto}
theorem Adv.refl (G : Hp) (ρ : List Addr) (H : Hp) : Adv G ρ H G ρ H := ⟨Same.refl _, Pre.refl _, fun a h n => absurd h n, fun _ _ _ h => h, fun _ h _ => h⟩
theorem Core.thereN (b : Core Γ G ρ M H) {a : Addr} (h : a ∈ ρ) : ∃ o, H a = some o ∧ NoTup o := by
  obtain ⟨i, e⟩ := List.getElem?_of_mem h
  have hi : i < M.length := by rw [← b.len]; exact (List.getElem?_eq_some_iff.mp e).1
  exact (b.st i M[i] a (List.getElem?_eq_getElem hi) e).there
theorem Core.there (b : Core Γ G ρ M H) {a : Addr} (h : a ∈ ρ) : ∃ o, H a = some o := let ⟨o, e, _⟩ := b.thereN h; ⟨o, e⟩
theorem Adv.trans (a : Adv G ρ H G1 ρ1 H1) (c : Core Γ G1 ρ1 M H1) (b : Adv G1 ρ1 H1 G2 ρ2 H2) : Adv G ρ H G2 ρ2 H2 where
  gg := a.gg.trans b.gg
  pp := a.pp.trans b.pp
  new := fun x h n => by
    by_cases h1 : x ∈ ρ1
    · exact a.new x h1 n
    · cases e : H x with
      | none => rfl
      | some o =>
        have := a.keep x o n e
        rw [b.new x h h1] at this
        cases this
  kp := fun x o n e => by
    have e1 := a.kp x o n e
    rcases n with n | n
    · by_cases h1 : x ∈ ρ1
      · rw [a.new x h1 n] at e; cases e
      · exact b.keep x o h1 e1
    · exact b.kp x o (.inr n) e1
  gnew := fun x h n => by
    refine b.gnew x (a.gnew x h n) ?_
    by_cases h1 : x ∈ ρ
    · exact c.thereN (a.pp.mem h1)
    · obtain ⟨o, q, no⟩ := n
      exact ⟨o, a.keep x o h1 q, no⟩
end

def SlotRel (Γ : Cfg) (H0 G : Hp) (ρ : List Addr) (H : Hp) (x : Option (Option V)) : Slot → Prop
  | .non => True
  | .val d => ∃ v, x = some (some v) ∧ Rep Γ G ρ v d
  | .own ds => ∃ (a : Addr) (vs : List V), x = some (some (.ref a)) ∧ G a = none ∧ a ∉ ρ ∧ H0 a = none ∧ H a = some (.lst vs) ∧ Reps Γ G ρ vs ds

/-- the frame's slots too; H0: the heap at the def's entry -/
structure Rel (Γ : Cfg) (H0 G : Hp) (ρ : List Addr) (M : Sto) (σ : L2.St) (env : Env) (H : Hp) : Prop extends Core Γ G ρ M H where
  slen : σ.length = env.length
  sl : ∀ (i : Nat) (s : Slot), env[i]? = some s → SlotRel Γ H0 G ρ H σ[i]? s
  dis : ∀ (i j : Nat) (a : Addr) (ds es : List D), env[i]? = some (.own ds) → env[j]? = some (.own es) → σ[i]? = some (some (.ref a)) → σ[j]? = some (some (.ref a)) → i = j
theorem SlotRel.adv {Γ : Cfg} {H0 G G' : Hp} {ρ ρ' : List Addr} {H H' : Hp} {x : Option (Option V)} {s : Slot} (a : Adv G ρ H G' ρ' H') (h : SlotRel Γ H0 G ρ H x s) : SlotRel Γ H0 G' ρ' H' x s := by
  cases s with
  | non => trivial
  | val d =>
    obtain ⟨v, e, r⟩ := h
    exact ⟨v, e, Rep.mono a.gg a.pp r⟩
  | own ds =>
    obtain ⟨b, vs, e, g, n, f, l, r⟩ := h
    refine ⟨b, vs, e, a.gnew b g ⟨_, l, fun _ z => by cases z⟩, fun m => ?_, f, a.keep b _ n l, Reps.mono a.gg a.pp r⟩
    rw [a.new b m n] at l; cases l
theorem Rel.adv {Γ : Cfg} {H0 G G' : Hp} {ρ ρ' : List Addr} {M M' : Sto} {σ : L2.St} {env : Env} {H H' : Hp} (r : Rel Γ H0 G ρ M σ env H) (a : Adv G ρ H G' ρ' H') (c : Core Γ G' ρ' M' H') : Rel Γ H0 G' ρ' M' σ env H' :=
  ⟨c, r.slen, fun i s e => (r.sl i s e).adv a, r.dis⟩

/-- what a peeked value stands for: as it is read for good, or a list of the frame's own -/
def PRep (Γ : Cfg) (G : Hp) (ρ : List Addr) (H : Hp) (v : V) (d : D) : Prop :=
  Rep Γ G ρ v d ∨ ∃ (a : Addr) (vs : List V) (ds : List D), v = .ref a ∧ d = .lst ds ∧ H a = some (.lst vs) ∧ a ∉ ρ ∧ Reps Γ G ρ vs ds
section
variable {Γ : Cfg} {G G' : Hp} {ρ ρ' : List Addr} {H H' : Hp} {v : V} {d : D} {ds : List D}
theorem PRep.step (st : Adv G ρ H G' ρ' H') (h : PRep Γ G ρ H v d) : PRep Γ G' ρ' H' v d := by
  rcases h with h | ⟨a, vs, ds, rfl, rfl, e, n, r⟩
  · exact .inl (Rep.mono st.gg st.pp h)
  · refine .inr ⟨a, vs, ds, rfl, rfl, st.keep a _ n e, fun h => ?_, Reps.mono st.gg st.pp r⟩
    rw [st.new a h n] at e; cases e
theorem PRep.lst (s : Sub G H) (h : PRep Γ G ρ H v (.lst ds)) : ∃ a vs, v = .ref a ∧ SqL Γ.K H a vs ∧ Reps Γ G ρ vs ds := by
  rcases h with h | ⟨a, vs, ds', rfl, e, e1, n, r⟩
  · cases h with
    | lst h r => exact ⟨_, _, rfl, s.seq h, r⟩
  · cases e
    exact ⟨a, vs, rfl, .of e1, r⟩
theorem PRep.tup (s : Sub G H) (h : PRep Γ G ρ H v (.tup ds)) : ∃ a vs, v = .ref a ∧ SqT Γ.K H a vs ∧ Reps Γ G ρ vs ds := by
  rcases h with h | ⟨a, vs, ds', rfl, e, e1, n, r⟩
  · cases h with
    | tup h r => exact ⟨_, _, rfl, SqT.sub s h.sq, r⟩
  · cases e
theorem PRep.rep (h : PRep Γ G ρ H v d) (n : ∀ ds, d ≠ .lst ds) : Rep Γ G ρ v d := by
  rcases h with h | ⟨a, vs, ds', rfl, e, _⟩
  · exact h
  · exact absurd e (n _)
end

mutual
theorem Rep.dp {Γ : Cfg} {G H : Hp} {ρ : List Addr} (s : Sub G H) : ∀ {v : V} {d : D}, Rep Γ G ρ v d → pure? d = true → Dp Γ.K H v (py d)
  | _, _, .non, _ => .non
  | _, _, .bl b, _ => .bl b
  | _, _, .int i, _ => .int i
  | _, _, .str x, _ => .str x
  | _, _, .tup h t, p => by rw [py]; exact .tup (SqT.sub s h.sq) (Reps.dp s t (by rw [pure?] at p; exact p))
  | _, _, .lst h t, p => by rw [py]; exact .lst (s.seq h) (Reps.dp s t (by rw [pure?] at p; exact p))
  | _, _, .obj h, p => by rw [pure?] at p; cases p
  | _, _, .fn i, p => by rw [pure?] at p; cases p
theorem Reps.dp {Γ : Cfg} {G H : Hp} {ρ : List Addr} (s : Sub G H) : ∀ {v : List V} {d : List D}, Reps Γ G ρ v d → pures d = true → DpAll Γ.K H v (pys d)
  | _, _, .nil, _ => by rw [pys]; exact .nil
  | _, _, .cons h t, p => by
    rw [pures, Bool.and_eq_true] at p
    rw [pys]
    exact .cons (Rep.dp s h p.1) (Reps.dp s t p.2)
end
theorem PRep.dp {Γ : Cfg} {G H : Hp} {ρ : List Addr} {v : V} {d : D} (s : Sub G H) (h : PRep Γ G ρ H v d) (p : pure? d = true) : Dp Γ.K H v (py d) := by
  rcases h with h | ⟨a, vs, ds', rfl, rfl, e1, n, r⟩
  · exact Rep.dp s h p
  · rw [py]
    rw [pure?] at p
    exact .lst (.of e1) (Reps.dp s r p)
mutual
theorem depth_py : ∀ d : D, (py d).depth = dep d
  | .non => by simp [py, dep, PyData.depth]
  | .bl _ => by simp [py, dep, PyData.depth]
  | .int _ => by simp [py, dep, PyData.depth]
  | .str _ => by simp [py, dep, PyData.depth]
  | .tup ds => by simp [py, dep, PyData.depth, depth_pys ds]
  | .lst ds => by simp [py, dep, PyData.depth, depth_pys ds]
  | .obj _ => by simp [py, dep, PyData.depth]
  | .fn _ => by simp [py, dep, PyData.depth]
theorem depth_pys : ∀ d : List D, PyData.depthAll (pys d) = deps d
  | [] => by simp [pys, deps, PyData.depthAll]
  | d :: ds => by simp [pys, deps, PyData.depthAll, depth_py d, depth_pys ds]
end
end Mp
end

section
set_option Elab.async false
set_option linter.all false
set_option maxRecDepth 100000
/-! An evaluator's result as a reading. -/
namespace Mp
open PySem PySem.Spec L2

abbrev XW := Ex → Hp → List Addr → Hp → Prop
abbrev RR (β α : Type) := Hp → List Addr → Hp → β → α → Prop

def Post {α β : Type} (XE : XW) (R : RR β α) (Γ : Cfg) (G : Hp) (ρ : List Addr) (H : Hp) (r : Res α) (Q : β → Hp → Prop) : Prop := match r with
  | .ok a M' => ∀ G' ρ' H' b, Adv G ρ H G' ρ' H' → Core Γ G' ρ' M' H' → R G' ρ' H' b a → Q b H'
  | .exc x M' => ∀ G' ρ' H', Adv G ρ H G' ρ' H' → Core Γ G' ρ' M' H' → XE x G' ρ' H'
  | .stk => False

def tG {α β : Type} (XE : XW) (R : RR β α) (Γ : Cfg) (ev : Env → Sto → Res α) : L2.St → Hp → (β → Hp → Prop) → Prop := fun σ H Q =>
  ∃ H0 G ρ M env, Rel Γ H0 G ρ M σ env H ∧ Post XE R Γ G ρ H (ev env M) Q

abbrev RepS (Γ : Cfg) : RR V D := fun G ρ _ v d => Rep Γ G ρ v d
abbrev RepP (Γ : Cfg) : RR V D := fun G ρ H v d => PRep Γ G ρ H v d
abbrev RepLS (Γ : Cfg) : RR (List V) (List D) := fun G ρ _ v d => Reps Γ G ρ v d
inductive PReps (Γ : Cfg) (G : Hp) (ρ : List Addr) (H : Hp) : List V → List D → Prop
  | nil : PReps Γ G ρ H [] []
  | cons {v vs d ds} : PRep Γ G ρ H v d → PReps Γ G ρ H vs ds → PReps Γ G ρ H (v :: vs) (d :: ds)
abbrev RepLP (Γ : Cfg) : RR (List V) (List D) := fun G ρ H v d => PReps Γ G ρ H v d
abbrev RepEq (α : Type) : RR α α := fun _ _ _ b a => b = a

section
variable {Γ : Cfg} {H0 G G1 G2 G' : Hp} {ρ ρ1 ρ2 ρ' : List Addr} {σ : L2.St} {env : Env} {H H1 H2 H' : Hp} {M M1 M2 M' : Sto} {XE : XW} {α β γ δ ε ζ : Type} {R : RR β α} {R1 : RR δ γ} {R2 : RR ζ ε}

/-- what is told stays so through a step -/
def Pers {α β : Type} (R : RR β α) : Prop := ∀ {G ρ H G' ρ' H' b a}, Adv G ρ H G' ρ' H' → R G ρ H b a → R G' ρ' H' b a
theorem persS : Pers (RepS Γ) := fun st h => Rep.mono st.gg st.pp h
theorem persP : Pers (RepP Γ) := fun st h => PRep.step st h
theorem persLS : Pers (RepLS Γ) := fun st h => Reps.mono st.gg st.pp h
theorem persLP : Pers (RepLP Γ) := by
  intro G ρ H G' ρ' H' b a st h
  induction h with
  | nil => exact .nil
  | cons h _ ih => exact .cons (PRep.step st h) ih
theorem persEq : Pers (RepEq α) := fun _ h => h

theorem Post.step {r : Res α} {Q : β → Hp → Prop} (st : Adv G ρ H G1 ρ1 H1) (c : Core Γ G1 ρ1 M1 H1) (p : Post XE R Γ G ρ H r Q) : Post XE R Γ G1 ρ1 H1 r Q := by
  cases r with
  | ok a M' => exact fun G' ρ' H' b s2 c2 h => p G' ρ' H' b (st.trans c s2) c2 h
  | exc x M' => exact fun G' ρ' H' s2 c2 => p G' ρ' H' (st.trans c s2) c2
  | stk => exact p
theorem Post.bind {r : Res γ} {k : γ → Sto → Res α} {Q : β → Hp → Prop} (p : Post XE R Γ G ρ H (r.bind k) Q) :
    Post XE R1 Γ G ρ H r (fun b H1 => ∃ G1 ρ1 M1 a, Adv G ρ H G1 ρ1 H1 ∧ Core Γ G1 ρ1 M1 H1 ∧ R1 G1 ρ1 H1 b a ∧ Post XE R Γ G1 ρ1 H1 (k a M1) Q) := by
  cases r with
  | ok a M' => exact fun G' ρ' H' b st c h => ⟨G', ρ', M', a, st, c, h, Post.step st c p⟩
  | exc x M' => exact p
  | stk => exact p
theorem Post.mono {r : Res α} {Q Q' : β → Hp → Prop} (p : Post XE R Γ G ρ H r Q) (h : ∀ b H1, Q b H1 → Q' b H1) : Post XE R Γ G ρ H r Q' := by
  cases r with
  | ok a M' => exact fun G' ρ' H' b st c hr => h _ _ (p G' ρ' H' b st c hr)
  | exc x M' => exact p
  | stk => exact p
theorem Post.now {a : α} {Q : β → Hp → Prop} {b : β} (c : Core Γ G ρ M H) (p : Post XE R Γ G ρ H (.ok a M) Q) (h : R G ρ H b a) : Q b H := p G ρ H b (Adv.refl _ _ _) c h

theorem tG.bind {ev : Env → Sto → Res γ} {k : Env → γ → Sto → Res α} {Q : β → Hp → Prop} (h : tG XE R Γ (fun env M => (ev env M).bind (k env)) σ H Q) :
    tG XE R1 Γ ev σ H (fun b H1 => ∃ H0 G1 ρ1 M1 env a, Rel Γ H0 G1 ρ1 M1 σ env H1 ∧ R1 G1 ρ1 H1 b a ∧ Post XE R Γ G1 ρ1 H1 (k env a M1) Q) := by
  obtain ⟨H0, G, ρ, M, env, rel, p⟩ := h
  refine ⟨H0, G, ρ, M, env, rel, Post.mono (Post.bind (R1 := R1) p) ?_⟩
  rintro b H1 ⟨G1, ρ1, M1, a, st, c, h1, p1⟩
  exact ⟨H0, G1, ρ1, M1, env, a, rel.adv st c, h1, p1⟩
theorem tG.bind2 {ea : Env → Sto → Res γ} {eb : Env → Sto → Res ε} {k : Env → γ → ε → Sto → Res α} {Q : β → Hp → Prop} (p1 : Pers R1)
    (h : tG XE R Γ (fun env M => (ea env M).bind fun x M => (eb env M).bind fun y M => k env x y M) σ H Q) :
    tG XE R1 Γ ea σ H (fun b1 H1 => tG XE R2 Γ eb σ H1 (fun b2 H2 => ∃ H0 G ρ M env x y, Rel Γ H0 G ρ M σ env H2 ∧ R1 G ρ H2 b1 x ∧ R2 G ρ H2 b2 y ∧ Post XE R Γ G ρ H2 (k env x y M) Q)) := by
  obtain ⟨H0, G, ρ, M, env, rel, p⟩ := tG.bind (R1 := R1) h
  refine ⟨H0, G, ρ, M, env, rel, Post.mono p ?_⟩
  rintro b H1 ⟨H0', G1, ρ1, M1, env1, a, rel1, h1, q1⟩
  refine ⟨H0', G1, ρ1, M1, env1, rel1, Post.mono (Post.bind (R1 := R2) q1) ?_⟩
  rintro b2 H2 ⟨G2, ρ2, M2, a2, st2, c2, h2, q2⟩
  exact ⟨H0', G2, ρ2, M2, env1, a, a2, rel1.adv st2 c2, p1 st2 h1, h2, q2⟩
/-- a weaker end -/
theorem tG.mono {ev : Env → Sto → Res α} {Q Q' : β → Hp → Prop} (h : tG XE R Γ ev σ H Q) (hq : ∀ b H1, Q b H1 → Q' b H1) : tG XE R Γ ev σ H Q' := by
  obtain ⟨H0, G, ρ, M, env, rel, p⟩ := h
  exact ⟨H0, G, ρ, M, env, rel, Post.mono p hq⟩

/-! ### a new object that stands for good -/
theorem Core.fresh (b : Core Γ G ρ M H) {p : Addr} (h : H p = none) : p ∉ ρ ∧ G p = none := by
  refine ⟨fun m => ?_, b.gh.free h⟩
  obtain ⟨o, e⟩ := b.there m
  rw [h] at e; cases e
theorem ObRel.mono {a : Addr} {o : Ob} (s : Sub G G') (p : Pre ρ ρ') (e : H' a = H a) (h : ObRel Γ G ρ H a o) : ObRel Γ G' ρ' H' a o := by
  unfold ObRel at h ⊢
  split at h
  · obtain ⟨us, e1, e2, r⟩ := h
    exact ⟨us, e.trans e1, e2, Reps.mono s p r⟩
  · obtain ⟨us, e1, e2, r⟩ := h
    exact ⟨us, e.trans e1, e2, Reps.mono s p r⟩
  · obtain ⟨us, e1, r⟩ := h
    exact ⟨us, e.trans e1, Reps.mono s p r⟩
  · obtain ⟨od, us, e1, e2, r⟩ := h
    exact ⟨od, us, e.trans e1, e2, Reps.mono s p r⟩
  · obtain ⟨od, us, e1, e2, r⟩ := h
    exact ⟨od, us, e.trans e1, e2, Reps.mono s p r⟩
  · obtain ⟨od, us, e1, r⟩ := h
    exact ⟨od, us, e.trans e1, Reps.mono s p r⟩
  · exact h.elim
theorem sub_upd {p : Addr} {o : HO} (h : G p = none) : Sub G (upd G p o) := fun b x e => by
  rw [upd_ne (ne_of_none e h)]
  exact e
theorem Core.alloc {p : Addr} {o : HO} (b : Core Γ G ρ M H) (h : H p = none) : Core Γ (upd G p o) ρ M (upd H p o) := by
  obtain ⟨hρ, hG⟩ := b.fresh h
  have sg : Sub G (upd G p o) := sub_upd hG
  refine ⟨fun q x e => ?_, fun a m => ?_, b.nd, b.len, fun i ob a e1 e2 => ?_⟩
  · by_cases hq : q = p
    · subst hq; rw [upd_same] at e ⊢; exact e
    · rw [upd_ne hq] at e ⊢; exact b.gh q x e
  · have : a ≠ p := fun z => hρ (z ▸ m)
    rw [upd_ne this]; exact b.off a m
  · have : a ≠ p := fun z => hρ (z ▸ List.mem_of_getElem? e2)
    exact ObRel.mono sg (Pre.refl _) (upd_ne this) (b.st i ob a e1 e2)
theorem Adv.alloc {p : Addr} {o : HO} (b : Core Γ G ρ M H) (h : H p = none) : Adv G ρ H (upd G p o) ρ (upd H p o) :=
  ⟨sub_upd (b.fresh h).2, Pre.refl _, fun a m n => absurd m n, fun q x n e => by rw [upd_ne (ne_of_none e h)]; exact e, fun q e n => by
    obtain ⟨o, ho, _⟩ := n
    rw [upd_ne (ne_of_none ho h)]; exact e⟩
/-- a new object that nobody has frozen -/
theorem Core.laid {p : Addr} {o : HO} (b : Core Γ G ρ M H) (h : H p = none) : Core Γ G ρ M (upd H p o) := by
  obtain ⟨hρ, hG⟩ := b.fresh h
  refine ⟨fun q x e => ?_, b.off, b.nd, b.len, fun i ob a e1 e2 => ?_⟩
  · have : q ≠ p := fun z => by rw [z, hG] at e; cases e
    rw [upd_ne this]; exact b.gh q x e
  · have : a ≠ p := fun z => hρ (z ▸ List.mem_of_getElem? e2)
    exact ObRel.mono (Same.refl _) (Pre.refl _) (upd_ne this) (b.st i ob a e1 e2)
theorem Adv.laid {p : Addr} {o : HO} (h : H p = none) : Adv G ρ H G ρ (upd H p o) :=
  ⟨Same.refl _, Pre.refl _, fun a m n => absurd m n, fun q x n e => by rw [upd_ne (ne_of_none e h)]; exact e, fun q e n => e⟩
theorem Post.new {a : α} {Q : β → Hp → Prop} {b : β} {p : Addr} {o : HO} (c : Core Γ G ρ M H) (q : Post XE R Γ G ρ H (.ok a M) Q) (hp : H p = none) (h : R (upd G p o) ρ (upd H p o) b a) : Q b (upd H p o) :=
  q _ _ _ b (Adv.alloc c hp) (c.alloc hp) h
end
end Mp
end

section
set_option Elab.async false
set_option linter.all false
set_option maxRecDepth 100000
/-! Keys, what dicts hold. -/
namespace Mp
open PySem PySem.Spec L2
section
variable {Γ : Cfg} {G H : Hp} {ρ : List Addr} {M : Sto} {κ : Type} [DecidableEq κ]
theorem dget_rep {k : κ} : ∀ {us : List (κ × V)} {kvs : List (κ × D)}, us.map (·.1) = kvs.map (·.1) → Reps Γ G ρ (us.map (·.2)) (kvs.map (·.2)) → (dget kvs k = none ∧ valV us k = none) ∨ ∃ v d, dget kvs k = some d ∧ valV us k = some v ∧ Rep Γ G ρ v d
  | [], [], _, _ => .inl ⟨rfl, rfl⟩
  | [], _ :: _, e, _ => by simp at e
  | _ :: _, [], e, _ => by simp at e
  | (k1, v) :: us, (s, w) :: kvs, e, r => by
    simp only [List.map_cons, List.cons.injEq] at e r
    obtain ⟨e1, e2⟩ := e
    subst e1
    cases r with
    | cons r1 r2 =>
      by_cases hs : k1 = k
      · exact .inr ⟨v, w, by simp [dget, List.find?_cons, hs], valV_pos hs, r1⟩
      · have e3 : dget ((k1, w) :: kvs) k = dget kvs k := by simp [dget, List.find?_cons, hs]
        rw [e3, valV_neg hs]
        exact dget_rep e2 r2
theorem dput_any {k : κ} {us : List (κ × V)} {kvs : List (κ × D)} (e : us.map (·.1) = kvs.map (·.1)) : (us.any fun p => decide (p.1 = k)) = (kvs.any fun p => decide (p.1 = k)) := by
  have h1 : (us.any fun p => decide (p.1 = k)) = (us.map (·.1)).any fun x => decide (x = k) := by rw [List.any_map]; rfl
  have h2 : (kvs.any fun p => decide (p.1 = k)) = (kvs.map (·.1)).any fun x => decide (x = k) := by rw [List.any_map]; rfl
  rw [h1, h2, e]
theorem dput_map {k : κ} {v : V} {d : D} (rv : Rep Γ G ρ v d) : ∀ {us : List (κ × V)} {kvs : List (κ × D)}, us.map (·.1) = kvs.map (·.1) → Reps Γ G ρ (us.map (·.2)) (kvs.map (·.2)) →
    (us.map (fun kv => if kv.1 = k then (kv.1, v) else kv)).map (·.1) = (kvs.map (fun p => if p.1 = k then (p.1, d) else p)).map (·.1) ∧
      Reps Γ G ρ ((us.map (fun kv => if kv.1 = k then (kv.1, v) else kv)).map (·.2)) ((kvs.map (fun p => if p.1 = k then (p.1, d) else p)).map (·.2))
  | [], [], _, _ => ⟨rfl, .nil⟩
  | [], _ :: _, e, _ => by simp at e
  | _ :: _, [], e, _ => by simp at e
  | (k1, v1) :: us, (s, w) :: kvs, e, r => by
    simp only [List.map_cons, List.cons.injEq] at e r
    obtain ⟨e1, e2⟩ := e
    subst e1
    cases r with
    | cons r1 r2 =>
      obtain ⟨h1, h2⟩ := dput_map (k := k) rv e2 r2
      by_cases hs : k1 = k
      · simp only [List.map_cons, if_pos hs]
        exact ⟨by rw [h1], .cons rv h2⟩
      · simp only [List.map_cons, if_neg hs]
        exact ⟨by rw [h1], .cons r1 h2⟩
theorem dput_rep {k : κ} {v : V} {d : D} {us : List (κ × V)} {kvs : List (κ × D)} (rv : Rep Γ G ρ v d) (e : us.map (·.1) = kvs.map (·.1)) (r : Reps Γ G ρ (us.map (·.2)) (kvs.map (·.2))) :
    (putK us k v).map (·.1) = (dput kvs k d).map (·.1) ∧ Reps Γ G ρ ((putK us k v).map (·.2)) ((dput kvs k d).map (·.2)) := by
  unfold putK dput
  rw [dput_any e]
  split
  · exact dput_map rv e r
  · simp only [List.map_append, e]
    exact ⟨rfl, r.append (.cons rv .nil)⟩
end
section
variable {Γ : Cfg} {G H : Hp} {ρ : List Addr} {M : Sto} {v : V} {d : D}
theorem Reps.set {v : V} {d : D} : ∀ {vs : List V} {ds : List D} {n : Nat}, Reps Γ G ρ vs ds → Rep Γ G ρ v d → Reps Γ G ρ (vs.set n v) (ds.set n d)
  | _, _, _, .nil, _ => .nil
  | _, _, 0, .cons _ t, r => .cons r t
  | _, _, n + 1, .cons h t, r => .cons h (Reps.set t r)
theorem key_one {k : L2.Key} (r : Rep Γ G ρ v d) (h : keyD d = some k) : v = kV k := by
  cases r with
  | int i => simp only [keyD, Option.some.injEq] at h; subst h; rfl
  | str i => simp only [keyD, Option.some.injEq] at h; subst h; rfl
  | _ => simp [keyD] at h
theorem keys_all : ∀ {vs : List V} {ds : List D} {ks : List L2.Key}, Reps Γ G ρ vs ds → keysD ds = some ks → vs = ks.map kV
  | _, _, ks, .nil, h => by simp only [keysD, Option.some.injEq] at h; subst h; rfl
  | _, _, ks, .cons r t, h => by
    simp only [keysD, Option.bind_eq_some_iff, Option.map_eq_some_iff] at h
    obtain ⟨k, h1, l, h2, h3⟩ := h
    subst h3
    rw [key_one r h1, keys_all t h2] <;> rfl
theorem mix_vals {ks : List L2.Key} {us : List Value} (r : Vals (ks.map kV) us) (h : mixK ks = true) : mixV us = true := by
  have a1 : ∀ {ks : List L2.Key} {us : List Value}, Vals (ks.map kV) us → (ks.any isL) = true → (us.any fun u => match u with | .int _ _ => true | _ => false) = true := by
    intro ks
    induction ks with
    | nil => intro us r h; simp at h
    | cons k ks ih =>
      intro us r h
      cases r with
      | cons r1 r2 =>
        rw [List.any_cons] at h ⊢
        cases k with
        | inl i =>
          obtain ⟨t, rfl⟩ := r1
          rfl
        | inr x => rw [ih r2 (by simpa [isL] using h), Bool.or_true]
  have a2 : ∀ {ks : List L2.Key} {us : List Value}, Vals (ks.map kV) us → (ks.any fun k => !isL k) = true → (us.any fun u => match u with | .str _ _ => true | _ => false) = true := by
    intro ks
    induction ks with
    | nil => intro us r h; simp at h
    | cons k ks ih =>
      intro us r h
      cases r with
      | cons r1 r2 =>
        rw [List.any_cons] at h ⊢
        cases k with
        | inr i =>
          obtain ⟨t, rfl⟩ := r1
          rfl
        | inl x => rw [ih r2 (by simpa [isL] using h), Bool.or_true]
  unfold mixK at h
  rw [Bool.and_eq_true] at h
  exact Bool.and_eq_true_iff.mpr ⟨a1 r h.1, a2 r h.2⟩
theorem key_tup (nm : NoMix Γ.K) (s : Same G H) {ks : List L2.Key} (r : Rep Γ G ρ v d) (h : tkeyD d = some ks) : ∃ b, v = .ref b ∧ H b = some (.tup (ks.map kV)) := by
  cases r with
  | @tup a xs ds ht hr =>
    simp only [tkeyD, Option.bind_eq_some_iff] at h
    obtain ⟨ks', h1, h2⟩ := h
    split at h2
    · rename_i hm
      cases h2
      have e := keys_all hr h1
      subst e
      rcases ht with ht | ⟨o, its, n, e1, e2, e3, e4, e5⟩
      · exact ⟨a, rfl, s _ _ ht⟩
      · have := nm a o its n e1 e3
        rw [mix_vals e5 hm] at this
        cases this
    · cases h2
  | _ => simp [tkeyD] at h
/-- an object as it stands, locked or not -/
def OpRel (Γ : Cfg) (G : Hp) (ρ : List Addr) (H : Hp) (a : Addr) : Ob → Prop
  | .dk kvs => ∃ us : List (L2.Key × V), Rd H a (.dK us) ∧ us.map (·.1) = kvs.map (·.1) ∧ Reps Γ G ρ (us.map (·.2)) (kvs.map (·.2))
  | .dt kvs => ∃ us : List (List L2.Key × V), Rd H a (.dT us) ∧ us.map (·.1) = kvs.map (·.1) ∧ Reps Γ G ρ (us.map (·.2)) (kvs.map (·.2))
  | .ls ds => ∃ us : List V, Rd H a (.lst us) ∧ Reps Γ G ρ us ds
  | .lk _ => False
theorem ob_at (c : Core Γ G ρ M H) {i : Nat} {a : Addr} {o : Ob} (ea : ρ[i]? = some a) (h : obAt M i = some o) : OpRel Γ G ρ H a o := by
  unfold obAt at h
  rw [Option.map_eq_some_iff] at h
  obtain ⟨o', em, e⟩ := h
  have r := c.st i o' a em ea
  unfold ObRel at r
  split at r
  · cases e; obtain ⟨us, e1, r⟩ := r; exact ⟨us, .inl e1, r⟩
  · cases e; obtain ⟨us, e1, r⟩ := r; exact ⟨us, .inl e1, r⟩
  · cases e; obtain ⟨us, e1, r⟩ := r; exact ⟨us, .inl e1, r⟩
  · cases e; obtain ⟨od, us, e1, r⟩ := r; exact ⟨us, .inr ⟨od, e1⟩, r⟩
  · cases e; obtain ⟨od, us, e1, r⟩ := r; exact ⟨us, .inr ⟨od, e1⟩, r⟩
  · cases e; obtain ⟨od, us, e1, r⟩ := r; exact ⟨us, .inr ⟨od, e1⟩, r⟩
  · exact r.elim
/-- what is looked up -/
theorem look_of (nm : NoMix Γ.K) (c : Core Γ G ρ M H) {i : Nat} {a : Addr} {o : Option D} (ea : ρ[i]? = some a) (r : Rep Γ G ρ v d) (h : look M i d = some o) :
    (o = none ∧ DGet H a v none) ∨ ∃ w x, o = some x ∧ DGet H a v (some w) ∧ Rep Γ G ρ w x := by
  unfold look at h
  split at h
  · rename_i kvs em
    rw [Option.map_eq_some_iff] at h
    obtain ⟨k, h1, h2⟩ := h
    obtain ⟨us, e1, e2, rr⟩ := ob_at c ea em
    have ev := key_one r h1
    subst ev
    rcases dget_rep (k := k) e2 rr with ⟨g1, g2⟩ | ⟨w, x, g1, g2, g3⟩
    · exact .inl ⟨h2.symm.trans g1, by rw [← g2]; exact .inl ⟨us, k, e1, rfl, rfl⟩⟩
    · exact .inr ⟨w, x, h2.symm.trans g1, by rw [← g2]; exact .inl ⟨us, k, e1, rfl, rfl⟩, g3⟩
  · rename_i kvs em
    rw [Option.map_eq_some_iff] at h
    obtain ⟨k, h1, h2⟩ := h
    obtain ⟨us, e1, e2, rr⟩ := ob_at c ea em
    obtain ⟨b, rfl, eb⟩ := key_tup nm c.gh r h1
    rcases dget_rep (k := k) e2 rr with ⟨g1, g2⟩ | ⟨w, x, g1, g2, g3⟩
    · exact .inl ⟨h2.symm.trans g1, by rw [← g2]; exact .inr ⟨us, k, b, e1, rfl, eb, rfl⟩⟩
    · exact .inr ⟨w, x, h2.symm.trans g1, by rw [← g2]; exact .inr ⟨us, k, b, e1, rfl, eb, rfl⟩, g3⟩
  · cases h
/-- what is stored -/
theorem stor_of (nm : NoMix Γ.K) (c : Core Γ G ρ M H) {n : Nat} {q : Addr} {y x : D} {vy vx : V} {M' : Sto} (eq : ρ[n]? = some q) (ry : Rep Γ G ρ vy y) (rx : Rep Γ G ρ vx x) (h : stor M n y x = some M') :
    ∃ (o : Ob) (ho : HO), (DPut H q vy vx (upd H q ho) ∨ ∃ xs k j, vy = .int k ∧ H q = some (.lst xs) ∧ ixN xs.length k = some j ∧ ho = .lst (xs.set j vx)) ∧ M' = M.set n o ∧ n < M.length ∧ (∃ u, H q = some u ∧ ¬ isFrz u) ∧ ∀ H1 : Hp, H1 q = some ho → ObRel Γ G ρ H1 q o := by
  unfold stor at h
  split at h
  · rename_i kvs em
    rw [Option.bind_eq_some_iff] at h
    obtain ⟨k, h1, h2⟩ := h
    split at h2
    · rename_i hl
      cases h2
      obtain ⟨us, e1, e2, rr⟩ := c.st n _ q em eq
      have ev := key_one ry h1
      subst ev
      obtain ⟨p1, p2⟩ := dput_rep (k := k) rx e2 rr
      have hul : us.length = kvs.length := by simpa using congrArg List.length e2
      exact ⟨.dk (dput kvs k x), .dK (putK us k vx), (.inl (DPut.k e1 (by rw [hul, sizeLine_eq]; unfold dline at hl; omega))), rfl, (List.getElem?_eq_some_iff.mp em).1, ⟨_, e1, fun z => z⟩, fun H1 e => ⟨_, e, p1, p2⟩⟩
    · cases h2
  · rename_i kvs em
    rw [Option.bind_eq_some_iff] at h
    obtain ⟨k, h1, h2⟩ := h
    split at h2
    · rename_i hl
      cases h2
      obtain ⟨us, e1, e2, rr⟩ := c.st n _ q em eq
      obtain ⟨b, rfl, eb⟩ := key_tup nm c.gh ry h1
      obtain ⟨p1, p2⟩ := dput_rep (k := k) rx e2 rr
      have hul : us.length = kvs.length := by simpa using congrArg List.length e2
      exact ⟨.dt (dput kvs k x), .dT (putK us k vx), (.inl (DPut.t e1 eb (by rw [hul, sizeLine_eq]; unfold dline at hl; omega))), rfl, (List.getElem?_eq_some_iff.mp em).1, ⟨_, e1, fun z => z⟩, fun H1 e => ⟨_, e, p1, p2⟩⟩
    · cases h2
  · rename_i ds em
    split at h
    · rename_i i
      split at h
      · rename_i hi
        cases h
        cases ry
        obtain ⟨us, e1, rr⟩ := c.st n _ q em eq
        have hl := rr.len
        refine ⟨.ls (ds.set i.toNat x), .lst (us.set i.toNat vx), .inr ⟨us, i, i.toNat, rfl, e1, ?_, rfl⟩, rfl, (List.getElem?_eq_some_iff.mp em).1, ⟨_, e1, fun z => z⟩, fun H1 e => ⟨_, e, Reps.set rr rx⟩⟩
        unfold ixN
        rw [if_pos hi.1, if_pos (by omega)]
      · cases h
    · cases h
  · cases h
/-- behind an append -/
theorem apnd_of (c : Core Γ G ρ M H) {n : Nat} {q : Addr} {x : D} {vx : V} {M' : Sto} (eq : ρ[n]? = some q) (rx : Rep Γ G ρ vx x) (h : apnd M n x = some M') :
    ∃ (ds : List D) (us : List V), H q = some (.lst us) ∧ us.length < sizeLine ∧ M' = M.set n (.ls (ds ++ [x])) ∧ n < M.length ∧ ∀ H1 : Hp, H1 q = some (.lst (us ++ [vx])) → ObRel Γ G ρ H1 q (.ls (ds ++ [x])) := by
  unfold apnd at h
  split at h
  · rename_i ds em
    split at h
    · rename_i hl
      cases h
      obtain ⟨us, e1, rr⟩ := c.st n _ q em eq
      refine ⟨ds, us, e1, ?_, rfl, (List.getElem?_eq_some_iff.mp em).1, fun H1 e => ⟨_, e, rr.append (.cons rx .nil)⟩⟩
      rw [rr.len, sizeLine_eq]; unfold line at hl; omega
    · cases h
  · cases h
/-- a new dict of the store -/
theorem Post.newOb {XE : XW} {Q : VK} {p : Addr} {o : Ob} {ho : HO} (c : Core Γ G ρ M H) (hp : H p = none) (q : Post XE (RepS Γ) Γ G ρ H (.ok (.obj M.length) (M ++ [o])) Q) (ob : ∀ ρ', Pre ρ ρ' → ObRel Γ G ρ' (upd H p ho) p o) : Q (.ref p) (upd H p ho) := by
  obtain ⟨hρ, hG⟩ := c.fresh hp
  have pl : ρ.length = M.length := c.len
  have pp : Pre ρ (ρ ++ [p]) := fun i ad e => by rw [List.getElem?_append_left (List.getElem?_eq_some_iff.mp e).1]; exact e
  refine q G (ρ ++ [p]) _ (.ref p) ⟨Same.refl _, pp, fun ad hm n => ?_, fun qa o n e => ?_, fun _ h _ => h⟩ ⟨fun qa o e => ?_, fun ad hm => ?_, ?_, by simp [pl], fun i o' ad e1 e2 => ?_⟩ (.obj (by rw [← pl]; simp))
  · rcases List.mem_append.mp hm with hm | hm
    · exact absurd hm n
    · have : ad = p := by simpa using hm
      rw [this]; exact hp
  · rw [upd_ne (ne_of_none e hp)]; exact e
  · have : qa ≠ p := fun z => by rw [z, hG] at e; cases e
    rw [upd_ne this]; exact c.gh qa o e
  · rcases List.mem_append.mp hm with hm | hm
    · exact c.off ad hm
    · have : ad = p := by simpa using hm
      rw [this]; exact hG
  · rw [List.nodup_append]
    refine ⟨c.nd, by simp, fun ad hm bd hb => ?_⟩
    have : bd = p := by simpa using hb
    subst this
    exact fun z => hρ (z ▸ hm)
  · by_cases hi : i < ρ.length
    · rw [List.getElem?_append_left hi] at e2
      rw [List.getElem?_append_left (by omega)] at e1
      have : ad ≠ p := fun z => hρ (z ▸ List.mem_of_getElem? e2)
      exact ObRel.mono (Same.refl _) pp (upd_ne this) (c.st i o' ad e1 e2)
    · have hi0 : i = ρ.length := by
        have := (List.getElem?_eq_some_iff.mp e2).1
        simp at this; omega
      subst hi0
      simp [pl] at e1 e2
      subst e1 e2
      exact ob _ pp
/-- what .get gives -/
theorem isD_of {x : D} {w : V} (c : Core Γ G ρ M H) (r : Rep Γ G ρ w x) (h : isDct x M = true) : ∃ i a, x = .obj i ∧ w = .ref a ∧ ρ[i]? = some a ∧ L2.IsD H a := by
  unfold isDct at h
  split at h
  · rename_i i
    cases r with
    | @obj _ a ea =>
      refine ⟨i, a, rfl, rfl, ea, ?_⟩
      split at h
      · rename_i kvs e
        obtain ⟨us, e1, _⟩ := ob_at c ea e
        exact .inl ⟨_, e1⟩
      · rename_i kvs e
        obtain ⟨us, e1, _⟩ := ob_at c ea e
        exact .inr ⟨_, e1⟩
      · cases h
  · cases h
/-- a list of the store, read -/
theorem lsAt (c : Core Γ G ρ M H) {i : Nat} {a : Addr} {ds : List D} (K : PySem.W.Frag) (ea : ρ[i]? = some a) (h : obAt M i = some (.ls ds)) : ∃ us, SqL K H a us ∧ Reps Γ G ρ us ds := by
  obtain ⟨us, e1, r⟩ := ob_at c ea h
  exact ⟨us, .inl e1, r⟩
/-- an object is locked -/
theorem lock_of (c : Core Γ G ρ M H) {i : Nat} {a : Addr} {o : Ob} {M' : Sto} (ea : ρ[i]? = some a) (h : lockM M i = some (o, M')) :
    (M' = M ∧ M[i]? = some (.lk o)) ∨ (M' = M.set i (.lk o) ∧ i < M.length ∧ M[i]? = some o ∧ ∃ u, H a = some u ∧ Mut (some u) ∧ ¬ isFrz u ∧ NoTup u ∧ ∀ (od : Obj) (H1 : Hp), H1 a = some (.frz od u) → ObRel Γ G ρ H1 a (.lk o)) := by
  unfold lockM at h
  split at h
  · rename_i o' em; cases h; exact .inl ⟨rfl, em⟩
  · rename_i o' hn em
    cases h
    have r := c.st i o a em ea
    refine .inr ⟨rfl, (List.getElem?_eq_some_iff.mp em).1, em, ?_⟩
    cases o with
    | dk kvs => obtain ⟨us, e1, e2, r⟩ := r; exact ⟨_, e1, True.intro, fun z => z, (fun _ z => by cases z), fun od H1 e => ⟨od, us, e, e2, r⟩⟩
    | dt kvs => obtain ⟨us, e1, e2, r⟩ := r; exact ⟨_, e1, True.intro, fun z => z, (fun _ z => by cases z), fun od H1 e => ⟨od, us, e, e2, r⟩⟩
    | ls kvs => obtain ⟨us, e1, r⟩ := r; exact ⟨_, e1, True.intro, fun z => z, (fun _ z => by cases z), fun od H1 e => ⟨od, us, e, r⟩⟩
    | lk o => exact absurd rfl (hn o)
  · cases h
/-- the object at n is another one -/
theorem Core.put (c : Core Γ G ρ M H) {n : Nat} {q : Addr} {o : Ob} {u : HO} (eq : ρ[n]? = some q) (h : ∀ H1 : Hp, H1 q = some u → ObRel Γ G ρ H1 q o) : Core Γ G ρ (M.set n o) (upd H q u) := by
  have hq : q ∈ ρ := List.mem_of_getElem? eq
  have hn : n < M.length := by rw [← c.len]; exact (List.getElem?_eq_some_iff.mp eq).1
  refine ⟨fun b o eb => ?_, c.off, c.nd, by simpa using c.len, fun j o ad f1 f2 => ?_⟩
  · have : b ≠ q := fun z => by rw [z, c.off q hq] at eb; cases eb
    rw [upd_ne this]; exact c.gh b o eb
  · by_cases hj : n = j
    · subst hj
      rw [List.getElem?_set_self hn] at f1
      cases f1
      rw [eq] at f2
      cases f2
      exact h _ upd_same
    · rw [List.getElem?_set_ne hj] at f1
      have : ad ≠ q := fun z => by
        subst z
        exact hj ((List.getElem?_inj (List.getElem?_eq_some_iff.mp eq).1 c.nd).mp (eq.trans f2.symm))
      exact ObRel.mono (Same.refl _) (Pre.refl _) (upd_ne this) (c.st j o ad f1 f2)
theorem Adv.put {q : Addr} {u u' : HO} (hq : q ∈ ρ) (e : H q = some u) (nf : ¬ isFrz u) : Adv G ρ H G ρ (upd H q u') :=
  ⟨Same.refl _, Pre.refl _, fun a m n => absurd m n, fun b o n eb => by
    have : b ≠ q := fun z => by
      subst z
      rcases n with n | n
      · exact n hq
      · rw [e] at eb; cases eb; exact nf n
    rw [upd_ne this]; exact eb, fun b h _ => h⟩
end
/-! ### what a def has made goes with it -/
section
variable {Γ : Cfg} {G G' H H' : Hp} {ρ ρ' : List Addr} {M M' : Sto}
mutual
theorem Rep.scp : ∀ {v : V} {d : D}, Rep Γ G ρ v d → scp ρ.length d = true
  | _, _, .non => by rw [Mp.scp] <;> simp
  | _, _, .bl b => by rw [Mp.scp] <;> simp
  | _, _, .int b => by rw [Mp.scp] <;> simp
  | _, _, .str b => by rw [Mp.scp] <;> simp
  | _, _, .fn b => by rw [Mp.scp] <;> simp
  | _, _, .tup _ t => by rw [Mp.scp]; exact Reps.scp t
  | _, _, .lst _ t => by rw [Mp.scp]; exact Reps.scp t
  | _, _, .obj h => by rw [Mp.scp]; exact decide_eq_true (List.getElem?_eq_some_iff.mp h).1
theorem Reps.scp : ∀ {v : List V} {d : List D}, Reps Γ G ρ v d → scps ρ.length d = true
  | _, _, .nil => by rw [scps]
  | _, _, .cons h t => by rw [scps, Rep.scp h, Reps.scp t] <;> rfl
end
mutual
theorem Rep.shrink (p : Pre ρ ρ') : ∀ {v : V} {d : D}, Rep Γ G ρ' v d → Mp.scp ρ.length d = true → Rep Γ G ρ v d
  | _, _, .non, _ => .non
  | _, _, .bl b, _ => .bl b
  | _, _, .int b, _ => .int b
  | _, _, .str b, _ => .str b
  | _, _, .fn b, _ => .fn b
  | _, _, .tup h t, s => .tup h (Reps.shrink p t (by rw [Mp.scp] at s; exact s))
  | _, _, .lst h t, s => .lst h (Reps.shrink p t (by rw [Mp.scp] at s; exact s))
  | _, _, @Rep.obj _ _ _ i a h, s => by
    rw [Mp.scp, decide_eq_true_eq] at s
    have e := List.getElem?_eq_getElem s
    have := p _ _ e
    rw [h] at this
    cases this
    exact .obj e
theorem Reps.shrink (p : Pre ρ ρ') : ∀ {v : List V} {d : List D}, Reps Γ G ρ' v d → scps ρ.length d = true → Reps Γ G ρ v d
  | _, _, .nil, _ => .nil
  | _, _, .cons h t, s => by
    rw [scps, Bool.and_eq_true] at s
    exact .cons (Rep.shrink p h s.1) (Reps.shrink p t s.2)
end
theorem ObRel.scp {a : Addr} {o : Ob} (r : ObRel Γ G ρ H a o) : scpO ρ.length o = true := by
  unfold ObRel at r
  split at r
  · obtain ⟨us, _, _, r⟩ := r; rw [scpO]; exact r.scp
  · obtain ⟨us, _, _, r⟩ := r; rw [scpO]; exact r.scp
  · obtain ⟨us, _, r⟩ := r; rw [scpO]; exact r.scp
  · obtain ⟨_, us, _, _, r⟩ := r; rw [scpO, scpO]; exact r.scp
  · obtain ⟨_, us, _, _, r⟩ := r; rw [scpO, scpO]; exact r.scp
  · obtain ⟨_, us, _, r⟩ := r; rw [scpO, scpO]; exact r.scp
  · exact r.elim
theorem ObRel.shrink {a : Addr} {o : Ob} (p : Pre ρ ρ') (r : ObRel Γ G ρ' H a o) (s : scpO ρ.length o = true) : ObRel Γ G ρ H a o := by
  unfold ObRel at r ⊢
  split at r
  · obtain ⟨us, e1, e2, r⟩ := r; rw [scpO] at s; exact ⟨us, e1, e2, r.shrink p s⟩
  · obtain ⟨us, e1, e2, r⟩ := r; rw [scpO] at s; exact ⟨us, e1, e2, r.shrink p s⟩
  · obtain ⟨us, e1, r⟩ := r; rw [scpO] at s; exact ⟨us, e1, r.shrink p s⟩
  · obtain ⟨od, us, e1, e2, r⟩ := r; rw [scpO, scpO] at s; exact ⟨od, us, e1, e2, r.shrink p s⟩
  · obtain ⟨od, us, e1, e2, r⟩ := r; rw [scpO, scpO] at s; exact ⟨od, us, e1, e2, r.shrink p s⟩
  · obtain ⟨od, us, e1, r⟩ := r; rw [scpO, scpO] at s; exact ⟨od, us, e1, r.shrink p s⟩
  · exact r.elim
theorem gc_core {ds : List D} (c : Core Γ G ρ M H) (a : Adv G ρ H G' ρ' H') (c' : Core Γ G' ρ' M' H') (h : gcOk M ds M') : Adv G ρ H G' ρ H' ∧ Core Γ G' ρ (M'.take M.length) H' := by
  have hl : ρ.length ≤ ρ'.length := by
    by_cases h0 : ρ.length = 0
    · omega
    · have e := List.getElem?_eq_getElem (show ρ.length - 1 < ρ.length by omega)
      have := (List.getElem?_eq_some_iff.mp (a.pp _ _ e)).1
      omega
  have hM : M.length ≤ M'.length := by rw [← c.len, ← c'.len]; exact hl
  refine ⟨⟨a.gg, Pre.refl _, fun _ m n => absurd m n, a.kp, a.gnew⟩, c'.gh, fun x m => c'.off x (a.pp.mem m), c.nd, ?_, fun i o ad e1 e2 => ?_⟩
  · rw [List.length_take, c.len]; omega
  · have hi : i < ρ.length := (List.getElem?_eq_some_iff.mp e2).1
    have e1' : M'[i]? = some o := by rw [List.getElem?_take_of_lt (by rw [← c.len]; exact hi)] at e1; exact e1
    refine (c'.st i o ad e1' (a.pp _ _ e2)).shrink a.pp ?_
    rcases h.2 with h | h
    · rw [h] at e1
      exact (c.st i o ad e1 e2).scp
    · rw [List.all_eq_true] at h
      rw [c.len]
      exact h o (List.mem_of_getElem? e1)
theorem Post.gc {XE : XW} {r : Res D} {Q : VK} (hx : ∀ (x : Ex) G ρ ρ' H, Pre ρ ρ' → scps ρ.length (x.fs.map (·.2)) = true → XE x G ρ H → XE x G ρ' H) (c : Core Γ G ρ M H) (p : Post XE (RepS Γ) Γ G ρ H (gcR M r) Q) : Post XE (RepS Γ) Γ G ρ H r Q := by
  cases r with
  | stk => exact p
  | ok d M' =>
    unfold gcR at p
    simp only at p
    split at p
    · rename_i h
      intro G' ρ' H' b a c' rb
      obtain ⟨a2, c2⟩ := gc_core c a c' h
      have s := h.1
      rw [scps, Bool.and_eq_true, ← c.len] at s
      exact p G' ρ H' b a2 c2 (Rep.shrink a.pp rb s.1)
    · exact p
  | exc x M' =>
    unfold gcR at p
    simp only at p
    split at p
    · rename_i h
      intro G' ρ' H' a c'
      obtain ⟨a2, c2⟩ := gc_core c a c' h
      exact hx x G' ρ ρ' H' a.pp (by rw [c.len]; exact h.1) (p G' ρ H' a2 c2)
    · exact p
end
end Mp
end

section
set_option Elab.async false
set_option linter.all false
set_option maxRecDepth 100000
/-! The operators keep to the evaluator. -/
namespace Mp
open PySem PySem.Spec L2

def opB : Bop → Operator
  | .add => .Add | .sub => .Sub | .mul => .Mult | .fdiv => .FloorDiv | .mod => .Mod | .pow => .Pow
def opC : Cop → CmpOp
  | .eq => .Eq | .ne => .NotEq | .lt => .Lt | .le => .LtE | .gt => .Gt | .ge => .GtE | .is_ => .Is | .isnot => .IsNot | .in_ => .In | .notin => .NotIn

theorem line_le {n : Nat} (h : n ≤ line) : n ≤ sizeLine := by rw [sizeLine_eq]; unfold line at h; omega

section
variable {Γ : Cfg} {X : Cx} {XE : XW}
def BinS (Γ : Cfg) (XE : XW) (o : Bop) : R2 := fun x y H Q => ∃ G ρ M a b, Core Γ G ρ M H ∧ Rep Γ G ρ x a ∧ Rep Γ G ρ y b ∧ Post XE (RepS Γ) Γ G ρ H (binD o a b M) Q

theorem op_catL : OpR X (binaryOp .Add) (fun x y H Q => ∃ l b xs zs, x = .ref l ∧ y = .ref b ∧ SqL X.K H l xs ∧ SqL X.K H b zs ∧ xs.length + zs.length ≤ sizeLine ∧ ∀ p, H p = none → Q (.ref p) (upd H p (.lst (xs ++ zs)))) := by
  intro pins s σ H x y v u Q I rx ry h
  obtain ⟨l, b, xs, zs, rfl, rfl, hH, hB, hz, q⟩ := h
  cases rx
  cases ry
  obtain ⟨its, r, ⟨⟨c1, d1, a1, s1⟩, n, e, ec, ed, ea⟩, z⟩ := I.list hH
  obtain ⟨its2, r2, ⟨⟨c2, d2, a2, s2⟩, n2, e2, ec2, ed2, ea2⟩, z2⟩ := I.list hB
  simp only at ec ed ea ec2 ed2 ea2
  subst ec ea ec2 ea2
  have hl := r.length
  have hl2 := r2.length
  refine concat_meets ⟨_, e, rfl⟩ ⟨_, e2, rfl⟩ noFill_list_add seq_list_add PySem.F.slot_list_add PySem.F.entry_list_add (PySem.F.args_list_add_2 _ _) (PyProof.Rows.list_addW l b its.toArray its2.toArray n n2 d1 d2 s1 s2 (by rw [List.size_toArray, List.size_toArray]; omega)) ⟨e, e2, ?_⟩
  have ea : its.toArray ++ its2.toArray = (its ++ its2).toArray := by simp
  rw [ea]
  exact ⟨.ref _, _, I.lnew (t' := s.toks) (r.append r2) (by rw [List.length_append]; omega), rfl, q _ I.fresh⟩

theorem int_rmul_listW (a : Int) (t : Tok) (l : Addr) (items : Array Value) (n : Nat) (dd : Option Addr) (sl : Array (Option Value)) :
    Meets (Builtin.«int.__rmul__» ⟨[.int a t, .ref l], []⟩) (fun _ R s => s.heap.get? l = some { cls := .type "list", dict := dd, data := .seq items n, slots := sl } ∧ R (.ok (.ret Value.notImplemented)) s) :=
  .of_wp fun prog w A R s h => by obtain ⟨hp, g, d, tk, os⟩ := s; obtain ⟨hl, h⟩ := h; wp_walk using wpAny_loadPart' hl; exact ⟨_, rfl, h⟩
theorem list_mulW (l : Addr) (items : Array Value) (n : Nat) (dd : Option Addr) (sl : Array (Option Value)) (x : Int) (u : Tok) (hc0 : ¬(!Builtin.List.listFitsIndex x) = true) (hc1 : ¬items.size * x.toNat > (2 ^ 63 - 1) / 8) (hc2 : ¬Builtin.List.listTooLong (items.size * x.toNat) = true) :
    Meets (Builtin.«list.__mul__» ⟨[.ref l, .int x u], []⟩) (fun _ R s => s.heap.get? l = some { cls := .type "list", dict := dd, data := .seq items n, slots := sl } ∧ R (.ok (.ret (Value.ref s.heap.objs.size))) { s with heap := s.heap.push { cls := Value.type "list", data := Data.seq (List.foldl (fun x1 x2 => x1 ++ x2) #[] (List.replicate (if items.isEmpty = true then 0 else x.toNat) items)) }, toks := s.toks }) :=
  .of_wp fun prog w A R s h => by
    obtain ⟨hp, g, d, tk, os⟩ := s; obtain ⟨hl, h⟩ := h
    have hsz := PySem.AutoListH.joined_fits hc2
    wp_walk using wpAny_loadPart' hl; refine wpAny_ite_false (decide_eq_false (Nat.not_lt.mpr hsz)) ?_; wp_walk using wpAny_loadPart' hl; exact ⟨_, rfl, h⟩
/-- a list times an int -/
theorem op_repS : OpR X (binaryOp .Mult) (fun x y H Q => ∃ a k, x = .str a ∧ y = .int k ∧ 0 ≤ k ∧ k ≤ 1000 ∧ a.length ≤ 10000 ∧ Q (.str (Txt.mul a k)) H) := by
  intro pins s σ H x y v u Q I rx ry h
  obtain ⟨a, k, rfl, rfl, h0, h1, h2, q⟩ := h
  obtain ⟨t, rfl⟩ := rx
  obtain ⟨t', rfl⟩ := ry
  refine SB.mul ⟨?_, fun hk he => ?_, fun hk he => ?_⟩ fun t' tk => ⟨.str (Txt.mul a k), H, I.tok _, ⟨_, rfl⟩, q⟩
  · have e1 : decide (k < -(2 ^ 63 : Int)) = false := decide_eq_false (by omega)
    have e2 : decide (k ≥ 2 ^ 63) = false := decide_eq_false (by omega)
    rw [e1, e2] <;> rfl
  · have : (10000 : Int) ≤ (2 ^ 63 - 1) / k := by
      rw [Int.le_ediv_iff_mul_le (by omega)]
      have : 10000 * k ≤ 10000 * 1000 := by omega
      omega
    omega
  · have h3 : k.toNat ≤ 1000 := by omega
    have h4 : a.length * k.toNat ≤ 10000 * 1000 := Nat.mul_le_mul h2 h3
    have := sizeLine_eq
    show decide (a.length * k.toNat > sizeLine) = false
    exact decide_eq_false (by omega)
theorem op_repL : OpR X (binaryOp .Mult) (fun x y H Q => ∃ l k xs, x = .ref l ∧ y = .int k ∧ SqL X.K H l xs ∧ 0 ≤ k ∧ k ≤ 1000 ∧ xs.length * k.toNat ≤ sizeLine ∧ ∀ p, H p = none → Q (.ref p) (upd H p (.lst (List.replicate k.toNat xs).flatten))) := by
  intro pins s σ H x y v u Q I rx ry h
  obtain ⟨l, k, xs, rfl, rfl, hH, h1, h2, hz, q⟩ := h
  cases rx
  obtain ⟨t, rfl⟩ := ry
  obtain ⟨its, r, ⟨⟨c1, d1, a1, s1⟩, n, e, ec, ed, ea⟩, z⟩ := I.list hH
  simp only at ec ed ea
  subst ec ea
  have hl := r.length
  have hlen : its.toArray.size * k.toNat ≤ sizeLine := by rw [List.size_toArray, ← hl]; exact hz
  have hcap : ¬ its.toArray.size * k.toNat > (2 ^ 63 - 1) / 8 := by
    have : (sizeLine : Nat) ≤ (2 ^ 63 - 1) / 8 := by decide
    omega
  have hfit : ¬ (!Builtin.List.listFitsIndex k) = true := by
    rw [fitsIndex_both (by omega) (by omega)]
    exact Bool.false_ne_true
  have hlong : ¬ Builtin.List.listTooLong (its.toArray.size * k.toNat) = true := by
    rw [notLongL hlen]
    exact Bool.false_ne_true
  have hnew : List.foldl (fun x1 x2 => x1 ++ x2) #[] (List.replicate (if its.toArray.isEmpty = true then 0 else k.toNat) its.toArray) = (List.replicate k.toNat its).flatten.toArray := by
    have f0 : ∀ m : Nat, List.foldl (fun x1 x2 => x1 ++ x2) #[] (List.replicate m its.toArray) = (List.replicate m its).flatten.toArray := fun m => by
      have := foldl_rep its m []
      rw [List.nil_append] at this
      exact this
    rw [f0]
    cases its with
    | nil => simp
    | cons a r' => rw [if_neg (by simp)]
  refine wpAny_binaryOp_repeat_ref (T := "list") (U := "int") (by decide) ⟨_, e, rfl⟩ (fun s' => typeIs_int s' k t) noFill_list_mul F.fills_int_mul F.slot_int_rmul repeat_list F.slot_int_index.lookup
    (call_meets F.slot_int_rmul (typeIs_int s k t) F.entry_int_rmul (F.args_int_rmul_2 _ _) (int_rmul_listW k t l its.toArray n d1 s1)
      ⟨e, rfl, ⟨_, e, rfl⟩, call_meets F.slot_list_mul ⟨_, e, rfl⟩ F.entry_list_mul (F.args_list_mul_2 _ _) (list_mulW l its.toArray n d1 s1 k t hfit hcap hlong) ⟨e, ?_⟩⟩)
  rw [hnew]
  exact ⟨.ref _, _, I.lnew (t' := s.toks) (r.rep k.toNat) (by rw [PyProof.Rows.lm_len_rep_flat, Nat.mul_comm]; exact hz), rfl, q _ I.fresh⟩
theorem Reps.rep {G : Hp} {ρ : List Addr} {vs : List V} {ds : List D} (r : Reps Γ G ρ vs ds) : ∀ n, Reps Γ G ρ (List.replicate n vs).flatten (List.replicate n ds).flatten
  | 0 => .nil
  | n + 1 => by
    rw [List.replicate_succ, List.replicate_succ, List.flatten_cons, List.flatten_cons]
    exact r.append (Reps.rep r n)
theorem Reps.nilL {G : Hp} {ρ : List Addr} {ds : List D} (h : Reps Γ G ρ [] ds) : ds = [] := by cases h; rfl
theorem Reps.nilR {G : Hp} {ρ : List Addr} {vs : List V} (h : Reps Γ G ρ vs []) : vs = [] := by cases h; rfl

theorem op_bin (hK : X.K = Γ.K) (o : Bop) : OpR X (binaryOp (opB o)) (BinS Γ XE o) := by
  intro pins s σ' H x y v u Q I rx ry h
  obtain ⟨G, ρ, M, a, b, rel, ra, rb, p⟩ := h
  cases ra with
  | int i =>
    cases rb with
    | int j =>
      have fin : ∀ k, binI o i j = some k → Q (.int k) H := fun k e => by
        simp only [binD, e] at p
        exact Post.now rel p (.int k)
      cases o with
      | add => exact op_add pins s σ' H _ _ v u Q I rx ry ⟨i, j, rfl, rfl, fin _ rfl⟩
      | sub => exact op_sub pins s σ' H _ _ v u Q I rx ry ⟨i, j, rfl, rfl, fin _ rfl⟩
      | mul =>
        by_cases hw : widthOk i j = true
        · have hw' := hw
          simp only [widthOk, Bool.and_eq_true, decide_eq_true_eq] at hw'
          exact op_mulW pins s σ' H _ _ v u Q I rx ry ⟨i, j, rfl, rfl, wide_mul hw'.1 hw'.2 (by omega) (by omega) (by omega), fin _ (by simp [binI, hw])⟩
        · simp [binD, binI, hw, Post] at p
      | fdiv =>
        by_cases h0 : j = 0
        · simp [binD, binI, h0, Post] at p
        · by_cases h1 : j.natAbs < 1073741824
          · exact op_fdivN pins s σ' H _ _ v u Q I rx ry ⟨i, j, rfl, rfl, ⟨h0, h1⟩, fin _ (by simp only [binI, if_neg h0, if_pos h1])⟩
          · by_cases h2 : 0 < j ∧ j.natAbs < 2 ^ 4000
            · exact op_fdivW pins s σ' H _ _ v u Q I rx ry ⟨i, j, rfl, rfl, wide_div h2.1 h2.2 (by omega) (by omega), fin _ (by simp only [binI, if_neg h0, if_neg h1, if_pos h2])⟩
            · simp only [binD, binI, if_neg h0, if_neg h1, if_neg h2, Post] at p
      | mod =>
        by_cases h0 : j = 0
        · simp [binD, binI, h0, Post] at p
        · exact op_modN pins s σ' H _ _ v u Q I rx ry ⟨i, j, rfl, rfl, h0, fin _ (by simp only [binI, if_neg h0])⟩
      | pow =>
        by_cases h0 : 0 ≤ j ∧ j ≤ 1000 ∧ i.natAbs < 2 ^ 64
        · exact op_pow pins s σ' H _ _ v u Q I rx ry ⟨i, j, rfl, rfl, ⟨h0.1, by omega, h0.2.2⟩, fin _ (by simp only [binI, if_pos h0])⟩
        · simp only [binD, binI, if_neg h0, Post] at p
    | _ => exact p.elim
  | str i =>
    cases rb with
    | str j =>
      cases o with
      | add =>
        simp only [binD] at p
        by_cases hl : i.length + j.length ≤ line
        · rw [if_pos hl] at p
          exact op_add_str pins s σ' H _ _ v u Q I rx ry ⟨i, j, rfl, rfl, line_le hl, Post.now rel p (.str _)⟩
        · rw [if_neg hl] at p; exact p.elim
      | _ => exact p.elim
    | int k =>
      cases o with
      | mul =>
        simp only [binD] at p
        by_cases hl : 0 ≤ k ∧ k ≤ 1000 ∧ i.length ≤ 10000
        · rw [if_pos hl] at p
          exact op_repS pins s σ' H _ _ v u Q I rx ry ⟨i, k, rfl, rfl, hl.1, hl.2.1, hl.2.2, Post.now rel p (.str _)⟩
        · rw [if_neg hl] at p; exact p.elim
      | _ => exact p.elim
    | _ => exact p.elim
  | @tup ta xs ds hx rds =>
    cases rb with
    | @tup tb ys es hy res =>
      cases o with
      | add =>
        simp only [binD] at p
        by_cases hl : ds.length + es.length ≤ line
        · rw [if_pos hl] at p
          refine op_catA pins s σ' H _ _ v u Q I rx ry ⟨ta, tb, xs, ys, rfl, rfl, hK ▸ SqT.sub rel.gh hx.sq, hK ▸ SqT.sub rel.gh hy.sq, by rw [rds.len, res.len]; exact line_le hl, fun e => ?_, fun e e2 => ?_, fun e e2 q hq => ?_⟩
          · subst e
            have := rds.nilL; subst this
            exact Post.now rel p (.tup hy res)
          · subst e2
            have := res.nilL; subst this
            rw [List.append_nil] at p
            exact Post.now rel p (.tup hx rds)
          · have sg := sub_upd (o := HO.tup (xs ++ ys)) (rel.fresh hq).2
            exact Post.new rel p hq (.tup (.inl upd_same) ((Reps.mono sg (Pre.refl _) rds).append (Reps.mono sg (Pre.refl _) res)))
        · rw [if_neg hl] at p; exact p.elim
      | _ => exact p.elim
    | int k =>
      cases o with
      | mul =>
        simp only [binD] at p
        by_cases hl : ds.isEmpty = false ∧ 2 ≤ k ∧ k ≤ 1000 ∧ ds.length ≤ 1000
        · rw [if_pos hl] at p
          refine op_repT pins s σ' H _ _ v u Q I rx ry ⟨ta, k, xs, rfl, rfl, hK ▸ SqT.sub rel.gh hx.sq, fun z => by (subst z; rw [rds.nilL] at hl; cases hl.1), hl.2.1, hl.2.2.1, by rw [rds.len]; exact hl.2.2.2, fun q hq => ?_⟩
          have sg := sub_upd (o := HO.tup (List.replicate k.toNat xs).flatten) (rel.fresh hq).2
          exact Post.new rel p hq (.tup (.inl upd_same) ((Reps.mono sg (Pre.refl _) rds).rep _))
        · rw [if_neg hl] at p; exact p.elim
      | _ => exact p.elim
    | _ => exact p.elim
  | @lst ta xs ds hx rds =>
    cases rb with
    | @lst tb ys es hy res =>
      cases o with
      | add =>
        simp only [binD] at p
        by_cases hl : ds.length + es.length ≤ line
        · rw [if_pos hl] at p
          refine op_catL pins s σ' H _ _ v u Q I rx ry ⟨ta, tb, xs, ys, rfl, rfl, hK ▸ rel.gh.seq hx, hK ▸ rel.gh.seq hy, by rw [rds.len, res.len]; exact line_le hl, fun q hq => ?_⟩
          have sg := sub_upd (o := HO.lst (xs ++ ys)) (rel.fresh hq).2
          exact Post.new rel p hq (.lst (.of upd_same) ((Reps.mono sg (Pre.refl _) rds).append (Reps.mono sg (Pre.refl _) res)))
        · rw [if_neg hl] at p; exact p.elim
      | _ => exact p.elim
    | int k =>
      cases o with
      | mul =>
        simp only [binD] at p
        by_cases hl : 0 ≤ k ∧ k ≤ 1000 ∧ ds.length * k.toNat ≤ line
        · rw [if_pos hl] at p
          refine op_repL pins s σ' H _ _ v u Q I rx ry ⟨ta, k, xs, rfl, rfl, hK ▸ rel.gh.seq hx, hl.1, hl.2.1, by rw [rds.len]; exact line_le hl.2.2, fun q hq => ?_⟩
          have sg := sub_upd (o := HO.lst (List.replicate k.toNat xs).flatten) (rel.fresh hq).2
          exact Post.new rel p hq (.lst (.of upd_same) ((Reps.mono sg (Pre.refl _) rds).rep _))
        · rw [if_neg hl] at p; exact p.elim
      | _ => exact p.elim
    | _ => exact p.elim
  | _ => first | exact p.elim | (cases rb <;> exact p.elim)

def CmpS (Γ : Cfg) (XE : XW) (o : Cop) : R2 := fun x y H Q => ∃ G ρ M a b, Core Γ G ρ M H ∧ PRep Γ G ρ H x a ∧ PRep Γ G ρ H y b ∧ Post XE (RepS Γ) Γ G ρ H (cmpD o a b M) Q

theorem PRep.int {G : Hp} {ρ : List Addr} {H : Hp} {v : V} {i : Int} (h : PRep Γ G ρ H v (.int i)) : v = .int i := by
  rcases h with h | ⟨_, _, _, _, e, _⟩
  · cases h; rfl
  · cases e
theorem PRep.str {G : Hp} {ρ : List Addr} {H : Hp} {v : V} {i : Str} (h : PRep Γ G ρ H v (.str i)) : v = .str i := by
  rcases h with h | ⟨_, _, _, _, e, _⟩
  · cases h; rfl
  · cases e
theorem PRep.bl {G : Hp} {ρ : List Addr} {H : Hp} {v : V} {i : Bool} (h : PRep Γ G ρ H v (.bl i)) : v = .bl i := by
  rcases h with h | ⟨_, _, _, _, e, _⟩
  · cases h; rfl
  · cases e
theorem PRep.non {G : Hp} {ρ : List Addr} {H : Hp} {v : V} (h : PRep Γ G ρ H v .non) : v = .non := by
  rcases h with h | ⟨_, _, _, _, e, _⟩
  · cases h; rfl
  · cases e
theorem PRep.is_non {G : Hp} {ρ : List Addr} {H : Hp} {v : V} {d : D} (h : PRep Γ G ρ H v d) : decide (v = .non) = isNonD d := by
  rcases h with h | ⟨_, _, _, rfl, rfl, _⟩
  · cases h <;> simp [isNonD]
  · simp [isNonD]
mutual
theorem canLay_py : ∀ d : D, pure? d = true → (py d).canLay0 = true
  | .non, _ => by simp [py, PyData.canLay0]
  | .bl _, _ => by simp [py, PyData.canLay0]
  | .int _, _ => by simp [py, PyData.canLay0]
  | .str s, h => by rw [pure?] at h; simp [py, PyData.canLay0, h]
  | .tup ds, h => by rw [pure?] at h; simp [py, PyData.canLay0, canLay_pys ds h]
  | .lst ds, h => by rw [pure?] at h; simp [py, PyData.canLay0, canLay_pys ds h]
  | .obj _, h => by rw [pure?] at h; cases h
  | .fn _, h => by rw [pure?] at h; cases h
theorem canLay_pys : ∀ d : List D, pures d = true → PyData.canLayAll0 (pys d) = true
  | [], _ => by simp [pys, PyData.canLayAll0]
  | d :: ds, h => by
    rw [pures, Bool.and_eq_true] at h
    simp [pys, PyData.canLayAll0, canLay_py d h.1, canLay_pys ds h.2]
end
theorem isEq_ok {x y : D} (h : eqOk x y = true) : pure? x = true ∧ pure? y = true ∧ SeqAt.shaped (py x) = true ∧ SeqAt.shaped (py y) = true := by
  simp only [eqOk, Bool.and_eq_true, decide_eq_true_eq] at h
  obtain ⟨⟨⟨h1, h2⟩, h3⟩, h4⟩ := h
  refine ⟨h1, h2, ?_, ?_⟩
  · simp only [SeqAt.shaped, canLay_py x h1, depth_py, Bool.true_and, decide_eq_true_eq]; omega
  · simp only [SeqAt.shaped, canLay_py y h2, depth_py, Bool.true_and, decide_eq_true_eq]; omega
theorem strP_ok {x y : D} {b : Bool} (h : strP x y = some b) : ∃ s t, x = .str s ∧ y = .str t ∧ b = decide (s = t) := by
  unfold strP at h
  split at h
  · rename_i s t
    exact ⟨s, t, rfl, rfl, (Option.some.inj h).symm⟩
  · cases h
theorem in_of {pins : List (Addr × Obj)} {σ' : L2.St} {G H : Hp} {ρ : List Addr} {M : Sto} {s : Shared} {x y : V} {a b : D} {v u : Value} {k : Bool} {Q : VK} (hK : X.K = Γ.K) (nm : NoMix Γ.K) (hu : X.A.units + 64 < cLine) (I : L2.Inv X pins σ' H s) (rx : RelV x v) (ry : RelV y u)
    (rel : Core Γ G ρ M H) (ra : PRep Γ G ρ H x a) (rb : PRep Γ G ρ H y b) (e : inD a b M = some k) :
    (Q (.bl k) H → wpAny (model X.prog X.w) X.A (compareOp .In v u) (EP X pins σ' Q) X.xe s) ∧ (Q (.bl (!k)) H → wpAny (model X.prog X.w) X.A (compareOp .NotIn v u) (EP X pins σ' Q) X.xe s) := by
  have seqs : ∀ (ds : List D), (eqOk a (.tup ds) = true ∨ eqOk a (.lst ds) = true) → pure? a = true ∧ pures ds = true ∧ dep a ≤ 60 := by
    intro ds h
    rcases h with h | h <;> (obtain ⟨p1, p2, _, _⟩ := isEq_ok h; simp only [eqOk, Bool.and_eq_true, decide_eq_true_eq] at h; exact ⟨p1, by rw [pure?] at p2; exact p2, h.1.2⟩)
  cases b with
  | str t =>
    cases a with
    | str s1 =>
      simp only [inD, Option.some.injEq] at e
      subst e
      have x1 := ra.str
      have y1 := rb.str
      subst x1 y1
      exact ⟨fun q => op_in_str pins s σ' H _ _ v u Q I rx ry ⟨s1, t, rfl, rfl, q⟩, fun q => op_notin_str pins s σ' H _ _ v u Q I rx ry ⟨s1, t, rfl, rfl, q⟩⟩
    | _ => simp [inD] at e
  | tup ds =>
    simp only [inD] at e
    split at e
    · rename_i he
      cases e
      obtain ⟨p1, p2, p3⟩ := seqs ds (.inl he)
      obtain ⟨as, r1⟩ := Dp.reads I _ _ v (hK ▸ ra.dp rel.gh p1) rx
      obtain ⟨bs, r2⟩ := Dp.reads I _ _ u (hK ▸ rb.dp rel.gh (by rw [pure?]; exact p2)) ry
      have c1 := canLay_py a p1
      have c2 := canLay_pys ds p2
      have dd : X.A.units + 1 + min (PyData.depthAll (pys ds)) (py a).depth < cLine := by rw [depth_py]; omega
      rw [py] at r2
      exact ⟨fun q => SeqAt.in_tuple_reads r2 r1 c2 c1 dd ⟨.bl _, H, I, rfl, q⟩, fun q => SeqAt.notIn_tuple_reads r2 r1 c2 c1 dd ⟨.bl _, H, I, rfl, q⟩⟩
    · cases e
  | lst ds =>
    simp only [inD] at e
    split at e
    · rename_i he
      cases e
      obtain ⟨p1, p2, p3⟩ := seqs ds (.inr he)
      obtain ⟨as, r1⟩ := Dp.reads I _ _ v (hK ▸ ra.dp rel.gh p1) rx
      obtain ⟨bs, r2⟩ := Dp.reads I _ _ u (hK ▸ rb.dp rel.gh (by rw [pure?]; exact p2)) ry
      have c1 := canLay_py a p1
      have c2 := canLay_pys ds p2
      have dd : X.A.units + 1 + min (PyData.depthAll (pys ds)) (py a).depth < cLine := by rw [depth_py]; omega
      rw [py] at r2
      exact ⟨fun q => SeqAt.in_list_reads r2 r1 c2 c1 dd ⟨.bl _, H, I, rfl, q⟩, fun q => SeqAt.notIn_list_reads r2 r1 c2 c1 dd ⟨.bl _, H, I, rfl, q⟩⟩
    · cases e
  | obj i =>
    simp only [inD, Option.map_eq_some_iff] at e
    obtain ⟨o, e1, e2⟩ := e
    have rb' := rb.rep (fun _ z => by cases z)
    cases rb' with
    | @obj i q eq =>
      have ra' : Rep Γ G ρ x a := by
        rcases ra with h | ⟨ad, vs, ds', rfl, rfl, _⟩
        · exact h
        · exfalso
          unfold look at e1
          split at e1 <;> simp [keyD, tkeyD] at e1
      cases ry
      rcases look_of nm rel eq ra' e1 with ⟨e3, g⟩ | ⟨w, z, e3, g, _⟩
      · subst e3 e2
        exact ⟨fun q => d_in (by omega) I g rx fun s' I' => ⟨.bl _, H, I', rfl, q⟩, fun q => d_notIn (by omega) I g rx fun s' I' => ⟨.bl _, H, I', rfl, q⟩⟩
      · subst e3 e2
        exact ⟨fun q => d_in (by omega) I g rx fun s' I' => ⟨.bl _, H, I', rfl, q⟩, fun q => d_notIn (by omega) I g rx fun s' I' => ⟨.bl _, H, I', rfl, q⟩⟩
  | _ => simp [inD] at e
theorem op_cmp (hK : X.K = Γ.K) (nm : NoMix Γ.K) (hu : X.A.units + 64 < cLine) (o : Cop) : OpR X (compareOp (opC o)) (CmpS Γ XE o) := by
  intro pins s σ' H x y v u Q I rx ry h
  obtain ⟨G, ρ, M, a, b, rel, ra, rb, p⟩ := h
  cases o with
  | eq =>
    simp only [cmpD] at p
    cases es : strP a b with
    | some bb =>
      rw [es] at p
      obtain ⟨s1, s2, e1, e2, e3⟩ := strP_ok es
      subst e1 e2 e3
      have x1 := ra.str
      have y1 := rb.str
      subst x1 y1
      refine op_eq pins s σ' H _ _ v u Q I rx ry ⟨rfl, ?_⟩
      have e4 : decide (V.str s1 = V.str s2) = decide (s1 = s2) := by simp
      rw [e4]
      exact Post.now rel p (.bl _)
    | none =>
    rw [es] at p
    simp only at p
    by_cases he : eqOk a b = true
    · rw [if_pos he] at p
      obtain ⟨p1, p2, s1, s2⟩ := isEq_ok he
      exact op_eqD hu pins s σ' H _ _ v u Q I rx ry ⟨py a, py b, hK ▸ ra.dp rel.gh p1, hK ▸ rb.dp rel.gh p2, s1, s2, Post.now rel p (.bl _)⟩
    · rw [if_neg he] at p; exact p.elim
  | ne =>
    simp only [cmpD] at p
    cases es : strP a b with
    | some bb =>
      rw [es] at p
      obtain ⟨s1, s2, e1, e2, e3⟩ := strP_ok es
      subst e1 e2 e3
      have x1 := ra.str
      have y1 := rb.str
      subst x1 y1
      refine op_ne pins s σ' H _ _ v u Q I rx ry ⟨rfl, ?_⟩
      have e4 : decide (V.str s1 = V.str s2) = decide (s1 = s2) := by simp
      rw [e4]
      exact Post.now rel p (.bl _)
    | none =>
    rw [es] at p
    simp only at p
    by_cases he : eqOk a b = true
    · rw [if_pos he] at p
      obtain ⟨p1, p2, s1, s2⟩ := isEq_ok he
      exact op_neD hu pins s σ' H _ _ v u Q I rx ry ⟨py a, py b, hK ▸ ra.dp rel.gh p1, hK ▸ rb.dp rel.gh p2, s1, s2, Post.now rel p (.bl _)⟩
    · rw [if_neg he] at p; exact p.elim
  | is_ =>
    cases b with
    | non => exact op_isN pins s σ' H _ _ v u Q I rx ry ⟨rb.non, by rw [ra.is_non]; exact Post.now rel p (.bl _)⟩
    | bl j =>
      cases a with
      | bl i => exact op_isBl pins s σ' H _ _ v u Q I rx ry ⟨i, j, ra.bl, rb.bl, Post.now rel p (.bl _)⟩
      | _ => exact p.elim
    | _ => exact p.elim
  | isnot =>
    cases b with
    | non => exact op_notN pins s σ' H _ _ v u Q I rx ry ⟨rb.non, by
        rw [ra.is_non]
        exact Post.now rel p (.bl _)⟩
    | bl j =>
      cases a with
      | bl i => exact op_notBl pins s σ' H _ _ v u Q I rx ry ⟨i, j, ra.bl, rb.bl, Post.now rel p (.bl _)⟩
      | _ => exact p.elim
    | _ => exact p.elim
  | lt =>
    cases a with
    | int i =>
      cases b with
      | int j => exact op_lt pins s σ' H _ _ v u Q I rx ry ⟨i, j, ra.int, rb.int, Post.now rel p (.bl _)⟩
      | _ => exact p.elim
    | _ => exact p.elim
  | le =>
    cases a with
    | int i =>
      cases b with
      | int j => exact op_le pins s σ' H _ _ v u Q I rx ry ⟨i, j, ra.int, rb.int, Post.now rel p (.bl _)⟩
      | _ => exact p.elim
    | _ => exact p.elim
  | gt =>
    cases a with
    | int i =>
      cases b with
      | int j => exact op_gt pins s σ' H _ _ v u Q I rx ry ⟨i, j, ra.int, rb.int, Post.now rel p (.bl _)⟩
      | _ => exact p.elim
    | _ => exact p.elim
  | ge =>
    cases a with
    | int i =>
      cases b with
      | int j => exact op_ge pins s σ' H _ _ v u Q I rx ry ⟨i, j, ra.int, rb.int, Post.now rel p (.bl _)⟩
      | _ => exact p.elim
    | _ => exact p.elim
  | in_ =>
    simp only [cmpD] at p
    cases e : inD a b M with
    | none => rw [e] at p; exact p.elim
    | some k =>
      rw [e] at p
      exact (in_of hK nm hu I rx ry rel ra rb e).1 (Post.now rel p (.bl _))
  | notin =>
    simp only [cmpD] at p
    cases e : inD a b M with
    | none => rw [e] at p; exact p.elim
    | some k =>
      rw [e] at p
      exact (in_of hK nm hu I rx ry rel ra rb e).2 (Post.now rel p (.bl _))
end
end Mp
end

section
set_option Elab.async false
set_option linter.all false
set_option maxRecDepth 100000
/-! Truth, subscripts, slices, built-ins keep to the evaluator. -/
namespace Mp
open PySem PySem.Spec L2
section
variable {Γ : Cfg} {X : Cx} {XE : XW} {G : Hp} {ρ : List Addr} {H : Hp} {M : Sto} {x y : V} {a b : D}

theorem tru_v {t : Bool} (s : Sub G H) (r : PRep Γ G ρ H x a) (e : truO a = some t) : TruV Γ.K x H t := by
  cases a with
  | non => rw [r.non]; cases e; rfl
  | bl b => rw [r.bl]; cases e; rfl
  | int i => rw [r.int]; cases e; rfl
  | str y =>
    rw [r.str]
    simp only [truO] at e
    by_cases hl : y.length ≤ line
    · rw [if_pos hl] at e
      cases e
      refine ⟨line_le hl, ?_⟩
      rw [Bool.eq_iff_iff]; simp
    · rw [if_neg hl] at e; cases e
  | tup ds =>
    obtain ⟨q, vs, rfl, hs, rs⟩ := r.tup s
    cases e
    exact .inr (.inl ⟨vs, hs, by cases rs <;> rfl⟩)
  | lst ds =>
    obtain ⟨q, vs, rfl, hs, rs⟩ := r.lst s
    cases e
    exact .inl ⟨vs, hs, by cases rs <;> rfl⟩
  | _ => cases e

theorem atI_reps {vs : List V} {ds : List D} {i : Int} {d : D} (r : Reps Γ G ρ vs ds) (h : L2.atI ds i = some d) : ∃ v, L2.atI vs i = some v ∧ Rep Γ G ρ v d := by
  unfold L2.atI at h ⊢
  rw [r.len]
  cases e : L2.ixN ds.length i with
  | none => rw [e] at h; cases h
  | some j =>
    rw [e] at h
    exact r.get h
theorem ix_of {Q : VK} (hno : ∀ i, a ≠ .obj i) (rel : Core Γ G ρ M H) (ra : PRep Γ G ρ H x a) (rb : Rep Γ G ρ y b) (p : Post XE (RepS Γ) Γ G ρ H (idxD a b M) Q) : rIx Γ.K x y H Q := by
  cases a with
  | tup ds =>
    cases rb with
    | int i =>
      obtain ⟨q, vs, rfl, hs, rs⟩ := ra.tup rel.gh
      simp only [idxD] at p
      cases e : L2.atI ds i with
      | none => rw [e] at p; exact p.elim
      | some d =>
        rw [e] at p
        obtain ⟨v, ev, rv⟩ := atI_reps rs e
        exact .inr (.inl ⟨q, vs, i, v, rfl, rfl, hs, ev, Post.now rel p rv⟩)
    | _ => exact p.elim
  | lst ds =>
    cases rb with
    | int i =>
      obtain ⟨q, vs, rfl, hs, rs⟩ := ra.lst rel.gh
      simp only [idxD] at p
      cases e : L2.atI ds i with
      | none => rw [e] at p; exact p.elim
      | some d =>
        rw [e] at p
        obtain ⟨v, ev, rv⟩ := atI_reps rs e
        exact .inl ⟨q, vs, i, v, rfl, rfl, hs, ev, Post.now rel p rv⟩
    | _ => exact p.elim
  | str s =>
    cases rb with
    | int i =>
      simp only [idxD] at p
      split at p
      · rename_i hl
        cases e : L2.atI s.cps.toList i with
        | none => rw [e] at p; exact p.elim
        | some c =>
          rw [e] at p
          have ra' := ra.rep (fun _ z => by cases z)
          cases ra'
          exact .inr (.inr ⟨s, i, c, rfl, rfl, line_le hl, e, Post.now rel p (.str _)⟩)
      · exact p.elim
    | _ => exact p.elim
  | obj i => exact absurd rfl (hno i)
  | _ => exact p.elim

/-! ### dicts of the store -/
theorem dgt_of {Q : VK} (nm : NoMix Γ.K) (rel : Core Γ G ρ M H) (ra : Rep Γ G ρ x a) (rb : Rep Γ G ρ y b) (p : Post XE (RepS Γ) Γ G ρ H (dgtD a b M) Q) : ∃ a v, x = .ref a ∧ DGet H a y (some v) ∧ Q v H := by
  cases ra with
  | @obj i q e =>
    simp only [dgtD] at p
    cases el : look M i b with
    | none => rw [el] at p; exact p.elim
    | some o =>
      rw [el] at p
      rcases look_of nm rel e rb el with ⟨e3, g⟩ | ⟨w, z, e3, g, rv⟩
      · subst e3; exact p.elim
      · subst e3; exact ⟨q, w, rfl, g, Post.now rel p rv⟩
  | _ => exact p.elim

/-! ### slices -/
theorem cut_reps {vs : List V} {ds : List D} (lo hi : Option Int) (r : Reps Γ G ρ vs ds) : Reps Γ G ρ (cutV vs lo hi) (cutD ds lo hi) := by
  unfold cutV cutD
  rw [r.len]
  exact (r.drop _).take _
theorem cut_whole {α : Type} {xs : List α} {lo hi : Option Int} (h : HT.sIx xs.length 0 lo = 0 ∧ HT.sIx xs.length xs.length hi = xs.length) : cutD xs lo hi = xs := by
  unfold cutD
  rw [h.1, h.2]
  simp
theorem slc_of {Q : VK} {lo hi : Option Int} (rel : Core Γ G ρ M H) (ra : PRep Γ G ρ H x a) (p : Post XE (RepS Γ) Γ G ρ H (slcD a lo hi M) Q) : (rSlL Γ.K x lo hi H Q ∨ rSlA Γ.K x lo hi H Q) ∨ rSlS x lo hi H Q := by
  cases a with
  | tup ds =>
    obtain ⟨q, vs, rfl, hs, rs⟩ := ra.tup rel.gh
    refine .inl (.inr ⟨q, vs, rfl, hs, fun h => ?_, fun h n hn => ?_⟩)
    · rw [rs.len] at h
      have p' : Post XE (RepS Γ) Γ G ρ H (.ok (.tup (cutD ds lo hi)) M) Q := p
      rw [cut_whole h] at p'
      exact Post.now rel p' (ra.rep (fun _ z => by cases z))
    · have sg := sub_upd (o := HO.tup (cutV vs lo hi)) (rel.fresh hn).2
      exact Post.new (a := D.tup (cutD ds lo hi)) rel p hn (.tup (.inl upd_same) (Reps.mono sg (Pre.refl _) (cut_reps lo hi rs)))
  | lst ds =>
    obtain ⟨q, vs, rfl, hs, rs⟩ := ra.lst rel.gh
    refine .inl (.inl ⟨q, vs, rfl, hs, fun n hn => ?_⟩)
    have sg := sub_upd (o := HO.lst (cutV vs lo hi)) (rel.fresh hn).2
    exact Post.new (a := D.lst (cutD ds lo hi)) rel p hn (.lst (.of upd_same) (Reps.mono sg (Pre.refl _) (cut_reps lo hi rs)))
  | str z =>
    simp only [slcD] at p
    by_cases hl : z.length ≤ line
    · rw [if_pos hl] at p
      exact .inr ⟨z, ra.str, line_le hl, Post.now rel p (.str _)⟩
    · rw [if_neg hl] at p; exact p.elim
  | _ => exact p.elim

/-! ### isinstance -/
def tyN : Ty → String
  | .tuple => "tuple" | .list => "list" | .int => "int" | .bool => "bool" | .str => "str" | .dict => "dict"
def tyOf : D → String
  | .non => "NoneType" | .bl _ => "bool" | .int _ => "int" | .str _ => "str" | .tup _ => "tuple" | .lst _ => "list" | .obj _ => "dict" | .fn _ => "function"
theorem kit_all : ∀ (d : D) (t : Ty), isiOk d = true → kitB (tyOf d) (tyN t) = some (isiD d t) := by
  intro d t h
  cases d with
  | non => cases t <;> (simp only [tyOf, tyN, isiD]; decide +kernel)
  | bl b => cases t <;> (simp only [tyOf, tyN, isiD]; decide +kernel)
  | int b => cases t <;> (simp only [tyOf, tyN, isiD]; decide +kernel)
  | str b => cases t <;> (simp only [tyOf, tyN, isiD]; decide +kernel)
  | tup b => cases t <;> (simp only [tyOf, tyN, isiD]; decide +kernel)
  | lst b => cases t <;> (simp only [tyOf, tyN, isiD]; decide +kernel)
  | obj b => cases h
  | fn b => cases h
theorem tyx_tup {p : Addr} {vs : List V} (h : SqT Γ.K H p vs) : TyX Γ.K H (.ref p) (.type "tuple") := by
  rcases h with (h | ⟨o, h⟩) | ⟨o, its, n, hk, hc, _⟩
  · exact .base (.tup h)
  · exact .fTuple h
  · exact .kTuple hk hc
theorem tyx_lst {p : Addr} {vs : List V} (h : SqL Γ.K H p vs) : TyX Γ.K H (.ref p) (.type "list") := by
  rcases h with (h | ⟨o, h⟩) | ⟨o, its, n, hk, hc, _⟩
  · exact .base (.lst h)
  · exact .base (.frz h)
  · exact .kList hk hc
theorem tyx_of (s : Sub G H) (r : PRep Γ G ρ H x a) (h : isiOk a = true) : TyX Γ.K H x (.type (tyOf a)) := by
  cases a with
  | non => rw [r.non]; exact .base .non
  | bl b => rw [r.bl]; exact .base (.bl _)
  | int b => rw [r.int]; exact .base (.int _)
  | str b => rw [r.str]; exact .base (.str _)
  | tup ds =>
    obtain ⟨p, vs, rfl, hs, _⟩ := r.tup s
    exact tyx_tup hs
  | lst ds =>
    obtain ⟨p, vs, rfl, hs, _⟩ := r.lst s
    exact tyx_lst hs
  | obj b => cases h
  | fn b => cases h
end
end Mp
end

section
set_option Elab.async false
set_option linter.all false
set_option maxRecDepth 100000
/-! x[::k] for k -1, 1, 2. -/
namespace Mp
open PySem PySem.Spec L2 PyProof.Rows
def StepOk (k : Int) : Prop := k = -1 ∨ k = 1 ∨ k = 2
theorem fm_congr {α β : Type} {f g : α → Option β} : ∀ {l : List α}, (∀ x ∈ l, f x = g x) → l.filterMap f = l.filterMap g
  | [], _ => rfl
  | a :: l, h => by
    rw [List.filterMap_cons, List.filterMap_cons, h a List.mem_cons_self, fm_congr fun x hx => h x (List.mem_cons_of_mem _ hx)]
theorem evens_get {α : Type} : ∀ (xs : List α), (List.range ((xs.length + 1) / 2)).filterMap (fun k => xs[2 * k]?) = evens xs
  | [] => by simp [evens]
  | [a] => by simp [evens, List.range_succ]
  | a :: b :: r => by
    have hm : ((a :: b :: r).length + 1) / 2 = (r.length + 1) / 2 + 1 := by simp; omega
    rw [hm, List.range_succ_eq_map, List.filterMap_cons]
    have h0 : (a :: b :: r)[2 * 0]? = some a := by simp
    rw [h0]
    simp only [evens]
    congr 1
    rw [List.filterMap_map, ← evens_get r]
    apply fm_congr
    intro k _
    show (a :: b :: r)[2 * (k + 1)]? = r[2 * k]?
    rw [show 2 * (k + 1) = 2 * k + 1 + 1 by omega, List.getElem?_cons_succ, List.getElem?_cons_succ]
theorem pick_step_list (items : Array Value) {k : Int} (h : StepOk k) : slicePick items none none (some k) = (stepL items.toList k).toArray := by
  rcases h with rfl | rfl | rfl
  · rw [PySem.W.krv_pick]; rfl
  · rw [show slicePick items none none (some 1) = slicePick items none none none from rfl, PySem.W.kms_pick_eq]
    show (PySem.W.kms_pick items.toList none none).toArray = (stepL items.toList 1).toArray
    congr 1
    unfold PySem.W.kms_pick PySem.W.kms_lo PySem.W.kms_hi stepL
    simp [List.take_of_length_le]
  · have e : stepL items.toList 2 = evens items.toList := rfl
    rw [e, ← evens_get]
    unfold slicePick sliceBounds sliceRange
    simp only [Option.getD_some, show ((2 : Int) > 0) = True from eq_true (by decide), if_true]
    congr 1
    rw [List.filterMap_map]
    have hn : (if (0 : Int) < (items.size : Int) then ((items.size : Int) - 0 + 2 - 1) / 2 else 0).toNat = (items.toList.length + 1) / 2 := by
      rw [Array.length_toList]
      split <;> omega
    rw [hn]
    apply fm_congr
    intro j _
    show items[(0 + 2 * (j : Int)).toNat]? = items.toList[2 * j]?
    have : (0 + 2 * (j : Int)).toNat = 2 * j := by omega
    rw [this, Array.getElem?_toList]
theorem stepL_len {α : Type} (xs : List α) (k : Int) : (stepL xs k).length ≤ xs.length := by
  have ev : ∀ xs : List α, (evens xs).length ≤ xs.length := by
    intro xs
    induction h : xs.length using Nat.strongRecOn generalizing xs with
    | _ m ih =>
      match xs, h with
      | [], _ => simp [evens]
      | [a], h => rw [← h]; simp [evens]
      | a :: b :: r, h =>
        have := ih r.length (by simp at h; omega) r rfl
        simp [evens] at h ⊢
        omega
  unfold stepL
  split
  · simp
  · split
    · exact ev xs
    · exact Nat.le_refl _
section
variable {X : Cx}
theorem Vals.evens : ∀ {xs : List V} {us : List Value}, Vals xs us → Vals (Mp.evens xs) (Mp.evens us)
  | _, _, .nil => .nil
  | _, _, .cons h .nil => .cons h .nil
  | _, _, .cons h (.cons _ t) => .cons h (Vals.evens t)
theorem Vals.step {xs : List V} {us : List Value} (r : Vals xs us) (k : Int) : Vals (stepL xs k) (stepL us k) := by
  unfold stepL
  split
  · exact r.reverse
  · split
    · exact Vals.evens r
    · exact r
theorem evens_map {α β : Type} (f : α → β) : ∀ xs : List α, (evens xs).map f = evens (xs.map f)
  | [] => rfl
  | [a] => rfl
  | a :: b :: r => by simp [evens, evens_map f r]
/-- the slice's reading of a tuple's items -/
theorem sliceApplied_step {prog : Program} {w : World} {A : Around} {E : Value → Shared → Prop} {s : Shared} {sl : Addr} {vs : Value} {k : Int} {n : Nat} {Q : Int × Int × Nat → Shared → Prop} (hs : s.heap.IsSliceOf sl .none .none vs) (ps : IsPart vs (some k)) (hk : StepOk k)
    (h : Q ((if k = -1 then (n : Int) - 1 else 0), k, (if k = 2 then (n + 1) / 2 else n)) s) : wpAny (model prog w) A (Builtin.Slice.sliceApplied (.ref sl) (pure (n : Int))) Q E s := by
  obtain ⟨os, hos, hcs, hds⟩ := id hs
  unfold Builtin.Slice.sliceApplied Builtin.Slice.sliceFields
  refine wpAny_bind (wpAny_bind (wpAny_field hos hds (x := .none) rfl (wpAny_bind (wpAny_field hos hds (x := .none) rfl (wpAny_bind (wpAny_field hos hds (x := vs) rfl (wpAny_pure ?_)))))))
  refine wpAny_bind (HT.slicePart_ ps ?_)
  have hk0 : ¬ ((k == 0) = true) := by
    rw [beq_iff_eq]
    rcases hk with rfl | rfl | rfl <;> decide
  show wpAny _ _ (if (k == 0) = true then _ else _) _ _ s
  rw [if_neg hk0]
  refine wpAny_bind (HT.slicePart_ .none (wpAny_bind (HT.slicePart_ .none (wpAny_bind (wpAny_pure ?_)))))
  show wpAny _ _ (match Builtin.Slice.sliceAdjust none none k (n : Int) with | (lo, hi) => pure (lo, k, Builtin.Slice.slicePlaces lo hi k)) _ _ s
  rcases hk with rfl | rfl | rfl
  · show wpAny _ _ (pure ((n : Int) - 1, (-1 : Int), Builtin.Slice.slicePlaces ((n : Int) - 1) (-1) (-1))) _ _ s
    have : Builtin.Slice.slicePlaces ((n : Int) - 1) (-1) (-1) = n := by
      unfold Builtin.Slice.slicePlaces
      simp only [show ¬ ((-1 : Int) > 0) by decide, if_false]
      split <;> simp <;> omega
    rw [this]
    exact wpAny_pure h
  · show wpAny _ _ (pure ((0 : Int), (1 : Int), Builtin.Slice.slicePlaces 0 (n : Int) 1)) _ _ s
    have := HT.places_gen 0 n
    rw [Nat.sub_zero] at this
    rw [show ((0 : Int)) = ((0 : Nat) : Int) from rfl, this]
    exact wpAny_pure h
  · show wpAny _ _ (pure ((0 : Int), (2 : Int), Builtin.Slice.slicePlaces 0 (n : Int) 2)) _ _ s
    have : Builtin.Slice.slicePlaces 0 (n : Int) 2 = (n + 1) / 2 := by
      unfold Builtin.Slice.slicePlaces
      simp only [show ((2 : Int) > 0) by decide, if_true]
      split <;> omega
    rw [this]
    exact wpAny_pure h
theorem pick_step_tup (items : Array Value) {k : Int} (hk : StepOk k) : ((List.range (if k = 2 then (items.size + 1) / 2 else items.size)).filterMap fun (m : Nat) => items[((if k = -1 then (items.size : Int) - 1 else 0) + (m : Int) * k).toNat]?).toArray = (stepL items.toList k).toArray := by
  rcases hk with rfl | rfl | rfl
  · congr 1
    show (List.range items.size).filterMap (fun (m : Nat) => items[((items.size : Int) - 1 + (m : Int) * -1).toNat]?) = items.toList.reverse
    rw [← PySem.W.krv_all items, ← List.filterMap_reverse, ← PySem.W.krv_range, List.filterMap_map]
    apply fm_congr
    intro m hm
    have := List.mem_range.mp hm
    show items[((items.size : Int) - 1 + (m : Int) * -1).toNat]? = items[items.size - 1 - m]?
    congr 1
    omega
  · congr 1
    show (List.range items.size).filterMap (fun (m : Nat) => items[(0 + (m : Int) * 1).toNat]?) = items.toList
    rw [← PySem.W.krv_all items]
    apply fm_congr
    intro m hm
    show items[(0 + (m : Int) * 1).toNat]? = items[m]?
    congr 1
    omega
  · congr 1
    show (List.range ((items.size + 1) / 2)).filterMap (fun (m : Nat) => items[(0 + (m : Int) * 2).toNat]?) = evens items.toList
    rw [← evens_get, Array.length_toList]
    apply fm_congr
    intro m hm
    show items[(0 + (m : Int) * 2).toNat]? = items.toList[2 * m]?
    rw [Array.getElem?_toList]
    congr 1
    omega
theorem getItem_tuple_step {prog : Program} {w : World} {A : Around} {E : Value → Shared → Prop} {s : Shared} {t sl : Addr} {items : Array Value} {vs : Value} {k : Int} {Q : Value → Shared → Prop} (ht : IsTup s.heap t items) (hs : s.heap.IsSliceOf sl .none .none vs) (ps : IsPart vs (some k)) (hk : StepOk k)
    (h1 : k = 1 → Q (.ref t) s) (h : k ≠ 1 → Q (.ref s.heap.objs.size) { s with heap := s.heap.push { cls := .type "tuple", data := .seq (stepL items.toList k).toArray } })
    (hsz : items.size ≤ sizeLine) : wpAny (model prog w) A (getItem (.ref t) (.ref sl)) Q E s := by
  have htake : sizeOk (.seq (stepL items.toList k).toArray) := by
    show (stepL items.toList k).toArray.size ≤ sizeLine
    have := stepL_len items.toList k
    have e := Array.length_toList (xs := items)
    rw [List.size_toArray]
    exact Nat.le_trans this (by rw [e]; exact hsz)
  obtain ⟨os, hos, hcs, hds⟩ := id hs
  have hTs : s.TypeIs (.ref sl) "slice" := ⟨os, hos, hcs⟩
  unfold getItem
  try with_reducible refine wpAny_holding ?_
  first | refine wpAny_bind (wpAny_pure ?_) | skip
  refine wpAny_bind (wpAny_sequenceKey ht.typeIs (by decide) ?_)
  refine wpAny_bind (wpAny_callSpecial?_slot (name := Str.ofString "__getitem__") ht.typeIs PyProof.Rows.slot_tuple_getitem
    (wpAny_call_entry PyProof.Rows.slot_tuple_getitem ht.typeIs entry_tuple_getitem ?_ (args_tuple_getitem _ _)))
  show wpAny _ _ (Builtin.Tuple.tupleItemsOf (.ref t) >>= _) _ _ s
  refine wpAny_bind (tupleItemsOf_ ht ?_)
  refine wpAny_bind (wpAny_typeOf hTs ?_)
  rw [if_pos (by decide)]
  refine wpAny_bind (sliceApplied_step (n := items.size) hs ps hk ?_)
  by_cases k1 : k = 1
  · subst k1
    have hyes : (((if (1 : Int) = -1 then (items.size : Int) - 1 else 0) == 0 && (1 : Int) == 1 && (if (1 : Int) = 2 then (items.size + 1) / 2 else items.size) == items.size)) = true := by simp
    show wpAny _ _ (if (((if (1 : Int) = -1 then (items.size : Int) - 1 else 0) == 0 && (1 : Int) == 1 && (if (1 : Int) = 2 then (items.size + 1) / 2 else items.size) == items.size)) = true then _ else _) _ _ s
    rw [if_pos hyes]
    refine wpAny_bind ?_
    show wpAny _ _ (typeOf (.ref t) >>= fun T => pure (T == .type "tuple")) _ _ s
    refine wpAny_bind (wpAny_typeOf ht.typeIs (wpAny_pure ?_))
    first
      | rw [if_pos (by decide)]
      | simp only [beq_self_eq_true, if_true]
    first
      | exact wpAny_bind (wpAny_rule (wpAny_pure ⟨_, rfl, wpAny_pure (h1 rfl)⟩))
      | exact wpAny_bind (wpAny_rule (wpAny_bind (wpAny_pure (wpAny_pure ⟨_, rfl, wpAny_pure (h1 rfl)⟩))))
  · have hno : ¬ (((if k = -1 then (items.size : Int) - 1 else 0) == 0 && k == 1 && (if k = 2 then (items.size + 1) / 2 else items.size) == items.size) = true) := by
      intro q
      rw [Bool.and_eq_true, Bool.and_eq_true] at q
      exact k1 (eq_of_beq q.1.2)
    show wpAny _ _ (if ((if k = -1 then (items.size : Int) - 1 else 0) == 0 && k == 1 && (if k = 2 then (items.size + 1) / 2 else items.size) == items.size) = true then _ else _) _ _ s
    rw [if_neg hno, pick_step_tup items hk]
    have h := h k1
    first
      | exact wpAny_bind (m := Builtin.Tuple.tupleExact _) (wpAny_newObj_type (wpAny_pure ⟨_, rfl, wpAny_pure h⟩) htake)
      | exact wpAny_bind (m := Builtin.Tuple.tupleExact _) (wpAny_newObj_type (wpAny_bind (wpAny_pure (wpAny_pure ⟨_, rfl, wpAny_pure h⟩))) htake)
      | exact wpAny_bind (wpAny_bind (m := Builtin.Tuple.tupleExact _) (wpAny_newObj_type (wpAny_pure (wpAny_pure ⟨_, rfl, wpAny_pure h⟩)) htake))
      | exact wpAny_bind (wpAny_bind (m := Builtin.Tuple.tupleExact _) (wpAny_newObj_type (wpAny_pure ⟨_, rfl, wpAny_pure h⟩) htake))
/-- x[::k] -/
def tStp (K : PySem.W.Frag) (te tk : TE) : TE := fun σ H Q => te σ H fun x H1 => tk σ H1 fun y H2 => ∃ a xs k, x = .ref a ∧ y = .int k ∧ StepOk k ∧
  ((SqL K H2 a xs ∧ ∀ p, H2 p = none → Q (.ref p) (upd H2 p (.lst (stepL xs k)))) ∨ (SqT K H2 a xs ∧ (k = 1 → Q (.ref a) H2) ∧ (k ≠ 1 → ∀ p, H2 p = none → Q (.ref p) (upd H2 p (.tup (stepL xs k))))))
theorem pe_stp {e d : Expr} {te tk : TE} {p3 pos : Pos} (he : PE X e te) (hd : PE X d tk) : PE X (.Subscript e (.Slice none none (some d) p3) pos) (tStp X.K te tk) := by
  refine ⟨fun pins s σ H Q I h => ?_⟩
  refine Subscript_ (thn (he.run pins s σ H _ I h) fun v s1 ⟨x, H1, I1, r1, q1⟩ => ?_)
  refine wpAny_Slice (thn (po_none.run pins s1 σ H1 (fun o H2 => o = none ∧ H2 = H1) I1 ⟨rfl, rfl⟩) fun vl s2 ⟨l, H2, I2, pl, el, e2⟩ => ?_)
  subst el e2
  refine thn (po_none.run pins s2 σ H2 (fun o H3 => o = none ∧ H3 = H2) I2 ⟨rfl, rfl⟩) fun vu s3 ⟨u, H3, I3, pu, eu, e3⟩ => ?_
  subst eu e3
  rw [evalPart_some]
  refine thn (hd.run pins s3 σ H3 _ I3 q1) fun vs s4 ⟨y, H4, I4, r4, q4⟩ => ?_
  obtain ⟨a, xs, k, rfl, rfl, hk, q⟩ := q4
  cases r1
  obtain ⟨tk, rfl⟩ := r4
  have ps : IsPart (.int k tk) (some k) := .int k tk
  cases pl
  cases pu
  have I5 : Inv X pins σ H4 { s4 with heap := s4.heap.push { cls := .type "slice", data := .fields #[.none, .none, .int k tk] } } := I4.kept (t' := s4.toks) fun b ob q => Heap.get?_push_of_some _ q
  show wpAny (model X.prog X.w) X.A (subscriptTail e (.Slice none none (some d) p3) (.ref a) (.ref s4.heap.objs.size)) (EP X pins σ Q) X.xe { s4 with heap := s4.heap.push { cls := .type "slice", data := .fields #[.none, .none, .int k tk] } }
  rcases q with ⟨hx, q⟩ | ⟨hx, q1, q⟩
  · obtain ⟨its, r, ht, hz⟩ := I5.list hx
    have hlen := r.length
    refine tail_any (ops := [.ref a, .ref s4.heap.objs.size]) ht.isList.typeIs (PySem.slot_list_getitem.lookup) ?_ (by with_unfolding_all rfl)
    refine wpAny_getItem_list_slice ht.isList (Heap.IsSliceOf.new _ .none .none _) .none .none ps (by rcases hk with rfl | rfl | rfl <;> simp) ?_ (by rw [List.size_toArray]; omega)
    rw [pick_step_list _ hk]
    refine ⟨.ref _, _, I5.laid (t' := s4.toks) (o := .lst (stepL xs k)) (fun b ob q => Heap.get?_push_of_some _ q) (Nat.le_refl _) ?_, rfl, q _ (I5.hok.fresh (Nat.le_refl _))⟩
    exact ⟨Nat.le_trans (stepL_len xs k) hz, _, 0, Vals.step r k, Heap.get?_push_size _ rfl⟩
  · obtain ⟨its, r, ht, hz⟩ := I5.tuple hx
    have hlen := r.length
    refine tail_any (ops := [.ref a, .ref s4.heap.objs.size]) ht.typeIs (PyProof.Rows.slot_tuple_getitem.lookup) ?_ (by with_unfolding_all rfl)
    refine getItem_tuple_step ht (Heap.IsSliceOf.new _ .none .none _) ps hk (fun e => ⟨.ref a, H4, I5, rfl, q1 e⟩) (fun e => ?_) (by rw [List.size_toArray]; omega)
    refine ⟨.ref _, _, I5.laid (t' := s4.toks) (o := .tup (stepL xs k)) (fun b ob q => Heap.get?_push_of_some _ q) (Nat.le_refl _) ?_, rfl, q e _ (I5.hok.fresh (Nat.le_refl _))⟩
    exact ⟨Nat.le_trans (stepL_len xs k) hz, _, Vals.step r k, IsTup.new _ _⟩
end
section
variable {Γ : Cfg} {X : Cx} {XE : XW} {G : Hp} {ρ : List Addr} {H : Hp} {M : Sto} {x y : V} {a b : D}
theorem Reps.evens : ∀ {vs : List V} {ds : List D}, Reps Γ G ρ vs ds → Reps Γ G ρ (Mp.evens vs) (Mp.evens ds)
  | _, _, .nil => .nil
  | _, _, .cons h .nil => .cons h .nil
  | _, _, .cons h (.cons _ t) => .cons h (Reps.evens t)
theorem Reps.reverse : ∀ {vs : List V} {ds : List D}, Reps Γ G ρ vs ds → Reps Γ G ρ vs.reverse ds.reverse
  | _, _, .nil => .nil
  | _, _, .cons h t => by
    rw [List.reverse_cons, List.reverse_cons]
    exact (Reps.reverse t).append (.cons h .nil)
theorem Reps.step {vs : List V} {ds : List D} (r : Reps Γ G ρ vs ds) (k : Int) : Reps Γ G ρ (stepL vs k) (stepL ds k) := by
  unfold stepL
  split
  · exact r.reverse
  · split
    · exact r.evens
    · exact r
end
end Mp
end

section
set_option Elab.async false
set_option linter.all false
set_option maxRecDepth 100000
/-! sorted of a list of data. -/
namespace Mp
open PySem PySem.Spec PySem.W L2 PyProof.Rows
section
variable {X : Cx}
abbrev vle (a b : V × PyData) : Bool := dataLe false (fun x : V × PyData => x.2) a b
def rSortD (K : PySem.W.Frag) : List V → Hp → VK → Prop := fun xs H Q => ∃ (l : Addr) (ws : List (V × PyData)), xs = [V.ref l] ∧ SqL K H l (ws.map (·.1)) ∧ (∀ p ∈ ws, Dp K H p.1 p.2) ∧ AllAlike (ws.map (·.2)) ∧ Sortable (ws.map (·.2)) ∧ (∀ p ∈ ws, p.2.depth ≤ 60) ∧
  ∀ p, H p = none → Q (.ref p) (upd H p (.lst ((ws.mergeSort vle).map (·.1))))
theorem each_of {s : Shared} {pins : List (Addr × Obj)} {σ : L2.St} {H : Hp} (I : L2.Inv X pins σ H s) : ∀ {ws : List (V × PyData)} {us : List Value}, (∀ p ∈ ws, Dp X.K H p.1 p.2) → Vals (ws.map (·.1)) us →
    EachIs (fun u (p : V × PyData) => RelV p.1 u) us ws ∧ EachIs (fun u (p : V × PyData) => ∃ as, Reads s.heap u p.2 as) us ws
  | [], _, _, r => by cases r; exact ⟨.nil, .nil⟩
  | w :: ws, _, h, r => by
    cases r with
    | cons r1 r2 =>
      obtain ⟨a, b⟩ := each_of I (fun p hp => h p (List.mem_cons_of_mem _ hp)) r2
      exact ⟨.cons r1 a, .cons (Dp.reads I _ _ _ (h w List.mem_cons_self) r1) b⟩
theorem vals_each : ∀ {ws : List (V × PyData)} {us : List Value}, EachIs (fun u (p : V × PyData) => RelV p.1 u) us ws → Vals (ws.map (·.1)) us
  | _, _, .nil => .nil
  | _, _, .cons h t => .cons h (vals_each t)
theorem call_sortD (hu : X.A.units + 64 < cLine) : CallR X (.builtin "sorted") (rSortD X.K) := by
  intro pins s σ H xs us Q I r h
  obtain ⟨l, ws, rfl, hs, hd, hal, hk, hdep, q⟩ := h
  obtain ⟨its, rv, hl, hz⟩ := I.list hs
  rw [Vals.ref1 r]
  obtain ⟨e1, e2⟩ := each_of I hd rv
  have hlen := rv.length
  refine sorted_data (enc := fun p : V × PyData => p.2) hl.isList e1 e2 hal hk (by rw [List.length_map] at hz; exact hz) (fun p hp => by have := hdep p hp; omega) fun out h1 h2 => ?_
  obtain ⟨ep, he⟩ := sortedAll_at s.heap its out.toArray
  have hw := vals_each h2
  exact ⟨.ref _, upd H (s.heap.objs.size + 1) (.lst ((ws.mergeSort vle).map (·.1))), I.laid (t' := s.toks) (fun _ _ => sortedAll_old) (Nat.le_succ _) ⟨by rw [List.length_map, List.length_mergeSort]; rw [List.length_map] at hz; exact hz, out, ep, hw, he⟩, rfl, q _ (I.hok.fresh (Nat.le_succ _))⟩
end
end Mp
end

section
set_option Elab.async false
set_option linter.all false
set_option maxRecDepth 100000
namespace Mp
open PySem PySem.Spec PySem.W L2 PyProof.Rows
section
variable {Γ : Cfg} {X : Cx} {G H : Hp} {ρ : List Addr}
theorem pys_map : ∀ ds : List D, pys ds = ds.map py
  | [] => by rw [pys]; rfl
  | d :: ds => by rw [pys, pys_map ds]; rfl
theorem sort_pairs (vs : List V) (ds : List D) (h : vs.length = ds.length) : ∃ zs : List (V × D), zs.Perm (vs.zip ds) ∧ ((vs.zip (ds.map py)).mergeSort vle).map (·.1) = zs.map (·.1) ∧ sortD ds = zs.map (·.2) := by
  have e1 : vs.zip (ds.map py) = (vs.zip ds).map fun p => (p.1, py p.2) := by
    rw [List.zip_map_right]
    rfl
  refine ⟨(vs.zip ds).mergeSort fun a b => dataLe false py a.2 b.2, List.mergeSort_perm _ _, ?_, ?_⟩
  · rw [e1, ← List.map_mergeSort (r := fun a b : V × D => dataLe false py a.2 b.2) (s := vle) (f := fun p : V × D => (p.1, py p.2)) (fun a _ b _ => rfl), List.map_map]
    rfl
  · have e2 : ds = (vs.zip ds).map (·.2) := by
      rw [List.map_snd_zip (by omega)]
    unfold sortD
    conv => lhs; rw [e2]
    rw [← List.map_mergeSort (r := fun a b : V × D => dataLe false py a.2 b.2) (s := fun a b => dataLe false py a b) (f := fun p : V × D => p.2) (fun a _ b _ => rfl)]
end
end Mp
namespace Mp
open PySem PySem.Spec PySem.W L2 PyProof.Rows
section
variable {Γ : Cfg} {X : Cx} {G H : Hp} {ρ : List Addr}
theorem reps_zip : ∀ {vs : List V} {ds : List D}, Reps Γ G ρ vs ds → ∀ p ∈ vs.zip ds, Rep Γ G ρ p.1 p.2
  | _, _, .nil, p, h => by simp at h
  | _, _, .cons r t, p, h => by
    rcases List.mem_cons.mp h with e | h
    · subst e; exact r
    · exact reps_zip t p h
theorem reps_of_zip : ∀ {zs : List (V × D)}, (∀ p ∈ zs, Rep Γ G ρ p.1 p.2) → Reps Γ G ρ (zs.map (·.1)) (zs.map (·.2))
  | [], _ => .nil
  | z :: zs, h => .cons (h z List.mem_cons_self) (reps_of_zip fun p hp => h p (List.mem_cons_of_mem _ hp))
theorem pure_mem : ∀ {ds : List D}, pures ds = true → ∀ d ∈ ds, pure? d = true
  | [], _, d, h => by cases h
  | e :: ds, p, d, h => by
    rw [pures, Bool.and_eq_true] at p
    rcases List.mem_cons.mp h with e | h
    · subst e; exact p.1
    · exact pure_mem p.2 d h
/-- what is sorted, and how -/
def SortS (K : PySem.W.Frag) (vs : List V) (H : Hp) (Q : VK) : Prop := ∃ ws : List (V × PyData), ws.map (·.1) = vs ∧ (∀ p ∈ ws, Dp K H p.1 p.2) ∧ AllAlike (ws.map (·.2)) ∧ Sortable (ws.map (·.2)) ∧ (∀ p ∈ ws, p.2.depth ≤ 60) ∧
  ∀ p, H p = none → Q (.ref p) (upd H p (.lst ((ws.mergeSort vle).map (·.1))))
theorem sort_ws (hK : X.K = Γ.K) (s : Same G H) {vs : List V} {ds : List D} {Q : VK} (r : Reps Γ G ρ vs ds) (ok : sortOk ds = true)
    (q : ∀ p us, H p = none → Reps Γ G ρ us (sortD ds) → Q (.ref p) (upd H p (.lst us))) : SortS X.K vs H Q := by
  simp only [sortOk, Bool.and_eq_true, Bool.or_eq_true, List.all_eq_true, decide_eq_true_eq] at ok
  obtain ⟨⟨⟨p1, p2⟩, p3⟩, p4⟩ := ok
  have hl := r.len
  have ef : (vs.zip (ds.map py)).map (·.1) = vs := List.map_fst_zip (by rw [List.length_map]; omega)
  have es : (vs.zip (ds.map py)).map (·.2) = ds.map py := List.map_snd_zip (by rw [List.length_map]; omega)
  have mem : ∀ p ∈ vs.zip (ds.map py), ∃ d ∈ ds, p.2 = py d ∧ Rep Γ G ρ p.1 d := by
    intro p hp
    rw [List.zip_map_right] at hp
    obtain ⟨z, hz, e⟩ := List.mem_map.mp hp
    subst e
    exact ⟨z.2, (List.of_mem_zip hz).2, rfl, reps_zip r z hz⟩
  refine ⟨vs.zip (ds.map py), ef, fun p hp => ?_, ?_, ?_, fun p hp => ?_, fun p hp => ?_⟩
  · obtain ⟨d, hd, e, rr⟩ := mem p hp
    rw [e]
    exact hK ▸ Rep.dp s rr (pure_mem p1 d hd)
  · rw [es]
    intro d hd d' hd'
    obtain ⟨a, ha, rfl⟩ := List.mem_map.mp hd
    obtain ⟨b, hb, rfl⟩ := List.mem_map.mp hd'
    exact p3 a ha b hb
  · rw [es]
    rcases p4 with p4 | p4
    · refine .inl fun d hd => ?_
      obtain ⟨a, ha, rfl⟩ := List.mem_map.mp hd
      have := p4 a ha
      cases a with
      | tup xs => cases xs with
        | nil => simp [tupB?] at this
        | cons x xs => exact ⟨py x, pys xs, by rw [py, pys]⟩
      | _ => simp [tupB?] at this
    · refine .inr fun d hd => ?_
      obtain ⟨a, ha, rfl⟩ := List.mem_map.mp hd
      have := p4 a ha
      cases a <;> simp [flatB?] at this <;> exact ⟨by simp [py], by simp [py]⟩
  · obtain ⟨d, hd, e, _⟩ := mem p hp
    rw [e, depth_py]
    exact p2 d hd
  · obtain ⟨zs, z1, z2, z3⟩ := sort_pairs vs ds hl
    rw [z2]
    refine q p _ hp ?_
    rw [z3]
    exact reps_of_zip fun x hx => reps_zip r x (z1.mem_iff.mp hx)
theorem sort_rule (hK : X.K = Γ.K) (s : Same G H) {l : Addr} {vs : List V} {ds : List D} {Q : VK} (hs : SqL Γ.K H l vs) (r : Reps Γ G ρ vs ds) (ok : sortOk ds = true)
    (q : ∀ p us, H p = none → Reps Γ G ρ us (sortD ds) → Q (.ref p) (upd H p (.lst us))) : rSortD X.K [.ref l] H Q := by
  obtain ⟨ws, e, h1, h2, h3, h4, h5⟩ := sort_ws hK s r ok q
  exact ⟨l, ws, rfl, by rw [e]; exact hK ▸ hs, h1, h2, h3, h4, h5⟩
end
end Mp
end

section
set_option Elab.async false
set_option linter.all false
set_option maxRecDepth 100000
/-! sorted, list, len of an object of the store. -/
namespace Mp
open PySem PySem.Spec PySem.W L2 PyProof.Rows
mutual
theorem reads_lt {h : Heap} : ∀ (d : PyData) {v : Value} {as : List Addr}, alike d d = true → Reads h v d as → ∀ a ∈ as, a < h.objs.size
  | .none, _, _, _, r, a, m => by cases r; cases m
  | .bool _, _, _, _, r, a, m => by cases r; cases m
  | .int _, _, _, _, r, a, m => by cases r; cases m
  | .str _, _, _, _, r, a, m => by cases r; cases m
  | .list xs, _, _, hal, r, a, m => by
    cases r with
    | list h1 h2 h3 h4 =>
      rcases List.mem_cons.mp m with e | m
      · rw [e]; exact Heap.lt_size h1
      · exact readsAll_lt xs (by simpa [alike] using hal) h4 a m
  | .tuple xs, _, _, hal, r, a, m => by
    cases r with
    | tuple h1 h2 h3 h4 => exact readsAll_lt xs (by simpa [alike] using hal) h4 a m
  | .dict xs, _, _, hal, r, a, m => absurd hal (by simp [alike])
theorem readsAll_lt {h : Heap} : ∀ (d : List PyData) {v : List Value} {as : List Addr}, alikeAll d d = true → ReadsAll h v d as → ∀ a ∈ as, a < h.objs.size
  | [], _, _, _, r, a, m => by cases r; cases m
  | d :: ds, _, _, hal, r, a, m => by
    cases r with
    | cons h1 h2 =>
      rcases List.mem_append.mp m with m | m
      · exact reads_lt d (alike_all_cons hal).1 h1 a m
      · exact readsAll_lt ds (alike_all_cons hal).2 h2 a m
end
section
variable {X : Cx}
/-- a walk's items are in, the rest of sorted -/
theorem sorted_tail {pins : List (Addr × Obj)} {σ : L2.St} {H : Hp} {s : Shared} {h' : Heap} {tk : Nat} {acc : Array Value} {vs : List V} {Q : VK} (hu : X.A.units + 64 < cLine) (I1 : L2.Inv X pins σ H { s with heap := h', toks := tk }) (rv : Vals vs acc.toList) (hz : acc.toList.length ≤ sizeLine) (h : SortS X.K vs H Q) :
    wpAny (model X.prog X.w) X.A.in1 (newList acc.toList >>= fun l => holding [l] (call (.builtin "list.sort") [l] []) >>= fun _ => ret l)
      (fun fin s' => ∃ v, fin = Fin.done (Flow.ret v) ∧ EP X pins σ Q v s') X.xe { s with heap := h', toks := tk } := by
  obtain ⟨ws, ew, hd, hal, hk, hdep, q⟩ := h
  subst ew
  obtain ⟨e1, e2⟩ := each_of I1 hd rv
  have hlen := rv.length
  rw [List.length_map] at hlen
  refine wpAny_bind (wpAny_newList ?_ hz)
  have hoL : (h'.push (seqObj "list" acc.toList.toArray 0)).get? h'.objs.size = some (seqObj "list" acc.toList.toArray 0) := Heap.get?_push_size _ rfl
  show wpAny _ _ _ _ _ { s with heap := h'.push (seqObj "list" acc.toList.toArray 0), toks := tk }
  have e3 : EachIs (fun v (b : V × PyData) => ∃ as, Reads (h'.push (seqObj "list" acc.toList.toArray 0)) v b.2 as ∧ h'.objs.size ∉ as) acc.toList ws :=
    (each_mem e2).mono fun v b ⟨⟨as, r⟩, hb⟩ => ⟨as, PyProof.Rows.Reads.keeps (fun _ _ q => Heap.get?_push_of_some _ q) r, fun hm => Nat.lt_irrefl _ (reads_lt b.2 (hal _ (List.mem_map.mpr ⟨b, hb, rfl⟩) _ (List.mem_map.mpr ⟨b, hb, rfl⟩)) r _ hm)⟩
  refine wpAny_bind (wpAny_holding (list_sort_data (s := { s with heap := h'.push (seqObj "list" acc.toList.toArray 0), toks := tk }) (enc := fun p : V × PyData => p.2) hoL e1 e3 hal hk (by rw [hlen]; exact hz) (fun p hp => by
      have := hdep p hp
      show X.A.in1.units + 1 + p.2.depth < cLine
      have h1 : X.A.in1.units ≤ X.A.units + 1 := by first | exact Nat.le_refl _ | (show X.A.units + 1 ≤ X.A.units + 1; omega)
      omega) fun out h1 h2 => ?_))
  obtain ⟨e', he'⟩ := PyProof.Rows.sortedHeap_at (vs := acc.toList) (out := out.toArray) hoL
  have hw := vals_each h2
  refine wpAny_pure ⟨_, rfl, .ref h'.objs.size, upd H h'.objs.size (.lst ((ws.mergeSort vle).map (·.1))), I1.laid (t' := tk) (fun b u e => ?_) (Nat.le_refl _)
    (show ObjOk X.prog X.w _ _ _ (.lst ((ws.mergeSort vle).map (·.1))) from ⟨by rw [List.length_map, List.length_mergeSort, hlen]; exact hz, out, e', hw, he'⟩), rfl, q _ (I1.hok.fresh (Nat.le_refl _))⟩
  have hb : b < h'.objs.size := Heap.lt_size e
  rw [PyProof.Rows.sortedHeap_old (Nat.ne_of_lt hb) (by rw [size_push']; exact Nat.lt_succ_of_lt hb)]
  exact Heap.get?_push_of_some _ e
/-- sorted(d): its keys -/
def rSortO (K : PySem.W.Frag) : List V → Hp → VK → Prop := fun xs H Q => ∃ d, xs = [V.ref d] ∧ ((∃ kvs : List (L2.Key × V), Rd H d (.dK kvs) ∧ SortS K (kvs.map fun kv => kV kv.1) H Q) ∨ (∃ kvs : List (List L2.Key × V), Rd H d (.dT kvs) ∧ ∀ bs, IsKeys H kvs bs → SortS K (bs.map V.ref) H Q))
theorem call_sortO (hc : X.calm = true) (hu : X.A.units + 64 < cLine) : CallR X (.builtin "sorted") (rSortO X.K) := by
  intro pins s σ H xs us Q I r h
  obtain ⟨d, rfl, h⟩ := h
  obtain ⟨u, rfl, rx⟩ := vals1 r
  cases rx
  refine Calls.call_function_entry PyProof.Rows.kind_sorted PyProof.Rows.plain_sorted PyProof.Rows.entry_sorted (PyProof.Rows.args_sorted1 _) ?_
  unfold Builtin.«sorted»
  refine wpAny_bind (m := checkCount "sorted" 1 1 _) (wpAny_pure ?_)
  rcases h with ⟨kvs, hd, hS⟩ | ⟨kvs, hd, hS⟩
  · obtain ⟨z, lo, vs, rel, dd⟩ := dk_rd I.hok hd
    obtain ⟨ep, hat⟩ := dd.dictAt
    have hl : kvs.length = vs.length := Paired.length rel
    refine wpAny_bind (PySem.W.kdu_collect (A := X.A.in1) (PySem.W.kdl_dict (knd := mixKind X.prog X.w) (kvs := vs) (ep := ep) lo) (I.ok.hd hc) hat (by omega) fun h' tk acc hk hacc => ?_)
    have rv : Vals (kvs.map fun kv => kV kv.1) acc.toList := by
      have el : acc.toList.length = acc.size := by simp
      refine vals_of_at (by rw [List.length_map, el, hacc.1, hl]) fun j x w h1 h2 => ?_
      obtain ⟨k, y, hky, hi⟩ := hacc.2 j w (by rw [← Array.getElem?_toList]; exact h2)
      have e1 : (kvs.map (·.1))[j]? = some k := by
        rw [KV.keys rel, List.getElem?_map, hky] <;> rfl
      have e2 : (kvs.map fun kv => kV kv.1)[j]? = some (kV k) := by
        have e3 : (kvs.map fun kv => kV kv.1) = (kvs.map (·.1)).map kV := by rw [List.map_map] <;> rfl
        rw [e3, List.getElem?_map, e1] <;> rfl
      rw [e2] at h1
      cases h1
      exact keyIs_rel hi
    exact sorted_tail hu (I.kept hk) rv (by have := rv.length; rw [List.length_map] at this; omega) hS
  · obtain ⟨z, hs, ks, pr, o, es, ep, ho, hx, hdt, he, hn⟩ := (show ObjOk X.prog X.w H s.heap d (.dT kvs) from hd.ok I.hok)
    have l1 : es.size = ks.length := size_of_entries he
    have l2 : kvs.length = ks.length := Paired.length pr
    refine wpAny_bind (PySem.W.kdu_collect (A := X.A.in1) (kdl_raw hs hx hdt) (I.ok.hd hc) ho (by omega) fun h' tk acc hk it => ?_)
    have ea : acc.toList = ks.map fun x => Value.ref x.2.1 := by
      have hl : acc.toList.length = ks.length := by rw [Array.length_toList, it.1]; exact l1
      apply List.ext_getElem?
      intro j
      rw [List.getElem?_map]
      cases hj : acc.toList[j]? with
      | none =>
        have h1 := List.getElem?_eq_none_iff.mp hj
        rw [List.getElem?_eq_none (by omega)]
        all_goals rfl
      | some v =>
        obtain ⟨en, hen, hv⟩ := it.2 j v (by rw [← Array.getElem?_toList]; exact hj)
        have qe := entry_at he j
        rw [hen] at qe
        cases hb : ks[j]? with
        | none =>
          rw [hb] at qe
          exact nomatch (show some en = none from qe)
        | some b =>
          rw [hb] at qe
          have e2 : en = entryOfKey (tupleKind (mixKind X.prog X.w)) b := Option.some.inj qe
          rw [hv, e2]
          all_goals rfl
    have eb : acc.toList = (ks.map fun x => x.2.1).map Value.ref := by rw [ea, List.map_map]; all_goals rfl
    have rv : Vals ((ks.map fun x => x.2.1).map V.ref) acc.toList := by rw [eb]; exact vals_refs _
    exact sorted_tail hu (I.kept hk) rv (by have := rv.length; rw [List.length_map, List.length_map] at this; omega) (hS _ (isKeys_of pr))
/-! list(d), len(d), read -/
theorem call_listDk (hc : X.calm = true) : CallR X (.type "list") (fun xs H Q => ∃ p kvs, xs = [V.ref p] ∧ Rd H p (.dK kvs) ∧ ∀ q, H q = none → Q (.ref q) (upd H q (.lst (kvs.map fun kv => kV kv.1)))) := call_listD hc
theorem call_lenDk : CallR X (.builtin "len") (fun xs H Q => ∃ a kvs, xs = [V.ref a] ∧ Rd H a (.dK kvs) ∧ Q (.int kvs.length) H) := by
  intro pins s σ H xs us Q I r h
  obtain ⟨p, kvs, rfl, hp, q⟩ := h
  obtain ⟨u, rfl, rx⟩ := vals1 r
  cases rx
  exact d_len I hp fun t s1 I1 => ⟨.int kvs.length, H, I1, ⟨_, rfl⟩, q⟩
theorem call_lenDt : CallR X (.builtin "len") (fun xs H Q => ∃ (a : Addr) (kvs : List (List L2.Key × V)), xs = [V.ref a] ∧ Rd H a (.dT kvs) ∧ Q (.int ((kvs.length : Nat) : Int)) H) := by
  intro pins s σ H xs us Q I r h
  obtain ⟨p, kvs, rfl, hp, q⟩ := h
  obtain ⟨u, rfl, rx⟩ := vals1 r
  cases rx
  obtain ⟨z, hd, ys, rel, dd⟩ := dt_rd I.hok hp
  have hl : kvs.length = ys.length := Paired.length rel
  refine call_len_dictH hd dd (by rw [← hl]; rw [sizeLine_eq] at z; omega) ?_
  rw [← hl]
  exact ⟨.int ((kvs.length : Nat) : Int), H, I.tok _, ⟨_, rfl⟩, q⟩
end
/-! ### key tuples stand for good -/
section
variable {Γ : Cfg} {G H : Hp} {ρ : List Addr} {M : Sto}
open Classical in
theorem Core.tups (c : Core Γ G ρ M H) (bs : List Addr) (hb : ∀ b ∈ bs, ∃ xs, H b = some (.tup xs)) : ∃ G', Adv G ρ H G' ρ H ∧ Core Γ G' ρ M H ∧ ∀ b ∈ bs, G' b = H b := by
  refine ⟨fun b => if G b = none ∧ b ∈ bs then H b else G b, ?_⟩
  have sub : Sub G (fun b => if G b = none ∧ b ∈ bs then H b else G b) := fun b o e => by
    show (if G b = none ∧ b ∈ bs then H b else G b) = some o
    rw [if_neg (fun z => by rw [e] at z; cases z.1)]; exact e
  have off : ∀ a, (∃ o, H a = some o ∧ NoTup o) → G a = none → (if G a = none ∧ a ∈ bs then H a else G a) = none := by
    intro a ⟨o, e, no⟩ g
    rw [if_neg (fun z => by
      obtain ⟨xs, e2⟩ := hb a z.2
      rw [e] at e2; cases e2
      exact no xs rfl)]
    exact g
  refine ⟨⟨sub, Pre.refl _, fun a m n => absurd m n, fun _ _ _ e => e, fun b g h => off b h g⟩, ⟨fun b o e => ?_, fun a m => off a (c.thereN m) (c.off a m), c.nd, c.len, fun i o a e1 e2 => ObRel.mono sub (Pre.refl _) rfl (c.st i o a e1 e2)⟩, fun b hm => ?_⟩
  · have e : (if G b = none ∧ b ∈ bs then H b else G b) = some o := e
    split at e
    · exact e
    · exact c.gh b o e
  · show (if G b = none ∧ b ∈ bs then H b else G b) = H b
    by_cases g : G b = none
    · rw [if_pos ⟨g, hm⟩]
    · rw [if_neg (fun z => g z.1)]
      cases e : G b with
      | none => exact absurd e g
      | some o => exact (c.gh b o e).symm
theorem keyB_rep (k : L2.Key) : Rep Γ G ρ (kV k) (keyB k) := by
  cases k with
  | inl i => exact .int i
  | inr s => exact .str s
theorem keysB_reps : ∀ ks : List L2.Key, Reps Γ G ρ (ks.map kV) (ks.map keyB)
  | [] => .nil
  | k :: ks => .cons (keyB_rep k) (keysB_reps ks)
theorem keyBs_reps {κ : Type} : ∀ {kvs : List (L2.Key × κ)}, Reps Γ G ρ (kvs.map fun kv => kV kv.1) (kvs.map fun p => keyB p.1)
  | [] => .nil
  | k :: ks => .cons (keyB_rep k.1) keyBs_reps
theorem isKeys_tup {kvs : List (List L2.Key × V)} {bs : List Addr} (h : IsKeys H kvs bs) : ∀ b ∈ bs, ∃ xs, H b = some (.tup xs) := by
  induction h with
  | nil => intro b m; cases m
  | cons h t ih =>
    intro b m
    rcases List.mem_cons.mp m with e | m
    · rw [e]; exact ⟨_, h⟩
    · exact ih b m
theorem isKeys_reps {kvs : List (List L2.Key × V)} {bs : List Addr} {G' : Hp} (h : IsKeys H kvs bs) (g : ∀ b ∈ bs, G' b = H b) : Reps Γ G' ρ (bs.map V.ref) (kvs.map fun p => D.tup (p.1.map keyB)) := by
  induction h with
  | nil => exact .nil
  | cons h t ih =>
    refine .cons (.tup (.inl ((g _ List.mem_cons_self).trans h)) (keysB_reps _)) (ih fun b m => g b (List.mem_cons_of_mem _ m))
end
end Mp
end

section
set_option Elab.async false
set_option linter.all false
set_option maxRecDepth 100000
/-! list.extend by any list, any tuple. -/
namespace Mp
open PySem PySem.Spec L2 PyProof.Rows AutoSeq1
set_option maxRecDepth 8000 in
theorem ext_any (T : String) (hT : T = "tuple" ∨ T = "list") (l : Addr) (xs : Array Value) (n : Nat) (b : Addr) (ys : Array Value) (m : Nat) (dd : Option Addr) (sl : Array (Option Value)) (h0 : ¬(!xs.isEmpty && Builtin.List.listTooLong (xs.size + ys.size)) = true) (h1 : xs.size ≤ sizeLine)
    (h2 : xs.size + ys.size ≤ sizeLine + 1) : Meets (Builtin.«list.extend» ⟨[.ref l, .ref b], []⟩) (fun _ R s => s.heap.get? l = some { cls := .type "list", data := .seq xs n } ∧
      s.heap.get? b = some ⟨.type T, dd, .seq ys m, sl⟩ ∧ (T = "list" → dd = none) ∧ R (.ok (.ret .none)) { s with heap := s.heap.update l (Obj.mapSeq (· ++ ys)) }) :=
  .of_wp fun prog w A R s h => by
    obtain ⟨hp, g, d, tk, os⟩ := s
    obtain ⟨hl, hb, hd, h⟩ := h
    have f1 := idx_int
    have f2 := AutoSeq1.sub_tuple_tuple
    have f3 := AutoSeq1.sub_list_list
    have f4 := AutoSeq1.sub_tuple_list
    have f5 := AutoSeq1.sub_list_tuple
    have hz : (xs ++ ys).size ≤ sizeLine + 1 := Array.size_append ▸ h2
    rcases hT with rfl | rfl
    · wp_walk using (wpAny_updateSeq hl rfl (hz := h1) (_hz' := hz)), AutoSeq1.wpAny_loadPart' hl, AutoSeq1.wpAny_loadPart' hb
      exact ⟨_, rfl, h⟩
    · cases hd rfl
      wp_walk using (wpAny_updateSeq hl rfl (hz := h1) (_hz' := hz)), AutoSeq1.wpAny_loadPart' hl, AutoSeq1.wpAny_loadPart' hb
      exact ⟨_, rfl, h⟩
section
variable {X : Cx}
/-- l.extend(y) where y is any list or tuple -/
def rExtA (K : PySem.W.Frag) : V → List V → Hp → VK → Prop := fun x vs H Q => ∃ l b xs zs, x = .ref l ∧ vs = [.ref b] ∧ H l = some (.lst xs) ∧ (SqL K H b zs ∨ SqT K H b zs) ∧ xs.length + zs.length ≤ sizeLine ∧ Q .non (upd H l (.lst (xs ++ zs)))
theorem mt_extA : MtM X "list.extend" (rExtA X.K) := by
  intro pins s σ H x vs v us Q I rx rv h
  obtain ⟨l, b, xs, zs, rfl, rfl, hH, hB, hz, q⟩ := h
  cases rx
  obtain ⟨u, rfl, ru⟩ := rv.one
  cases ru
  obtain ⟨z, its, n, r, hl, e⟩ := I.lstM hH
  have hb : ∃ (T : String) (its2 : List Value) (m : Nat) (dd : Option Addr) (sl : Array (Option Value)), (T = "tuple" ∨ T = "list") ∧ (T = "list" → dd = none) ∧ Vals zs its2 ∧ s.heap.get? b = some ⟨.type T, dd, .seq its2.toArray m, sl⟩ := by
    rcases hB with hB | hB
    · obtain ⟨its2, r2, ⟨⟨c, d, dt, sl⟩, m, ho, hc, hd, hdt⟩, _⟩ := I.list hB
      simp only at hc hd hdt
      subst hc hd hdt
      exact ⟨"list", its2, m, none, sl, .inr rfl, fun _ => rfl, r2, ho⟩
    · obtain ⟨its2, r2, ⟨⟨c, d, dt, sl⟩, ho, hc, m, hdt⟩, _⟩ := I.tuple hB
      simp only at hc hdt
      subst hc hdt
      exact ⟨"tuple", its2, m, d, sl, .inl rfl, fun z => absurd z (by decide), r2, ho⟩
  obtain ⟨T, its2, m, dd, sl, hT, hdd, r2, e2⟩ := hb
  have hl2 := r2.length
  have hsz : its.toArray.size + its2.toArray.size ≤ sizeLine := by
    simp only [List.size_toArray]
    omega
  have hlong : ¬ (!its.toArray.isEmpty && Builtin.List.listTooLong (its.toArray.size + its2.toArray.size)) = true := by
    rw [notLongL hsz, Bool.and_false]
    decide
  refine call_meets F.slot_list_extend ⟨_, e, rfl⟩ F.entry_list_extend (F.args_list_extend_2 _ _) (ext_any T hT l its.toArray n b its2.toArray m dd sl hlong (by omega) (by omega)) ⟨e, e2, hdd, ?_⟩
  exact ⟨.non, _, I.lset (its' := its ++ its2) hH e (by simp) (r.append r2) (by simp only [List.length_append]; omega), rfl, q⟩
end
end Mp
end

section
set_option Elab.async false
set_option linter.all false
set_option maxRecDepth 100000
/-! a, b, *c = a tuple. -/
namespace Mp
open PySem PySem.Spec L2 PyProof.Rows
section
variable {prog : Program} {w : World} {A : Around} {E : Value → Shared → Prop} {s : Shared}
/-- a walk from the k-th item on -/
theorem walks_from {I : Addr} {fp wr : List Addr} {n : Nat} {P : Nat → Value → Prop} {St : Nat → Heap → Prop} (W : Walks prog w A I fp wr n P St) (k : Nat) (hk : k ≤ n) : Walks prog w A I fp wr (n - k) (fun i => P (k + i)) (fun i => St (k + i)) where
  sub := W.sub
  frame := fun i h h' st hf => W.frame (k + i) h h' st hf
  item := fun i s Q E hi st hQ => W.item (k + i) s Q E (by omega) st hQ
  done := fun s Q E st hQ => W.done s Q E (by rw [show k + (n - k) = n by omega] at st; exact st) hQ
  self := fun i s Q E st hQ => W.self (k + i) s Q E st hQ
theorem unpack_star {t : Addr} {items : List Value} {n : Nat} {Q : List Value → Shared → Prop} (hh : A.handled = none) (ht : IsTup s.heap t items.toArray) (hn : n ≤ items.length) (hz : items.length ≤ sizeLine)
    (hQ : ∀ (h' : Heap) (tk : Nat), (∀ b o, s.heap.get? b = some o → h'.get? b = some o) → s.toks ≤ tk → Q (items.take n ++ [.ref h'.objs.size]) { s with heap := h'.push { cls := .type "list", data := .seq (items.drop n).toArray }, toks := tk }) :
    wpAny (model prog w) A (unpackItems (.ref t) (n + 1) (some n)) Q E s := by
  have hlt : t ≠ s.heap.objs.size := by obtain ⟨o, ho, _⟩ := ht; exact Nat.ne_of_lt (Heap.lt_size ho)
  unfold unpackItems
  refine wpAny_bind ?_
  unfold notIterableAtAll
  refine wpAny_bind (wpAny_specialOf ht.typeIs slot_tuple_iter.lookup (wpAny_pure ?_))
  simp only [Bool.false_eq_true, if_false]
  refine wpAny_bind (wpAny_holding (iter_tuple ht ?_))
  refine wpAny_bind (wpAny_holding (draw_tuple hlt n 0 _ _ ⟨_, Heap.get?_push_size _ rfl, rfl, rfl⟩ (ht.push _) (by simpa using hn) fun h1 hit1 hs1 => ?_))
  have e1 : List.take n (List.drop 0 items.toArray.toList) = items.take n := by simp
  have ht1 : IsTup h1 t items.toArray := (ht.push _).extBut hs1.extBut hlt
  rw [e1, if_neg (by rw [List.length_take]; omega)]
  rw [Nat.zero_add] at hit1
  have k1 : ∀ b o, s.heap.get? b = some o → h1.get? b = some o := fun b o e => hs1.extBut b o (Nat.ne_of_lt (Heap.lt_size e)) (Heap.get?_push_of_some _ e)
  have hI : s.heap.objs.size < h1.objs.size := by obtain ⟨o, ho, _⟩ := hit1; exact Heap.lt_size ho
  have W := (walks_from (Walks.tuple (prog := prog) (w := w) (A := A.in1) hh s.heap.objs.size t hlt items.toArray) n (by simpa using hn)).toS
  refine wpAny_bind (wpAny_holding (wpAny_collect_iter (.inr (.inr (.inr rfl))) W (fun i s' st => ?_) ⟨hit1, ht1⟩ (fun b hb => ?_) (by simp) (fun s2 acc mv hacc => ?_) (by simp only [List.size_toArray]; omega)))
  · obtain ⟨⟨o, ho, hc, _⟩, _⟩ := st
    exact ⟨o, ho, hc⟩
  · simp only [List.mem_cons, List.not_mem_nil, or_false] at hb
    rcases hb with rfl | rfl
    · exact hI
    · obtain ⟨o, ho, _⟩ := ht1; exact Heap.lt_size ho
  · have ea : acc.toList = items.drop n := by
      obtain ⟨h1, h2⟩ := hacc
      apply List.ext_getElem?
      intro j
      rw [List.getElem?_drop]
      cases e : acc.toList[j]? with
      | some v =>
        have := h2 j v (by rw [← Array.getElem?_toList]; exact e)
        simpa using this.symm
      | none =>
        rw [List.getElem?_eq_none_iff] at e
        symm
        rw [List.getElem?_eq_none_iff]
        simp only [Array.length_toList] at e
        simp only [List.size_toArray] at h1
        omega
    rw [ea, if_neg (by omega)]
    obtain ⟨h2, g2, d2, tk2, os2⟩ := s2
    obtain ⟨m1, m2, m3, m4, m5⟩ := mv
    simp only at m1 m2 m3 m4 m5
    subst m2 m3 m4
    refine wpAny_bind (wpAny_newList ?_ (by simp only [List.length_take, List.length_drop]; omega))
    refine wpAny_pure ?_
    have e2 : (items.drop n).length - (n + 1 - 1 - n) = (items.drop n).length := by omega
    rw [e2, List.take_length, List.drop_length, List.append_nil]
    have k2 : ∀ b o, s.heap.get? b = some o → h2.get? b = some o := fun b o e => m1 b o (by simp only [List.mem_cons, List.not_mem_nil, or_false]; exact Nat.ne_of_lt (Heap.lt_size e)) (k1 b o e)
    exact hQ h2 tk2 k2 m5
end
section
variable {X : Cx}
/-- a, b, *c = a tuple: n targets, then the rest as a new list -/
def gStar (K : PySem.W.Frag) (n : Nat) (t : TGs) : TG := fun v σ H Q => ∃ a xs, v = .ref a ∧ SqT K H a xs ∧ n ≤ xs.length ∧ ∀ L, H L = none → t (xs.take n ++ [.ref L]) σ (upd H L (.lst (xs.drop n))) Q
theorem pg_star {es es' : List Expr} {k n : Nat} {pos : Pos} {t : TGs} (hc : X.calm = true) (h : PGs X es' t) (hl : (assignEach es X.env).length = n + 1) (hm : (assignEach es X.env).map (·.2) = (assignEach es' X.env).map (·.2)) (hs : (assignEach es X.env).findIdx? (·.1) = some n) :
    PG X (.Tuple es k pos) (gStar X.K n t) := by
  refine ⟨fun pins s σ H v u Q I r hw => ?_⟩
  obtain ⟨a, xs, e1, hq, hle, hw⟩ := hw
  subst e1
  cases r
  obtain ⟨its, rv, ht, hz⟩ := I.tuple hq
  have hlen := rv.length
  rw [assign_Tuple]
  refine wpAny_bind (wpAny_standAt ?_)
  unfold unpack
  rw [hl, hs, hm]
  refine wpAny_bind (wpAny_holding (unpack_star (I.ok.hd hc) ht (by omega) (by omega) fun h' tk k htk => ?_))
  have I1 : Inv X pins σ H { s with heap := h', toks := tk } := I.kept k
  have hp : H h'.objs.size = none := I1.hok.fresh (Nat.le_refl _)
  have I2 : Inv X pins σ (upd H h'.objs.size (.lst (xs.drop n))) { s with heap := h'.push { cls := .type "list", data := .seq (its.drop n).toArray }, toks := tk } :=
    I1.laid (t' := tk) (fun b o e => Heap.get?_push_of_some _ e) (Nat.le_refl _) ⟨by rw [List.length_drop]; omega, its.drop n, 0, rv.drop n, Heap.get?_push_size _ rfl⟩
  exact h.run pins _ σ _ _ _ Q I2 ((rv.take n).append (.cons (show RelV (.ref _) (.ref _) from rfl) .nil)) (hw _ hp)
end
end Mp
end

section
set_option Elab.async false
set_option linter.all false
set_option maxRecDepth 100000
/-! A def's promise where nothing is being shown by repr around it. -/
namespace Mp
open PySem PySem.Spec L2

/-- like the layer's promise of a def, but it may lean on A.guards (no repr is under way) -/
structure FnG (P : Program) (w : World) (K : PySem.W.Frag) (mg : Str → Option Value) (base : Heap) (CX : CXT) (k : Nat) (f : Addr) (fd : FuncData) (ps : List Str) (sp : Sp) : Prop where
  len : ∀ vs H Q E, sp vs H Q E → vs.length = ps.length
  run : ∀ (A : Around) (outer : List PySem.Env) (s : Shared) (H : Hp) (args : Args) (us : List Value) (vs : List V) (Q : VK) (E : XK),
    Room k A → A.guards = some [] → Env0 P w K mg base A outer s H → BindsTo s fd args (ps.zip us) → Vals vs us → sp vs H Q E →
    codeAny (model P w) A (.call (.ref f) args) (CR CX outer P w H s Q E) s
theorem FnG.up {P w K mg base CX j k f fd ps sp} (F : FnG P w K mg base CX j f fd ps sp) (h : j ≤ k) : FnG P w K mg base CX k f fd ps sp :=
  ⟨F.len, fun A outer s H args us vs Q E hr hg => F.run A outer s H args us vs Q E (hr.mono h) hg⟩
theorem FnG.less {P w K mg base CX k f fd ps} {sp sp' : Sp} (F : FnG P w K mg base CX k f fd ps sp) (h : ∀ vs H Q E, sp' vs H Q E → sp vs H Q E) : FnG P w K mg base CX k f fd ps sp' :=
  ⟨fun vs H Q E q => F.len vs H Q E (h _ _ _ _ q), fun A outer s H args us vs Q E hr hg e0 hb hv q => F.run A outer s H args us vs Q E hr hg e0 hb hv (h _ _ _ _ q)⟩

section
variable {X : Cx} {CX : CXT} {k : Nat} {f : Addr} {fd : FuncData} {ps ks : List Str} {sp : Sp} {dvs : List V} {ds : List Value} {E : XK} {x : Str} {p pos : Pos} {e : Expr} {es : List Expr} {kws : List Keyword} {t tk : TA}
  {pins : List (Addr × Obj)} {σ : L2.St} {H : Hp} {s : Shared} {Q : VK} {us ws : List Value} {vs zs : List V}
/-- the callee's end, seen by the caller -/
theorem after_call {args : Args} {us' : List Value} {vs' : List V} (F : FnG X.prog X.w X.K X.mg X.base CX k f fd ps sp) (hr : Room k X.A) (hG : X.A.guards = some []) (hx : Passes CX X E) (I : L2.Inv X pins σ H s)
    (hb : BindsTo s fd args (ps.zip us')) (r : Vals vs' us') (h : sp vs' H Q E) : codeAny (model X.prog X.w) X.A (.call (.ref f) args) (fun r s' => match r with | .ok (.ret u) => EP X pins σ Q u s' | .ok _ => False | .error e => X.xe e s') s :=
  codeAny_mono (F.run X.A X.stack s H args us' vs' Q E hr hG I.env0 hb r h) fun r s' hq => match r, hq with
    | .error e, hq => hx pins σ H s e s' I hq
    | .ok (.ret _), hq => I.after hq
theorem run_fnG (F : FnG X.prog X.w X.K X.mg X.base CX k f fd ps sp) (hr : Room k X.A) (hG : X.A.guards = some []) (hb : Binds X.K fd ps ds) (hd : Vals dvs ds) (hx : Passes CX X E)
    (I : L2.Inv X pins σ H s) (r : Vals vs us) (h : sp (vs ++ dvs) H Q E) : wpAny (model X.prog X.w) X.A (call (.ref f) us) (EP X pins σ Q) X.xe s := by
  have r2 : Vals (vs ++ dvs) (us ++ ds) := r.append hd
  have hl : (us ++ ds).length = ps.length := r2.length.symm.trans (F.len _ _ _ _ h)
  refine wpAny_call (codeAny_mono (after_call F hr hG hx I (hb s us I.kIn hl) r2 h) ?_)
  rintro (e | fl) s' hq
  · exact hq
  · cases fl <;> first | exact hq | exact False.elim hq
theorem run_fnkG {n : Nat} {g : List Value → List Value → List Value} {gV : List V → List V → List V} (F : FnG X.prog X.w X.K X.mg X.base CX k f fd ps sp) (hr : Room k X.A) (hG : X.A.guards = some [])
    (hb : KBn X.K fd ps n ks g gV) (hx : Passes CX X E) (I : L2.Inv X pins σ H s) (r : Vals vs us) (rz : Vals zs ws) (hl1 : vs.length = n) (hl2 : zs.length = ks.length) (h : sp (gV vs zs) H Q E) : wpAny (model X.prog X.w) X.A (call (.ref f) us (ks.zip ws)) (EP X pins σ Q) X.xe s := by
  have r2 := hb.rel r rz
  refine wpAny_call (codeAny_mono (after_call F hr hG hx I (hb.to s us ws I.kIn (r.length.symm.trans hl1) (rz.length.symm.trans hl2)) r2 h) ?_)
  rintro (e | fl) s' hq
  · exact hq
  · cases fl <;> first | exact hq | exact False.elim hq
/-- a def by its name -/
theorem pe_callG (F : FnG X.prog X.w X.K X.mg X.base CX k f fd ps sp) (hr : Room k X.A) (hG : X.A.guards = some []) (hg : Gl X x) (hm : X.mg x = some (.ref f)) (hk : PySem.W.keepIn X.K (.ref f) = true) (hb : Binds X.K fd ps ds)
    (hd : Vals dvs ds) (hx : Passes CX X E) (ha : PA X (e :: es) t) (hdb : (x == ("__debug__" : Str)) = false) (he : starEach (e :: es) X.env = (false, eval e X.env) :: starEach es X.env)
    (hpl : (backTo pos (starEach es X.env)).any (·.1) = false) : PE X (.Call (.Name x p) (e :: es) [] pos) (tCall sp dvs E t) := .mk fun pins s σ H Q I h =>
  wpAny_Call_Name_kw (ld_glob I hg hm (PySem.W.callWith_K (h₀ := X.base) I.ok.mod.kin hk (thn (ha.run pos pins s σ H _ I h) fun us s1 q => by
    obtain ⟨vs, H1, I1, r, q⟩ := q
    exact ⟨I1.kIn, run_fnG F hr hG hb hd hx I1 r q⟩) he hpl) hdb)
theorem pe_callG0 (F : FnG X.prog X.w X.K X.mg X.base CX k f fd ps sp) (hr : Room k X.A) (hG : X.A.guards = some []) (hg : Gl X x) (hm : X.mg x = some (.ref f)) (hk : PySem.W.keepIn X.K (.ref f) = true) (hb : Binds X.K fd ps ds)
    (hd : Vals dvs ds) (hx : Passes CX X E) (hdb : (x == ("__debug__" : Str)) = false) : PE X (.Call (.Name x p) [] [] pos) (tCall sp dvs E tNil) := .mk fun pins s σ H Q I h =>
  wpAny_Call_Name_kw (ld_glob I hg hm (PySem.W.callWith_K0 I.kIn hk (run_fnG (us := []) F hr hG hb hd hx I .nil h)) hdb)
def tCallN (sp : Sp) (n m : Nat) (gV : List V → List V → List V) (E : XK) (t tk : TA) : TE := fun σ H Q => t σ H fun vs H1 => tk σ H1 fun zs H2 => vs.length = n ∧ zs.length = m ∧ sp (gV vs zs) H2 Q E
theorem pe_callKG {n : Nat} {g : List Value → List Value → List Value} {gV : List V → List V → List V} (F : FnG X.prog X.w X.K X.mg X.base CX k f fd ps sp) (hr : Room k X.A) (hG : X.A.guards = some []) (hg : Gl X x) (hm : X.mg x = some (.ref f))
    (hk : PySem.W.keepIn X.K (.ref f) = true) (hb : KBn X.K fd ps n ks g gV) (hx : Passes CX X E) (ha : PA X (e :: es) t) (hkw : PK X kws tk) (hall : (backToKw pos (keywordEach kws X.env)).all (·.1.isSome) = true)
    (hks : (backToKw pos (keywordEach kws X.env)).filterMap (·.1) = ks) (hdb : (x == ("__debug__" : Str)) = false) (he : starEach (e :: es) X.env = (false, eval e X.env) :: starEach es X.env)
    (hpl : ((backTo pos (starEach (e :: es) X.env)).any (·.1) || (backToKw pos (keywordEach kws X.env)).any (·.1.isNone)) = false) : PE X (.Call (.Name x p) (e :: es) kws pos) (tCallN sp n ks.length gV E t tk) := .mk fun pins s σ H Q I h =>
  wpAny_Call_Name_kw (ld_glob I hg hm (PySem.W.callWith_KW (h₀ := X.base) I.ok.mod.kin hk hall (thn (ha.run pos pins s σ H _ I h) fun us s1 q => by
    obtain ⟨vs, H1, I1, r, q⟩ := q
    refine thn (hkw.run pos pins s1 σ H1 _ I1 q) fun ws s2 q2 => ?_
    obtain ⟨zs, H2, I2, rz, l1, l2, q2⟩ := q2
    rw [hks]
    exact ⟨I2.kIn, run_fnkG F hr hG hb hx I2 r rz l1 l2 q2⟩) hpl he) hdb)
/-- .. by keywords alone -/
theorem pe_callKG0 {n : Nat} {g : List Value → List Value → List Value} {gV : List V → List V → List V} (F : FnG X.prog X.w X.K X.mg X.base CX k f fd ps sp) (hr : Room k X.A) (hG : X.A.guards = some []) (hg : Gl X x) (hm : X.mg x = some (.ref f))
    (hk : PySem.W.keepIn X.K (.ref f) = true) (hb : KBn X.K fd ps n ks g gV) (hx : Passes CX X E) (hkw : PK X kws tk) (hall : (backToKw pos (keywordEach kws X.env)).all (·.1.isSome) = true)
    (hks : (backToKw pos (keywordEach kws X.env)).filterMap (·.1) = ks) (hdb : (x == ("__debug__" : Str)) = false)
    (hpl : ((backTo pos (starEach [] X.env)).any (·.1) || (backToKw pos (keywordEach kws X.env)).any (·.1.isNone)) = false) : PE X (.Call (.Name x p) [] kws pos) (tCallN sp n ks.length gV E tNil tk) := .mk fun pins s σ H Q I h =>
  wpAny_Call_Name_kw (ld_glob I hg hm (PySem.W.callWith_KW0 (h₀ := X.base) I.ok.mod.kin hk hall (thn (hkw.run pos pins s σ H _ I h) fun ws s2 q2 => by
    obtain ⟨zs, H2, I2, rz, l1, l2, q2⟩ := q2
    rw [hks]
    exact ⟨I2.kIn, run_fnkG F hr hG hb hx I2 .nil rz l1 l2 q2⟩) hpl) hdb)
end

/-- a def by its body -/
theorem fnG_of {CX : CXT} {P : Program} {w : World} {K : PySem.W.Frag} {mg : Str → Option Value} {base : Heap} {k : Nat} {f : Addr} {name qual : Str} {params : Arguments} {body : List Stmt} {scope : Scope} {dV kV doc pm cdv ct oc : Value}
    {an od : Option Addr} {osl : Array (Option Value)} {N ps : List Str} {sp : Sp} (lk : K.lookup f = some ⟨oc, od, .func (PySem.W.fnOf name qual params body scope dV kV doc pm an cdv ct), osl⟩) (hcd : PySem.W.codeIn K cdv qual = true)
    (S : FnScope N ps scope) (len : ∀ vs H Q E, sp vs H Q E → vs.length = ps.length)
    (hbody : ∀ (A : Around) (outer : List PySem.Env) (s : Shared) (H : Hp) (vs : List V) (Q : VK) (E : XK), Room k (A.deeper (PyProof.Rows.envOfC qual scope s.heap.objs.size f cdv)) → A.guards = some [] → sp vs H Q E →
      ∃ t, PSs (cxOf CX P w K mg base N qual scope f cdv A outer s H E) body t ∧ t { nx := fun _ H' => Q .non H', rt := Q } (start N vs) H) :
    FnG P w K mg base CX (k + 1) f (PySem.W.fnOf name qual params body scope dV kV doc pm an cdv ct) ps sp where
  len := len
  run := fun A outer s H args us vs Q E hr hG e0 hb r hsp => by
    have KX : K.In s.heap := e0.mod.kin.keeps fun b o q => (e0.bs b o q).1
    have lim : s.heap.NoLimit := e0.mod.nolimit.keeps fun b o q => (e0.bs b o q).1
    obtain ⟨t, ht, hq⟩ := hbody A outer s H vs Q E (hr.deeper _) hG hsp
    refine codeAny_call_function hr.depth (KX _ _ lk) rfl S.co S.gen rfl (PySem.W.codeRec_of KX hcd) (hb _ _ _ _ (wpAny_newFunctionEnv_cells S.kind (fun y hy => ?_) fun env he s1 x => ?_))
    · rcases S.par y.1 (List.of_mem_zip hy).1 with q | q
      · exact Or.inl q
      · exact Or.inr ⟨q, PySem.W.cellsFrom_some _ _ _ (Or.inl q)⟩
    · subst he
      have I := inv_start (CX := CX) (E := E) S hr.hd e0 (len _ _ _ _ hsp) r x
      refine ⟨lim.keeps x.toInCall.keep, codeAny_func (wpAny_mono (ht.run [] s1 (start N vs) H _ I hq) (fun fl s' hs => ?_) fun _ _ hs => hs)⟩
      cases fl with
      | ret u => obtain ⟨v, σ', H', J, rv, q⟩ := hs; exact ⟨v, H', J.os, J.bare, J.base, J.hok, rv, q⟩
      | next => obtain ⟨σ', H', J, q⟩ := hs; exact ⟨.non, H', J.os, J.bare, J.base, J.hok, rfl, q⟩
      | brk => obtain ⟨_, _, _, q⟩ := hs; exact q.elim
      | cont => obtain ⟨_, _, _, q⟩ := hs; exact q.elim
end Mp
end

section
set_option Elab.async false
set_option linter.all false
set_option maxRecDepth 100000
/-! The built-ins keep to the evaluator. -/
namespace Mp
open PySem PySem.Spec L2
section
variable {Γ : Cfg} {X : Cx} {XE : XW}

def BltS (Γ : Cfg) (XE : XW) (b : Blt) : List V → Hp → VK → Prop := fun xs H Q => ∃ G ρ M ds, Core Γ G ρ M H ∧ PReps Γ G ρ H xs ds ∧ Post XE (RepS Γ) Γ G ρ H (bltD b ds M) Q

def rSumT (K : PySem.W.Frag) : List V → Hp → VK → Prop := fun vs H Q => ∃ (a : Addr) (ns : List Int), vs = [V.ref a] ∧ SqT K H a (ns.map V.int) ∧ Q (.int ns.sum) H
theorem cr_sumT (hc : X.calm = true) : CallR X (.builtin "sum") (rSumT X.K) := by
  intro pins s σ H vs us Q I r h
  obtain ⟨a, ns, rfl, hs, q⟩ := h
  obtain ⟨its, rv, hl, _⟩ := I.tuple hs
  rw [Vals.ref1 r]
  obtain ⟨xs, e⟩ := rv.ints.allInts.items
  have hn : PySem.numsOf (PySem.intItems xs).toList = ns := by rw [← e]; exact rv.ints.numsOf
  rw [PySem.nums_intItems] at hn
  have hl' := hl
  rw [e] at hl'
  refine PySem.W.ktm_sumG (I.ok.hd hc) hl' fun h' tk t' hk => ?_
  rw [PySem.preSum_eq, List.take_of_length_le (by simp), hn]
  exact ⟨.int _, H, I.kept hk, ⟨_, rfl⟩, q⟩
theorem call_reprD (hu : X.A.units + 64 < cLine) (hG : X.A.guards = some []) : CallR X (.builtin "repr") (fun xs H Q => ∃ x d, xs = [x] ∧ Dp X.K H x d ∧ d.showable = true ∧ d.hasDict = false ∧ d.depth ≤ 60 ∧ d.shown.length ≤ sizeLine ∧ Q (.str d.shown) H) := by
  intro pins s σ H xs us Q I r h
  obtain ⟨x, d, rfl, hd, h1, h2, h3, h4, q⟩ := h
  obtain ⟨u, rfl, rx⟩ := vals1 r
  have fin : ∀ h' tk u, (∀ b o, s.heap.get? b = some o → h'.get? b = some o) → EP X pins σ Q (.str d.shown u) { s with heap := h', toks := tk } := fun h' tk u k => ⟨.str d.shown, H, I.kept k, ⟨_, rfl⟩, q⟩
  cases hd with
  | non => cases rx; exact PySem.P.repr_of_none (fin s.heap _ _ fun _ _ e => e)
  | bl b => cases rx; exact PySem.P.repr_of_bool (fin s.heap _ _ fun _ _ e => e)
  | int i =>
    obtain ⟨t, rfl⟩ := rx
    exact PySem.P.repr_of_int (by simpa [PyData.showable] using h1) (fin s.heap _ _ fun _ _ e => e)
  | str y =>
    obtain ⟨t, rfl⟩ := rx
    exact PySem.P.repr_of_str (fin s.heap _ _ fun _ _ e => e) (by simpa [PyData.shown] using h4)
  | @lst a xs ds hs ha =>
    cases rx
    obtain ⟨as, rr⟩ := Dp.reads I _ _ _ (Dp.lst hs ha) rfl
    exact repr_of_reads' rr h1 (PyData.noDict_hsm h2) hG (by omega) (fun _ _ e => e) (fun h' u tk k => fin h' tk u k) h4
  | @tup a xs ds hs ha =>
    cases rx
    obtain ⟨as, rr⟩ := Dp.reads I _ _ _ (Dp.tup hs ha) rfl
    exact repr_of_reads' rr h1 (PyData.noDict_hsm h2) hG (by omega) (fun _ _ e => e) (fun h' u tk k => fin h' tk u k) h4

end
mutual
theorem showable_py : ∀ d : D, pure? d = true → small? d = true → (py d).showable = true
  | .non, _, _ => by simp [py, PyData.showable]
  | .bl _, _, _ => by simp [py, PyData.showable]
  | .int i, _, h => by
    rw [small?, decide_eq_true_eq] at h
    simp only [py, PyData.showable, decide_eq_true_eq]
    by_cases h0 : i.natAbs = 0
    · rw [h0]; decide
    · exact Nat.lt_of_lt_of_le ((Nat.log2_lt h0).mpr h) (by omega)
  | .str s, h, _ => by simp [py, PyData.showable]
  | .tup ds, h, k => by rw [pure?] at h; rw [small?] at k; simp [py, PyData.showable, showable_pys ds h k]
  | .lst ds, h, k => by rw [pure?] at h; rw [small?] at k; simp [py, PyData.showable, showable_pys ds h k]
  | .obj _, h, _ => by rw [pure?] at h; cases h
  | .fn _, h, _ => by rw [pure?] at h; cases h
theorem showable_pys : ∀ d : List D, pures d = true → smalls d = true → PyData.showableAll (pys d) = true
  | [], _, _ => by simp [pys, PyData.showableAll]
  | d :: ds, h, k => by
    rw [pures, Bool.and_eq_true] at h
    rw [smalls, Bool.and_eq_true] at k
    simp [pys, PyData.showableAll, showable_py d h.1 k.1, showable_pys ds h.2 k.2]
end
mutual
theorem hasDict_py : ∀ d : D, (py d).hasDict = false
  | .non => by simp [py, PyData.hasDict]
  | .bl _ => by simp [py, PyData.hasDict]
  | .int _ => by simp [py, PyData.hasDict]
  | .str _ => by simp [py, PyData.hasDict]
  | .tup ds => by simp [py, PyData.hasDict, hasDict_pys ds]
  | .lst ds => by simp [py, PyData.hasDict, hasDict_pys ds]
  | .obj _ => by simp [py, PyData.hasDict]
  | .fn _ => by simp [py, PyData.hasDict]
theorem hasDict_pys : ∀ d : List D, PyData.hasDictAll (pys d) = false
  | [] => by simp [pys, PyData.hasDictAll]
  | d :: ds => by simp [pys, PyData.hasDictAll, hasDict_py d, hasDict_pys ds]
end
theorem int_text_len (i : Int) (h : i.natAbs < 2 ^ 1900) : ((toString i : String) : Str).length ≤ 2000 := by
  have h1 : i.natAbs.log2 < 1900 := by
    by_cases h0 : i.natAbs = 0
    · rw [h0]; decide
    · exact (Nat.log2_lt h0).mpr h
  have h2 := int_text_length_le (by decide) h1
  have h3 : ((toString i : String) : Str).length = (toString i).length := ofString_length _
  omega
mutual
theorem shown_wt : ∀ d : D, pure? d = true → small? d = true → (py d).shown.length ≤ wt d
  | .non, _, _ => by simp only [py, PyData.shown_none, wt]; decide
  | .bl b, _, _ => by simp only [py, PyData.shown_bool, wt]; cases b <;> decide
  | .int i, _, h => by
    rw [small?, decide_eq_true_eq] at h
    rw [py, PyData.shown_int, wt]
    exact int_text_len i h
  | .str s, h, _ => by
    rw [pure?] at h
    rw [py, PyData.shown_str, wt]
    refine StrLaws.reprText_len s fun c hc => ?_
    unfold PyData.strOk at h
    rw [Array.all_eq_true'] at h
    have := h c (by simpa using hc)
    simp only [decide_eq_true_eq] at this
    omega
  | .tup ds, h, k => by
    rw [pure?] at h; rw [small?] at k
    rw [py, wt]
    have q := shown_wts ds h k
    have l := tupleText_len_le (PyData.shownAll (pys ds))
    rw [PyData.shownAll_length] at l
    rw [PyData.shown]
    omega
  | .lst ds, h, k => by
    rw [pure?] at h; rw [small?] at k
    rw [py, wt]
    have q := shown_wts ds h k
    have l := listText_len_le (PyData.shownAll (pys ds))
    rw [PyData.shownAll_length] at l
    rw [PyData.shown]
    omega
  | .obj _, h, _ => by rw [pure?] at h; cases h
  | .fn _, h, _ => by rw [pure?] at h; cases h
theorem shown_wts : ∀ d : List D, pures d = true → smalls d = true → ((PyData.shownAll (pys d)).map (·.length)).sum + 2 * (pys d).length ≤ wts d
  | [], _, _ => by simp [pys, PyData.shownAll, wts]
  | d :: ds, h, k => by
    rw [pures, Bool.and_eq_true] at h
    rw [smalls, Bool.and_eq_true] at k
    have a := shown_wt d h.1 k.1
    have b := shown_wts ds h.2 k.2
    rw [pys, PyData.shownAll_cons, wts]
    simp only [List.map_cons, List.sum_cons, List.length_cons]
    omega
end

section
variable {Γ : Cfg} {X : Cx} {XE : XW}
theorem PReps.one {G : Hp} {ρ : List Addr} {H : Hp} {xs : List V} {d : D} (h : PReps Γ G ρ H xs [d]) : ∃ x, xs = [x] ∧ PRep Γ G ρ H x d := by
  cases h with
  | cons h t => cases t; exact ⟨_, rfl, h⟩
theorem PReps.two {G : Hp} {ρ : List Addr} {H : Hp} {xs : List V} {d e : D} (h : PReps Γ G ρ H xs [d, e]) : ∃ x y, xs = [x, y] ∧ PRep Γ G ρ H x d ∧ PRep Γ G ρ H y e := by
  cases h with
  | cons h t =>
    cases t with
    | cons h2 t => cases t; exact ⟨_, _, rfl, h, h2⟩
theorem bools_reps {G : Hp} {ρ : List Addr} : ∀ {ds : List D} {bs : List Bool} {vs : List V}, bools ds = some bs → Reps Γ G ρ vs ds → vs = bs.map V.bl
  | [], bs, _, h, .nil => by simp [bools] at h; subst h; rfl
  | .bl b :: ds, bs, _, h, .cons r t => by
    simp only [bools, Option.map_eq_some_iff] at h
    obtain ⟨cs, h1, rfl⟩ := h
    cases r
    rw [bools_reps h1 t]; rfl
  | .non :: _, _, _, h, _ => by simp [bools] at h
  | .int _ :: _, _, _, h, _ => by simp [bools] at h
  | .str _ :: _, _, _, h, _ => by simp [bools] at h
  | .tup _ :: _, _, _, h, _ => by simp [bools] at h
  | .lst _ :: _, _, _, h, _ => by simp [bools] at h
  | .obj _ :: _, _, _, h, _ => by simp [bools] at h
  | .fn _ :: _, _, _, h, _ => by simp [bools] at h
theorem ints_reps {G : Hp} {ρ : List Addr} : ∀ {ds : List D} {bs : List Int} {vs : List V}, intsD ds = some bs → Reps Γ G ρ vs ds → vs = bs.map V.int
  | [], bs, _, h, .nil => by simp [intsD] at h; subst h; rfl
  | .int b :: ds, bs, _, h, .cons r t => by
    simp only [intsD, Option.map_eq_some_iff] at h
    obtain ⟨cs, h1, rfl⟩ := h
    cases r
    rw [ints_reps h1 t]; rfl
  | .non :: _, _, _, h, _ => by simp [intsD] at h
  | .bl _ :: _, _, _, h, _ => by simp [intsD] at h
  | .str _ :: _, _, _, h, _ => by simp [intsD] at h
  | .tup _ :: _, _, _, h, _ => by simp [intsD] at h
  | .lst _ :: _, _, _, h, _ => by simp [intsD] at h
  | .obj _ :: _, _, _, h, _ => by simp [intsD] at h
  | .fn _ :: _, _, _, h, _ => by simp [intsD] at h
def bltB : Blt → Option String
  | .len => some "len" | .repr => some "repr" | .all => some "all" | .any => some "any" | .sum => some "sum" | .min => some "min" | .max => some "max" | .abs => some "abs"
  | .tuple => none | .list => none | .int => none | .dict => none | .sorted => some "sorted"
def bltT : Blt → Option String
  | .tuple => some "tuple" | .list => some "list" | .int => some "int" | .dict => some "dict" | _ => none

/-- a row of pairs as it lies -/
theorem pairs_rep {G H : Hp} {ρ : List Addr} (s : Sub G H) : ∀ {ds : List D} {kvs : List (Key × D)} {vs : List V}, Reps Γ G ρ vs ds → pairsD ds = some kvs →
    ∃ (ps : List Addr) (us : List (Key × V)), vs = ps.map V.ref ∧ Paired (fun p kv => SqT Γ.K H p [kV kv.1, kv.2]) ps us ∧ us.map (·.1) = kvs.map (·.1) ∧ Reps Γ G ρ (us.map (·.2)) (kvs.map (·.2))
  | [], kvs, _, .nil, h => by simp only [pairsD, Option.some.injEq] at h; subst h; exact ⟨[], [], rfl, .nil, rfl, .nil⟩
  | .tup [k, v] :: ds, kvs, _, .cons r t, h => by
    simp only [pairsD, Option.bind_eq_some_iff, Option.map_eq_some_iff] at h
    obtain ⟨k', h1, l, h2, h3⟩ := h
    subst h3
    obtain ⟨ps, us, e1, e2, e3, e4⟩ := pairs_rep s t h2
    cases r with
    | @tup a xs _ hx rs =>
      cases rs with
      | cons r1 rs =>
        cases rs with
        | cons r2 rs =>
          cases rs
          have ek := key_one r1 h1
          subst ek
          refine ⟨a :: ps, (k', _) :: us, by rw [e1] <;> rfl, .cons (SqT.sub s hx.sq) e2, by simp [e3], .cons r2 e4⟩
  | .non :: _, _, _, _, h => by simp [pairsD] at h
  | .bl _ :: _, _, _, _, h => by simp [pairsD] at h
  | .int _ :: _, _, _, _, h => by simp [pairsD] at h
  | .str _ :: _, _, _, _, h => by simp [pairsD] at h
  | .lst _ :: _, _, _, _, h => by simp [pairsD] at h
  | .obj _ :: _, _, _, _, h => by simp [pairsD] at h
  | .fn _ :: _, _, _, _, h => by simp [pairsD] at h
  | .tup [] :: _, _, _, _, h => by simp [pairsD] at h
  | .tup [_] :: _, _, _, _, h => by simp [pairsD] at h
  | .tup (_ :: _ :: _ :: _) :: _, _, _, _, h => by simp [pairsD] at h
theorem merge_rep {κ : Type} [DecidableEq κ] {G : Hp} {ρ : List Addr} : ∀ {us : List (κ × V)} {kvs : List (κ × D)} {us0 : List (κ × V)} {kvs0 : List (κ × D)}, us.map (·.1) = kvs.map (·.1) → Reps Γ G ρ (us.map (·.2)) (kvs.map (·.2)) → us0.map (·.1) = kvs0.map (·.1) → Reps Γ G ρ (us0.map (·.2)) (kvs0.map (·.2)) →
    (us.foldl (fun acc kv => putK acc kv.1 kv.2) us0).map (·.1) = (mergeD kvs0 kvs).map (·.1) ∧ Reps Γ G ρ ((us.foldl (fun acc kv => putK acc kv.1 kv.2) us0).map (·.2)) ((mergeD kvs0 kvs).map (·.2))
  | [], [], _, _, _, _, e, r => ⟨e, r⟩
  | [], _ :: _, _, _, e, _, _, _ => by simp at e
  | _ :: _, [], _, _, e, _, _, _ => by simp at e
  | (k, v) :: us, (k2, d) :: kvs, us0, kvs0, e, r, e0, r0 => by
    simp only [List.map_cons, List.cons.injEq] at e r
    obtain ⟨rfl, e⟩ := e
    cases r with
    | cons r1 r2 =>
      obtain ⟨p1, p2⟩ := dput_rep (k := k) r1 e0 r0
      exact merge_rep (us := us) (kvs := kvs) (us0 := putK us0 k v) (kvs0 := dput kvs0 k d) e r2 p1 p2
theorem call_bltB (hK : X.K = Γ.K) (hc : X.calm = true) (hu : X.A.units + 64 < cLine) (hG : X.A.guards = some []) {b : Blt} {id : String} (hb : bltB b = some id) : CallR X (.builtin id) (BltS Γ XE b) := by
  intro pins s σ' H xs us Q I r h
  obtain ⟨G, ρ, M, ds, rel, ra, p⟩ := h
  cases b with
  | tuple => cases hb
  | list => cases hb
  | int => cases hb
  | dict => cases hb
  | sorted =>
    cases hb
    match ds, ra, p with
    | [.lst ds], ra, p =>
      obtain ⟨x, rfl, rx⟩ := ra.one
      obtain ⟨q, vs, rfl, hs, rs⟩ := rx.lst rel.gh
      simp only [bltD] at p
      split at p
      · rename_i ok
        refine call_sortD hu pins s σ' H _ us Q I r (sort_rule hK rel.gh hs rs ok fun n ws hn rw' => ?_)
        have sg := sub_upd (o := HO.lst ws) (rel.fresh hn).2
        exact Post.new (a := D.lst (sortD ds)) rel p hn (.lst (.of upd_same) (Reps.mono sg (Pre.refl _) rw'))
      · exact p.elim
    | [], _, p => exact p.elim
    | [.non], _, p => exact p.elim
    | [.bl _], _, p => exact p.elim
    | [.int _], _, p => exact p.elim
    | [.tup _], _, p => exact p.elim
    | [.obj i], ra, p =>
      obtain ⟨x, rfl, rx⟩ := ra.one
      have rx' := rx.rep (fun _ z => by cases z)
      cases rx' with
      | @obj _ a ea =>
        simp only [bltD] at p
        cases eo : (obAt M i).bind walkO with
        | none => rw [eo] at p; exact p.elim
        | some ds =>
          rw [eo] at p
          simp only at p
          split at p
          · rename_i ok
            rw [Option.bind_eq_some_iff] at eo
            obtain ⟨o, e1, e2⟩ := eo
            have ro := ob_at rel ea e1
            cases o with
            | dk kvs =>
              obtain ⟨ws, h1, h2, _⟩ := ro
              cases e2
              have hk : (ws.map fun kv => kV kv.1) = kvs.map fun kv => kV kv.1 := by
                have := congrArg (List.map kV) h2
                rw [List.map_map, List.map_map] at this; exact this
              refine call_sortO hc hu pins s σ' H _ us Q I r ⟨a, rfl, .inl ⟨ws, h1, ?_⟩⟩
              rw [hk]
              refine sort_ws hK rel.gh (keyBs_reps (Γ := Γ) (G := G) (ρ := ρ)) ok fun n ws hn rw' => ?_
              have sg := sub_upd (o := HO.lst ws) (rel.fresh hn).2
              exact Post.new (a := D.lst (sortD _)) rel p hn (.lst (.of upd_same) (Reps.mono sg (Pre.refl _) rw'))
            | dt kvs =>
              obtain ⟨ws, h1, h2, _⟩ := ro
              cases e2
              refine call_sortO hc hu pins s σ' H _ us Q I r ⟨a, rfl, .inr ⟨ws, h1, fun bs hk => ?_⟩⟩
              obtain ⟨G', st, c', hg⟩ := Core.tups rel bs (isKeys_tup hk)
              have p' := Post.step st c' p
              have rk : Reps Γ G' ρ (bs.map V.ref) (kvs.map fun p => D.tup (p.1.map keyB)) := by
                have h3 : (ws.map fun p => D.tup (p.1.map keyB)) = kvs.map fun p => D.tup (p.1.map keyB) := by
                  have := congrArg (List.map fun k => D.tup (k.map keyB)) h2
                  rw [List.map_map, List.map_map] at this; exact this
                rw [← h3]
                exact isKeys_reps hk hg
              refine sort_ws hK c'.gh rk ok fun n ws hn rw' => ?_
              have sg := sub_upd (o := HO.lst ws) (c'.fresh hn).2
              exact Post.new (a := D.lst (sortD _)) c' p' hn (.lst (.of upd_same) (Reps.mono sg (Pre.refl _) rw'))
            | ls es =>
              obtain ⟨ws, h1, rr⟩ := ro
              cases e2
              refine call_sortD hu pins s σ' H _ us Q I r (sort_rule hK rel.gh (.inl h1) rr ok fun n ws hn rw' => ?_)
              have sg := sub_upd (o := HO.lst ws) (rel.fresh hn).2
              exact Post.new (a := D.lst (sortD _)) rel p hn (.lst (.of upd_same) (Reps.mono sg (Pre.refl _) rw'))
            | lk _ => exact ro.elim
          · exact p.elim
    | [.fn _], _, p => exact p.elim
    | [.str _], _, p => exact p.elim
    | a :: b :: c, _, p => cases a <;> exact p.elim
  | len =>
    cases hb
    match ds, ra, p with
    | [.tup ds], ra, p =>
      obtain ⟨x, rfl, rx⟩ := ra.one
      obtain ⟨q, vs, rfl, hs, rs⟩ := rx.tup rel.gh
      exact call_len_seq pins s σ' H _ us Q I r ⟨q, vs, rfl, .inr (hK ▸ hs), by rw [rs.len]; exact Post.now rel p (.int _)⟩
    | [.lst ds], ra, p =>
      obtain ⟨x, rfl, rx⟩ := ra.one
      obtain ⟨q, vs, rfl, hs, rs⟩ := rx.lst rel.gh
      exact call_len_seq pins s σ' H _ us Q I r ⟨q, vs, rfl, .inl (hK ▸ hs), by rw [rs.len]; exact Post.now rel p (.int _)⟩
    | [.str y], ra, p =>
      obtain ⟨x, rfl, rx⟩ := ra.one
      simp only [bltD] at p
      by_cases hl : y.length ≤ line
      · rw [if_pos hl] at p
        exact call_len_str pins s σ' H _ us Q I r ⟨y, by rw [rx.str], line_le hl, Post.now rel p (.int _)⟩
      · rw [if_neg hl] at p; exact p.elim
    | [], _, p => exact p.elim
    | [.non], _, p => exact p.elim
    | [.bl _], _, p => exact p.elim
    | [.int _], _, p => exact p.elim
    | [.obj i], ra, p =>
      obtain ⟨x, rfl, rx⟩ := ra.one
      have rx' := rx.rep (fun _ z => by cases z)
      cases rx' with
      | @obj _ a ea =>
        simp only [bltD] at p
        cases eo : (obAt M i).bind lenO with
        | none => rw [eo] at p; exact p.elim
        | some n =>
          rw [eo] at p
          rw [Option.bind_eq_some_iff] at eo
          obtain ⟨o, e1, e2⟩ := eo
          have ro := ob_at rel ea e1
          cases o with
          | dk kvs =>
            obtain ⟨ws, h1, h2, _⟩ := ro
            cases e2
            have hl : ws.length = kvs.length := by simpa using congrArg List.length h2
            exact call_lenDk pins s σ' H _ us Q I r ⟨a, ws, rfl, h1, by rw [hl]; exact Post.now rel p (.int _)⟩
          | dt kvs =>
            obtain ⟨ws, h1, h2, _⟩ := ro
            cases e2
            have hl : ws.length = kvs.length := by simpa using congrArg List.length h2
            exact call_lenDt pins s σ' H _ us Q I r ⟨a, ws, rfl, h1, by rw [hl]; exact Post.now rel p (.int _)⟩
          | ls es =>
            obtain ⟨ws, h1, rr⟩ := ro
            cases e2
            exact call_len_seq pins s σ' H _ us Q I r ⟨a, ws, rfl, .inl (.inl h1), by rw [rr.len]; exact Post.now rel p (.int _)⟩
          | lk _ => exact ro.elim
    | [.fn _], _, p => exact p.elim
    | a :: b :: c, _, p => cases a <;> exact p.elim
  | repr =>
    cases hb
    match ds, ra, p with
    | [d], ra, p =>
      obtain ⟨x, rfl, rx⟩ := ra.one
      simp only [bltD, reprD] at p
      split at p
      · rename_i hc
        simp only [Bool.and_eq_true, decide_eq_true_eq] at hc
        obtain ⟨⟨⟨h1, h2⟩, h3⟩, h4⟩ := hc
        exact call_reprD hu hG pins s σ' H _ us Q I r ⟨x, py d, rfl, hK ▸ rx.dp rel.gh h1, showable_py d h1 h2, hasDict_py d, by rw [depth_py]; exact h3, Nat.le_trans (shown_wt d h1 h2) (line_le h4), Post.now rel p (.str _)⟩
      · exact p.elim
    | [], _, p => exact p.elim
    | a :: b :: c, _, p => exact p.elim
  | all =>
    cases hb
    match ds, ra, p with
    | [.lst ds], ra, p =>
      obtain ⟨x, rfl, rx⟩ := ra.one
      obtain ⟨q, vs, rfl, hs, rs⟩ := rx.lst rel.gh
      simp only [bltD] at p
      cases e : bools ds with
      | none => rw [e] at p; exact p.elim
      | some bs =>
        rw [e] at p
        exact cr_all hc pins s σ' H _ us Q I r ⟨q, bs, rfl, hK ▸ bools_reps e rs ▸ hs, Post.now rel p (.bl _)⟩
    | [], _, p => exact p.elim
    | [.non], _, p => exact p.elim
    | [.bl _], _, p => exact p.elim
    | [.int _], _, p => exact p.elim
    | [.obj _], _, p => exact p.elim
    | [.fn _], _, p => exact p.elim
    | [.tup _], _, p => exact p.elim
    | [.str _], _, p => exact p.elim
    | a :: b :: c, _, p => cases a <;> exact p.elim
  | any =>
    cases hb
    match ds, ra, p with
    | [.lst ds], ra, p =>
      obtain ⟨x, rfl, rx⟩ := ra.one
      obtain ⟨q, vs, rfl, hs, rs⟩ := rx.lst rel.gh
      simp only [bltD] at p
      cases e : bools ds with
      | none => rw [e] at p; exact p.elim
      | some bs =>
        rw [e] at p
        exact cr_any hc pins s σ' H _ us Q I r ⟨q, bs, rfl, hK ▸ bools_reps e rs ▸ hs, Post.now rel p (.bl _)⟩
    | [], _, p => exact p.elim
    | [.non], _, p => exact p.elim
    | [.bl _], _, p => exact p.elim
    | [.int _], _, p => exact p.elim
    | [.obj _], _, p => exact p.elim
    | [.fn _], _, p => exact p.elim
    | [.tup _], _, p => exact p.elim
    | [.str _], _, p => exact p.elim
    | a :: b :: c, _, p => cases a <;> exact p.elim
  | sum =>
    cases hb
    match ds, ra, p with
    | [.lst ds], ra, p =>
      obtain ⟨x, rfl, rx⟩ := ra.one
      obtain ⟨q, vs, rfl, hs, rs⟩ := rx.lst rel.gh
      simp only [bltD] at p
      cases e : intsD ds with
      | none => rw [e] at p; exact p.elim
      | some bs =>
        rw [e] at p
        exact cr_sum hc pins s σ' H _ us Q I r ⟨q, bs, rfl, hK ▸ ints_reps e rs ▸ hs, Post.now rel p (.int _)⟩
    | [], _, p => exact p.elim
    | [.non], _, p => exact p.elim
    | [.bl _], _, p => exact p.elim
    | [.int _], _, p => exact p.elim
    | [.obj _], _, p => exact p.elim
    | [.fn _], _, p => exact p.elim
    | [.tup ds], ra, p =>
      obtain ⟨x, rfl, rx⟩ := ra.one
      obtain ⟨q, vs, rfl, hs, rs⟩ := rx.tup rel.gh
      simp only [bltD] at p
      cases e : intsD ds with
      | none => rw [e] at p; exact p.elim
      | some bs =>
        rw [e] at p
        exact cr_sumT hc pins s σ' H _ us Q I r ⟨q, bs, rfl, hK ▸ ints_reps e rs ▸ hs, Post.now rel p (.int _)⟩
    | [.str _], _, p => exact p.elim
    | a :: b :: c, _, p => cases a <;> exact p.elim
  | min =>
    cases hb
    match ds, ra, p with
    | [.int i, .int j], ra, p =>
      obtain ⟨x, y, rfl, rx, ry⟩ := ra.two
      exact call_min2 hc pins s σ' H _ us Q I r ⟨i, j, by rw [rx.int, ry.int], Post.now rel p (.int _)⟩
    | [], _, p => exact p.elim
    | [a], _, p => cases a <;> exact p.elim
    | [.int _, .non], _, p => exact p.elim
    | [.int _, .bl _], _, p => exact p.elim
    | [.int _, .str _], _, p => exact p.elim
    | [.int _, .tup _], _, p => exact p.elim
    | [.int _, .lst _], _, p => exact p.elim
    | [.int _, .obj _], _, p => exact p.elim
    | [.int _, .fn _], _, p => exact p.elim
    | [.non, _], _, p => exact p.elim
    | [.bl _, _], _, p => exact p.elim
    | [.str _, _], _, p => exact p.elim
    | [.tup _, _], _, p => exact p.elim
    | [.lst _, _], _, p => exact p.elim
    | [.obj _, _], _, p => exact p.elim
    | [.fn _, _], _, p => exact p.elim
    | a :: b :: c :: d, _, p => cases a <;> first | exact p.elim | (cases b <;> exact p.elim)
  | max =>
    cases hb
    match ds, ra, p with
    | [.int i, .int j], ra, p =>
      obtain ⟨x, y, rfl, rx, ry⟩ := ra.two
      exact call_max2 hc pins s σ' H _ us Q I r ⟨i, j, by rw [rx.int, ry.int], Post.now rel p (.int _)⟩
    | [], _, p => exact p.elim
    | [a], _, p => cases a <;> exact p.elim
    | [.int _, .non], _, p => exact p.elim
    | [.int _, .bl _], _, p => exact p.elim
    | [.int _, .str _], _, p => exact p.elim
    | [.int _, .tup _], _, p => exact p.elim
    | [.int _, .lst _], _, p => exact p.elim
    | [.int _, .obj _], _, p => exact p.elim
    | [.int _, .fn _], _, p => exact p.elim
    | [.non, _], _, p => exact p.elim
    | [.bl _, _], _, p => exact p.elim
    | [.str _, _], _, p => exact p.elim
    | [.tup _, _], _, p => exact p.elim
    | [.lst _, _], _, p => exact p.elim
    | [.obj _, _], _, p => exact p.elim
    | [.fn _, _], _, p => exact p.elim
    | a :: b :: c :: d, _, p => cases a <;> first | exact p.elim | (cases b <;> exact p.elim)
  | abs =>
    cases hb
    match ds, ra, p with
    | [.int i], ra, p =>
      obtain ⟨x, rfl, rx⟩ := ra.one
      exact call_abs pins s σ' H _ us Q I r ⟨i, by rw [rx.int], Post.now rel p (.int _)⟩
    | [], _, p => exact p.elim
    | [.non], _, p => exact p.elim
    | [.bl _], _, p => exact p.elim
    | [.lst _], _, p => exact p.elim
    | [.obj _], _, p => exact p.elim
    | [.fn _], _, p => exact p.elim
    | [.tup _], _, p => exact p.elim
    | [.str _], _, p => exact p.elim
    | a :: b :: c, _, p => cases a <;> exact p.elim
theorem call_bltT (hK : X.K = Γ.K) (hc : X.calm = true) {b : Blt} {id : String} (hb : bltT b = some id) : CallR X (.type id) (BltS Γ XE b) := by
  intro pins s σ' H xs us Q I r h
  obtain ⟨G, ρ, M, ds, rel, ra, p⟩ := h
  cases b with
  | tuple =>
    cases hb
    match ds, ra, p with
    | [.tup ds], ra, p =>
      obtain ⟨x, rfl, rx⟩ := ra.one
      obtain ⟨q, vs, rfl, hs, rs⟩ := rx.tup rel.gh
      exact call_tuple_of pins s σ' H _ us Q I r ⟨q, vs, rfl, .inr ⟨hK ▸ hs, Post.now rel p (rx.rep fun _ z => by cases z)⟩⟩
    | [.lst ds], ra, p =>
      obtain ⟨x, rfl, rx⟩ := ra.one
      obtain ⟨q, vs, rfl, hs, rs⟩ := rx.lst rel.gh
      refine call_tuple_of pins s σ' H _ us Q I r ⟨q, vs, rfl, .inl ⟨hK ▸ hs, fun n hn => ?_⟩⟩
      have sg := sub_upd (o := HO.tup vs) (rel.fresh hn).2
      exact Post.new (a := D.tup ds) rel p hn (.tup (.inl upd_same) (Reps.mono sg (Pre.refl _) rs))
    | [], _, p => exact p.elim
    | [.non], _, p => exact p.elim
    | [.bl _], _, p => exact p.elim
    | [.int _], _, p => exact p.elim
    | [.obj _], _, p => exact p.elim
    | [.fn _], _, p => exact p.elim
    | [.str _], _, p => exact p.elim
    | a :: b :: c, _, p => cases a <;> exact p.elim
  | list =>
    cases hb
    match ds, ra, p with
    | [.tup ds], ra, p =>
      obtain ⟨x, rfl, rx⟩ := ra.one
      obtain ⟨q, vs, rfl, hs, rs⟩ := rx.tup rel.gh
      refine call_list_of pins s σ' H _ us Q I r ⟨q, vs, rfl, .inr (hK ▸ hs), fun n hn => ?_⟩
      have sg := sub_upd (o := HO.lst vs) (rel.fresh hn).2
      exact Post.new (a := D.lst ds) rel p hn (.lst (.of upd_same) (Reps.mono sg (Pre.refl _) rs))
    | [.lst ds], ra, p =>
      obtain ⟨x, rfl, rx⟩ := ra.one
      obtain ⟨q, vs, rfl, hs, rs⟩ := rx.lst rel.gh
      refine call_list_of pins s σ' H _ us Q I r ⟨q, vs, rfl, .inl (hK ▸ hs), fun n hn => ?_⟩
      have sg := sub_upd (o := HO.lst vs) (rel.fresh hn).2
      exact Post.new (a := D.lst ds) rel p hn (.lst (.of upd_same) (Reps.mono sg (Pre.refl _) rs))
    | [], _, p => exact p.elim
    | [.non], _, p => exact p.elim
    | [.bl _], _, p => exact p.elim
    | [.int _], _, p => exact p.elim
    | [.obj i], ra, p =>
      obtain ⟨x, rfl, rx⟩ := ra.one
      have rx' := rx.rep (fun _ z => by cases z)
      cases rx' with
      | @obj _ a ea =>
        simp only [bltD] at p
        cases eo : (obAt M i).bind walkO with
        | none => rw [eo] at p; exact p.elim
        | some n =>
          rw [eo] at p
          rw [Option.bind_eq_some_iff] at eo
          obtain ⟨o, e1, e2⟩ := eo
          have ro := ob_at rel ea e1
          cases o with
          | dk kvs =>
            obtain ⟨ws, h1, h2, _⟩ := ro
            cases e2
            have hk : (ws.map fun kv => kV kv.1) = kvs.map fun kv => kV kv.1 := by
              have := congrArg (List.map kV) h2
              rw [List.map_map, List.map_map] at this; exact this
            refine call_listDk hc pins s σ' H _ us Q I r ⟨a, ws, rfl, h1, fun n hn => ?_⟩
            rw [hk]
            exact Post.new (a := D.lst _) rel p hn (.lst (.of upd_same) keyBs_reps)
          | dt kvs =>
            obtain ⟨ws, h1, h2, _⟩ := ro
            cases e2
            refine call_list_dT hc pins s σ' H _ us Q I r ⟨a, ws, rfl, h1, fun n bs hn hk => ?_⟩
            obtain ⟨G', st, c', hg⟩ := Core.tups rel bs (isKeys_tup hk)
            have p' := Post.step st c' p
            have rk : Reps Γ G' ρ (bs.map V.ref) (kvs.map fun p => D.tup (p.1.map keyB)) := by
              have h3 : (ws.map fun p => D.tup (p.1.map keyB)) = kvs.map fun p => D.tup (p.1.map keyB) := by
                have := congrArg (List.map fun k => D.tup (k.map keyB)) h2
                rw [List.map_map, List.map_map] at this; exact this
              rw [← h3]
              exact isKeys_reps hk hg
            have sg := sub_upd (o := HO.lst (bs.map V.ref)) (c'.fresh hn).2
            exact Post.new (a := D.lst _) c' p' hn (.lst (.of upd_same) (Reps.mono sg (Pre.refl _) rk))
          | ls es =>
            obtain ⟨ws, h1, rr⟩ := ro
            cases e2
            refine call_list_of pins s σ' H _ us Q I r ⟨a, ws, rfl, .inl (.inl h1), fun n hn => ?_⟩
            have sg := sub_upd (o := HO.lst ws) (rel.fresh hn).2
            exact Post.new (a := D.lst _) rel p hn (.lst (.of upd_same) (Reps.mono sg (Pre.refl _) rr))
          | lk _ => exact ro.elim
    | [.fn _], _, p => exact p.elim
    | [.str _], _, p => exact p.elim
    | a :: b :: c, _, p => cases a <;> exact p.elim
  | dict =>
    cases hb
    match ds, ra, p with
    | [.lst ds], ra, p =>
      obtain ⟨x, rfl, rx⟩ := ra.one
      obtain ⟨q, vs, rfl, hs, rs⟩ := rx.lst rel.gh
      simp only [bltD] at p
      cases e : pairsD ds with
      | none => rw [e] at p; exact p.elim
      | some kvs =>
        rw [e] at p
        obtain ⟨ps, ws, rfl, e2, e3, e4⟩ := pairs_rep rel.gh rs e
        refine call_dictP hc pins s σ' H _ us Q I r ⟨q, ps, ws, rfl, hK ▸ hs, hK ▸ e2, fun n hn => ?_⟩
        obtain ⟨m1, m2⟩ := merge_rep (Γ := Γ) (us0 := []) (kvs0 := []) e3 e4 rfl .nil
        exact Post.newOb (XE := XE) (o := .dk (mergeD [] kvs)) rel hn p fun ρ' pp => ⟨_, upd_same, m1, Reps.mono (Same.refl _) pp m2⟩
    | [], _, p => exact p.elim
    | [.non], _, p => exact p.elim
    | [.bl _], _, p => exact p.elim
    | [.int _], _, p => exact p.elim
    | [.tup _], _, p => exact p.elim
    | [.obj _], _, p => exact p.elim
    | [.fn _], _, p => exact p.elim
    | [.str _], _, p => exact p.elim
    | a :: b :: c, _, p => cases a <;> exact p.elim
  | int =>
    cases hb
    match ds, ra, p with
    | [.int i], ra, p =>
      obtain ⟨x, rfl, rx⟩ := ra.one
      exact call_int1 pins s σ' H _ us Q I r (.inl ⟨i, by rw [rx.int], Post.now rel p (.int _)⟩)
    | [.bl b], ra, p =>
      obtain ⟨x, rfl, rx⟩ := ra.one
      exact call_int1 pins s σ' H _ us Q I r (.inr ⟨b, by rw [rx.bl], Post.now rel p (.int _)⟩)
    | [], _, p => exact p.elim
    | [.non], _, p => exact p.elim
    | [.tup _], _, p => exact p.elim
    | [.lst _], _, p => exact p.elim
    | [.obj _], _, p => exact p.elim
    | [.fn _], _, p => exact p.elim
    | [.str _], _, p => exact p.elim
    | a :: b :: c, _, p => cases a <;> exact p.elim
  | _ => cases hb
end
end Mp
end

section
set_option Elab.async false
set_option linter.all false
set_option maxRecDepth 100000
/-! Does an IR say what a Python text says? -/
namespace Mp
open PySem PySem.Spec L2

/-- what is known of a text: the names of the def at hand by slot, the module's constants, its defs, the built-ins that stay, the keywords of each def's call shapes -/
structure Sta where
  N : List Str
  gn : List Str
  fn : List Str
  bn : List Str
  ks : List (List (List Str))
def Sta.kw (S : Sta) (f sh : Nat) : Option (List Str) := (S.ks[f]?).bind fun l => l[sh]?
/-- the own scope, and as names are found -/
structure SC where
  o : Scope
  sc : Scope

def nameOk (x : Str) : Bool := !(x == ("__debug__" : Str)) && !(x == ("__classdict__" : Str)) && !(x == ("__name__" : Str))
def visB (sc : Scope) (x : Str) : Bool := match sc.names.lookup x with | some .local => true | some .cell => true | some .free => true | _ => false
def stB (sc : Scope) (x : Str) : Bool := match sc.names.lookup x with | some .local => true | some .cell => true | _ => false
def glB (sc : Scope) (x : Str) : Bool := match sc.names.lookup x with | some .globalImplicit => true | _ => false
def at? (N : List Str) (i : Nat) (x : Str) : Bool := decide (N[i]? = some x) && nameOk x
def bltName (b : Blt) : Str := match b with
  | .len => "len" | .repr => "repr" | .tuple => "tuple" | .list => "list" | .all => "all" | .any => "any" | .sum => "sum" | .min => "min" | .max => "max" | .abs => "abs" | .int => "int" | .sorted => "sorted" | .dict => "dict"
def tyName (t : Ty) : Str := Str.ofString (tyN t)
def noStar : Expr → Bool
  | .Starred _ _ => false
  | _ => true
def noSlc : Expr → Bool
  | .Slice _ _ _ _ => false
  | _ => true
def noSet : Expr → Bool
  | .Set _ _ _ => false
  | _ => true
def noComp : Expr → Bool
  | .ListComp _ _ _ _ => false
  | .SetComp _ _ _ _ => false
  | .DictComp _ _ _ _ _ => false
  | _ => true
def baseOk : Expr → Bool
  | .Call (.Name _ _) [] [] _ => false
  | _ => true
def plainX (e : Expr) : Bool := noStar e && noSlc e && noSet e
/-- truth by the value alone -/
def plainT : Expr → Bool
  | .UnaryOp .Not _ _ => false
  | .BoolOp _ _ _ => false
  | .IfExp _ _ _ _ => false
  | .Compare _ _ _ _ => false
  | _ => true
mutual
def slots : G → List Nat
  | .nm i => [i]
  | .tp gs => slotss gs
def slotss : List G → List Nat
  | [] => []
  | g :: gs => slots g ++ slotss gs
end
mutual
def chkG (S : Sta) (c : SC) : G → Expr → Bool
  | .nm i, .Name x _ => at? S.N i x && stB c.o x
  | .tp gs, .Tuple es _ _ => chkGs S c gs es
  | _, _ => false
def chkGs (S : Sta) (c : SC) : List G → List Expr → Bool
  | [], [] => true
  | g :: gs, e :: es => noStar e && chkG S c g e && chkGs S c gs es
  | _, _ => false
end
def chkStrs : List Str → List (Option Expr) → Bool
  | [], [] => true
  | k :: ks, some (.Constant (.str j) _ _) :: r => decide (k = j) && chkStrs ks r
  | _, _ => false
/-- the targets without the last one's star -/
def unstar : List Expr → Option (List Expr)
  | [] => none
  | e :: es => match e, es with
    | .Starred e _, [] => if noStar e then some [e] else none
    | e, es => if noStar e then (unstar es).map (e :: ·) else none
def noTup : Expr → Bool
  | .Tuple _ _ _ => false
  | _ => true
def isTup : Expr → Bool
  | .Tuple _ _ _ => true
  | _ => false
mutual
def chkE (S : Sta) (c : SC) : E → Expr → Bool
  | .cint i, .Constant (.int j) _ _ => decide (i = j)
  | .cstr i, .Constant (.str j) _ _ => decide (i = j)
  | .cbl i, .Constant (.bool j) _ _ => decide (i = j)
  | .cnon, .Constant .none _ _ => true
  | .var i, .Name x _ => at? S.N i x && visB c.sc x
  | .own i, .Name x _ => at? S.N i x && visB c.sc x
  | .glob k, .Name x _ => at? S.gn k x && glB c.sc x
  | .fnv k, .Name x _ => at? S.fn k x && glB c.sc x
  | .tup es, .Tuple xs _ _ => decide (xs.length ≤ 1000) && chkEs S c es xs
  | .lst es, .List xs _ => decide (xs.length ≤ 1000) && chkEs S c es xs
  | .bin o a b, .BinOp x p y _ => decide (p = opB o) && chkE S c a x && chkE S c b y
  | .neg a, .UnaryOp .USub x _ => chkE S c a x
  | .cmp o a b, .Compare x [p] [y] _ => decide (p = opC o) && chkE S c a x && chkE S c b y && noSet y
  | .chn o o2 a b d, .Compare x [p, p2] [y, z] _ => decide (p = opC o) && decide (p2 = opC o2) && chkE S c a x && chkE S c b y && chkE S c d z && noSet z
  | .andv a b, .BoolOp .And (x :: y :: r) p => chkE S c a x && chkE S c b (.BoolOp .And (y :: r) p)
  | .orv a b, .BoolOp .Or (x :: y :: r) p => chkE S c a x && chkE S c b (.BoolOp .Or (y :: r) p)
  | .one a, .BoolOp _ [x] _ => chkE S c a x
  | .notv a, .UnaryOp .Not x _ => chkE S c a x
  | .ife t a b, .IfExp z x y _ => chkT S c t z && chkE S c a x && chkE S c b y
  | .idx a b, .Subscript x y _ => chkE S c a x && chkE S c b y && noSlc y
  | .dgt a b, .Subscript x y _ => chkE S c a x && chkE S c b y && noSlc y
  | .slc a lo hi, .Subscript x (.Slice l h none _) _ => chkE S c a x && chkO S c lo l && chkO S c hi h
  | .dcomp _ g own it t k v, .DictComp kx vx [⟨tg, iter, ifs, a⟩] scope _ => decide (a = 0) && blkC S.N c.sc scope own && (slots g).all (fun i => (own.map (·.2)).contains i) && noSet iter && chkI S c (isTup tg) it iter &&
      chkG S ⟨scope, relS scope c.sc⟩ g tg && chkTs S ⟨scope, relS scope c.sc⟩ t ifs && chkE S ⟨scope, relS scope c.sc⟩ k kx && chkE S ⟨scope, relS scope c.sc⟩ v vx
  | .lrng t (.rng1 a), .Call (.Name x _) [.Call (.Name y _) [z] [] _] [] _ => decide (x = if t = true then "tuple" else "list") && S.bn.contains x && glB c.sc x && decide (y = "range") && S.bn.contains y && glB c.sc y && noStar z && chkE S c a z
  | .lrng t (.rng2 a b), .Call (.Name x _) [.Call (.Name y _) [z, z2] [] _] [] _ => decide (x = if t = true then "tuple" else "list") && S.bn.contains x && glB c.sc x && decide (y = "range") && S.bn.contains y && glB c.sc y && noStar z && noStar z2 && chkE S c a z && chkE S c b z2
  | .lnew es, .List xs _ => decide (xs.length ≤ 1000) && chkEs S c es xs
  | .stp a k, .Subscript x (.Slice none none (some d) _) _ => chkE S c a x && chkE S c k d
  | .call f sh es ks, .Call (.Name x _) args kws _ => at? S.fn f x && glB c.sc x && chkEs S c es args && (match S.kw f sh with
      | some names => chkKs S c names ks kws
      | none => false)
  | .blt b es, .Call (.Name x _) args [] _ => decide (x = bltName b) && nameOk x && S.bn.contains x && glB c.sc x && (match args with | [] => false | _ => true) && chkEs S c es args
  | .isi e t, .Call (.Name x _) [a, .Name y _] [] _ => decide (x = "isinstance") && S.bn.contains x && glB c.sc x && decide (y = tyName t) && S.bn.contains y && glB c.sc y && chkE S c e a && noStar a
  | .comp g own it t elt, .ListComp x [⟨tg, iter, ifs, a⟩] scope _ => decide (a = 0) && blkC S.N c.sc scope own && (slots g).all (fun i => (own.map (·.2)).contains i) && noSet iter && chkI S c (isTup tg) it iter &&
      chkG S ⟨scope, relS scope c.sc⟩ g tg && chkTs S ⟨scope, relS scope c.sc⟩ t ifs && chkE S ⟨scope, relS scope c.sc⟩ elt x
  | .dnew _, .Dict [] [] _ => true
  | .get2 a k z, .Call (.Attribute o m apos) [e, f] [] cpos => decide (m = "get") && (apos.endLine == cpos.line) && noStar e && noStar f && baseOk o && chkE S c a o && chkE S c k e && chkE S c z f
  | .get1 a k, .Call (.Attribute o m apos) [e] [] cpos => decide (m = "get") && (apos.endLine == cpos.line) && noStar e && baseOk o && chkE S c a o && chkE S c k e
  | .dsp ks vs, .Dict keys values _ => decide (ks.length ≤ 15) && decide (ks ≠ []) && decide ks.Nodup && decide (keys.length = values.length) && chkStrs ks keys && chkEs S c vs values
  | _, _ => false
def chkEs (S : Sta) (c : SC) : Es → List Expr → Bool
  | .nil, [] => true
  | .cons e r, x :: xs => noStar x && chkE S c e x && chkEs S c r xs
  | _, _ => false
def chkKs (S : Sta) (c : SC) : List Str → Es → List Keyword → Bool
  | [], .nil, [] => true
  | n :: ns, .cons e r, ⟨some m, x, _⟩ :: xs => decide (n = m) && chkE S c e x && chkKs S c ns r xs
  | _, _, _ => false
def chkO (S : Sta) (c : SC) : O → Option Expr → Bool
  | .non, none => true
  | .som e, some x => chkE S c e x
  | _, _ => false
def chkT (S : Sta) (c : SC) : T → Expr → Bool
  | .val e, x => plainT x && chkE S c e x
  | .cmp o a b, .Compare x [p] [y] _ => decide (p = opC o) && chkE S c a x && chkE S c b y && noSet y
  | .chn o o2 a b d, .Compare x [p, p2] [y, z] _ => decide (p = opC o) && decide (p2 = opC o2) && chkE S c a x && chkE S c b y && chkE S c d z && noSet z
  | .not t, .UnaryOp .Not x _ => chkT S c t x
  | .and a b, .BoolOp .And (x :: y :: r) p => chkT S c a x && chkT S c b (.BoolOp .And (y :: r) p)
  | .or a b, .BoolOp .Or (x :: y :: r) p => chkT S c a x && chkT S c b (.BoolOp .Or (y :: r) p)
  | .one a, .BoolOp _ [x] _ => chkT S c a x
  | _, _ => false
def chkTs (S : Sta) (c : SC) : Ts → List Expr → Bool
  | .nil, [] => true
  | .one t, [x] => chkT S c t x
  | _, _ => false
def chkI (S : Sta) (c : SC) (tt : Bool) : It → Expr → Bool
  | .seq e, x => noSet x && chkE S c e x
  | .enum e, .Call (.Name x _) [y] [] _ => tt && decide (x = "enumerate") && S.bn.contains x && glB c.sc x && noStar y && chkE S c e y
  | .zip a b, .Call (.Name x _) [y, z] [] _ => tt && decide (x = "zip") && S.bn.contains x && glB c.sc x && noStar y && noStar z && chkE S c a y && chkE S c b z
  | .items e, .Call (.Attribute o m apos) [] [] cpos => tt && decide (m = "items") && (apos.endLine == cpos.line) && baseOk o && chkE S c e o
  | .rng1 a, .Call (.Name x _) [y] [] _ => decide (x = "range") && S.bn.contains x && glB c.sc x && noStar y && chkE S c a y
  | .rng2 a b, .Call (.Name x _) [y, z] [] _ => decide (x = "range") && S.bn.contains x && glB c.sc x && noStar y && noStar z && chkE S c a y && chkE S c b z
  | _, _ => false
end

/-- a list that it gives is a new one -/
def freshE : E → Bool
  | .bin .add _ _ => true
  | .blt .list _ => true
  | .blt .sorted _ => true
  | .slc _ _ _ => true
  | .lrng false _ => true
  | _ => false
def chkR (S : Sta) (c : SC) : RX → Expr → Bool
  | .v e, x => chkE S c e x
  | .o es, .List xs _ => decide (xs.length ≤ 1000) && chkEs S c es xs
  | _, _ => false
def chkRs (S : Sta) (c : SC) : List RX → List Expr → Bool
  | [], [] => true
  | r :: rs, x :: xs => noStar x && chkR S c r x && chkRs S c rs xs
  | _, _ => false
/-- names, all of them stored by this block -/
def chkNs (S : Sta) (c : SC) : List Nat → List Expr → Bool
  | [], [] => true
  | t :: ts, .Name x _ :: es => at? S.N t x && stB c.o x && chkNs S c ts es
  | _, _ => false
/-- how a row of names is stored -/
def rowC (c : SC) (es vs : List Expr) : Bool :=
  ((es.any fun t => match t with | .Name y _ => !decide (c.sc.names.lookup y = some .local) | _ => true) || vs.all (foldedForSure 8) || (decide (es.length ≠ 2) && decide (es.length ≠ 3))) ||
  (match es, vs with
  | [.Name x p1, .Name y p2], [v, w] => decide (x ≠ y) && decide (c.sc.names.lookup x = some .local) && decide (c.sc.names.lookup y = some .local) && decide (c.sc.kind = .function) && decide (p1.line = p2.line) && noStar v && noStar w && !(foldedForSure 8 v && foldedForSure 8 w) && !(constantsAlone 8 v && constantsAlone 8 w)
  | [.Name x p1, .Name y p2, .Name z p3], [v, w, u] => decide (x ≠ y) && decide (x ≠ z) && decide (y ≠ z) && decide (c.sc.names.lookup x = some .local) && decide (c.sc.names.lookup y = some .local) && decide (c.sc.names.lookup z = some .local) && decide (c.sc.kind = .function) &&
      decide (p1.line = p2.line) && decide (p1.line = p3.line) && noStar v && noStar w && noStar u && !(foldedForSure 8 v && (foldedForSure 8 w && foldedForSure 8 u)) && !(constantsAlone 8 v && (constantsAlone 8 w && constantsAlone 8 u))
  | _, _ => false)
/-- a comprehension that a local on its line takes -/
def cmpC (c : SC) (x : Str) (p : Pos) : Expr → Bool
  | .ListComp _ _ scope q => decide (c.sc.names.lookup x = some .local) && decide (c.sc.kind = .function) && (p.line == q.line) && !(scope.names.any fun (m, k) => m == x && (k == .local || k == .cell))
  | .DictComp _ _ _ scope q => decide (c.sc.names.lookup x = some .local) && decide (c.sc.kind = .function) && (p.line == q.line) && !(scope.names.any fun (m, k) => m == x && (k == .local || k == .cell))
  | _ => false
mutual
def chkS (S : Sta) (c : SC) : Mp.S → Stmt → Bool
  | .asg (.nm i) e, .Assign [.Name x p] v _ => at? S.N i x && stB c.o x && (noComp v || (decide (c.sc.names.lookup x = some .cell) || cmpC c x p v)) && chkE S c e v
  | .asg (.tp gs) e, .Assign [.Tuple ts _ _] v _ => noComp v && chkGs S c gs ts && chkE S c e v && (match v with
      | .Tuple vs _ _ => vs.all noStar && ((ts.any fun t => match t with | .Name y _ => !decide (c.sc.names.lookup y = some .local) | _ => true) || vs.all (foldedForSure 8))
      | _ => true)
  | .par i j a b, .Assign [.Tuple [.Name x p1, .Name y p2] _ _] (.Tuple [v, w] _ _) _ => at? S.N i x && at? S.N j y && decide (i ≠ j) && decide (x ≠ y) && decide (c.sc.names.lookup x = some .local) && decide (c.sc.names.lookup y = some .local) &&
      decide (c.sc.kind = .function) && decide (p1.line = p2.line) && noStar v && noStar w && !(foldedForSure 8 v && foldedForSure 8 w) && !(constantsAlone 8 v && constantsAlone 8 w) && chkE S c a v && chkE S c b w
  | .ownL i es, .Assign [.Name x _] (.List xs _) _ => at? S.N i x && stB c.o x && decide (xs.length ≤ 1000) && chkEs S c es xs
  | .ownF i (.bin .add a b), .Assign [.Name x _] (.BinOp l .Add r _) _ => at? S.N i x && stB c.o x && chkE S c a l && chkE S c b r
  | .ownC i e, .Assign [.Name x _] (.Call (.Name y _) [l] [] _) _ => at? S.N i x && stB c.o x && decide (y = "list") && S.bn.contains y && glB c.sc y && noStar l && chkE S c e l
  | .app i e, .Expr (.Call (.Attribute (.Name x _) m p2) [v] [] p3) _ => at? S.N i x && visB c.sc x && decide (m = "append") && (p2.endLine == p3.line) && noStar v && chkE S c e v
  | .appo a e, .Expr (.Call (.Attribute o m p2) [v] [] p3) _ => decide (m = "append") && (p2.endLine == p3.line) && noStar v && baseOk o && chkE S c a o && chkE S c e v
  | .row ts rs, .Assign [.Tuple es _ _] (.Tuple vs _ _) _ => decide ts.Nodup && chkNs S c ts es && chkRs S c rs vs && decide (es.length ≤ 1000) && rowC c es vs
  | .star gs i e, .Assign [.Tuple ts _ _] v _ => noComp v && noTup v && chkE S c e v && (match unstar ts with | some es => chkGs S c (gs ++ [.nm i]) es | none => false)
  | .ext i e, .Expr (.Call (.Attribute (.Name x _) m p2) [v] [] p3) _ => at? S.N i x && visB c.sc x && decide (m = "extend") && (p2.endLine == p3.line) && noStar v && chkE S c e v
  | .aug i o e, .AugAssign (.Name x _) p v _ => at? S.N i x && stB c.o x && decide (p = opB o) && chkE S c e v
  | .setd a k e, .Assign [.Subscript o i _] v _ => noComp v && noSlc i && chkE S c e v && chkE S c a o && chkE S c k i
  | .expr e, .Expr v _ => noComp v && chkE S c e v
  | .ret e, .Return (some v) _ => chkE S c e v
  | .retn, .Return none _ => true
  | .ifs t a b, .If z x y _ => chkT S c t z && chkSs S c a x && chkSs S c b y
  | .forr g it b, .For tg iter body [] _ => noSet iter && chkI S c (isTup tg) it iter && chkG S c g tg && chkSs S c b body
  | .whil t b, .While z body [] _ => chkT S c t z && chkSs S c b body
  | .pas, .Pass _ => true
  | .brk, .Break _ => true
  | .cnt, .Continue _ => true
  | .frz _ s, st => chkS S c s st
  | _, _ => false
def chkSs (S : Sta) (c : SC) : List Mp.S → List Stmt → Bool
  | [], [] => true
  | s :: r, x :: xs => chkS S c s x && chkSs S c r xs
  | _, _ => false
end
end Mp
end

section
set_option Elab.async false
set_option linter.all false
set_option maxRecDepth 100000
/-! The evaluator is right: what it tells of an IR is what the text that it says does. -/
namespace Mp
open PySem PySem.Spec L2

/-- an exception as it lies: its class, its dict -/
def XPf (Γ : Cfg) (E : XK) : XW := fun x G ρ H => ∀ (d : Addr) (fs : List (Str × V)), H d = none → fs.map (·.1) = x.fs.map (·.1) → Reps Γ G ρ (fs.map (·.2)) (x.fs.map (·.2)) → E (.ref (Γ.cA x.c)) (some d) (upd H d (.xd fs))

/-- what a def promises: what the evaluator tells of it -/
def spF (Γ : Cfg) (cal : List D → Sto → Res D) (n : Nat) : Sp := fun vs H Q E => vs.length = n ∧ ∃ G ρ M ds, Core Γ G ρ M H ∧ Reps Γ G ρ vs ds ∧ Post (XPf Γ E) (RepS Γ) Γ G ρ H (cal ds M) Q

structure ShFact (Γ : Cfg) (fd : FuncData) (ps : List Str) (ks : List Str) (arr : List D → List D → Option (List D)) : Prop where
  plain : ks = [] → ∃ ds dvs, Binds Γ.K fd ps ds ∧ Vals dvs ds ∧ ∀ G ρ vs xs full, Reps Γ G ρ vs xs → arr xs [] = some full → Reps Γ G ρ (vs ++ dvs) full
  kws : ks ≠ [] → ∃ n g gV, KBn Γ.K fd ps n ks g gV ∧ ∀ G ρ vs zs xs ys full, Reps Γ G ρ vs xs → Reps Γ G ρ zs ys → arr xs ys = some full → Reps Γ G ρ (gV vs zs) full ∧ vs.length = n ∧ zs.length = ks.length

structure FnFact (Γ : Cfg) (S : Sta) (C : Cal) (CX : CXT) (k : Nat) (f : Nat) (x : Str) : Prop where
  mg : Γ.mg x = some (.ref (Γ.fA f))
  kp : PySem.W.keepIn Γ.K (.ref (Γ.fA f)) = true
  ok : ∃ fd ps n, FnG Γ.P Γ.w Γ.K Γ.mg Γ.base CX k (Γ.fA f) fd ps (spF Γ (C.cal f) n) ∧ (∀ ds M, ds.length ≠ n → C.cal f ds M = .stk) ∧ ∀ sh ks, S.kw f sh = some ks → ShFact Γ fd ps ks (C.arr f sh)

structure Tab (Γ : Cfg) (S : Sta) (C : Cal) (CX : CXT) (k : Nat) : Prop where
  nd : S.N.Nodup
  glob : ∀ i x, S.gn[i]? = some x → ∃ u v, Γ.mg x = some u ∧ RelV v u ∧ ∀ G ρ, Rep Γ G ρ v (C.gl i)
  fns : ∀ f x, S.fn[f]? = some x → FnFact Γ S C CX k f x
  blt : ∀ x ∈ S.bn, Γ.mg x = none
  cx0 : ∀ outer H s e s', CX outer H s E0 e s' → False

structure XOk (Γ : Cfg) (S : Sta) (CX : CXT) (k : Nat) (c : SC) (X : Cx) (E : XK) : Prop where
  prog : X.prog = Γ.P
  w : X.w = Γ.w
  K : X.K = Γ.K
  nm : NoMix Γ.K
  mg : X.mg = Γ.mg
  base : X.base = Γ.base
  calm : X.calm = true
  N : X.N = S.N
  sc : X.env.scope = c.sc
  sto : ∀ x, stB c.o x = true → Loc X.env.scope x ∧ (X.fn x = true ∨ X.env.scope.names.lookup x = some .local)
  room : Room k X.A
  gu : X.A.guards = some []
  pass : Passes CX X E

section
variable {X : Cx}
theorem PE.imp {e : Expr} {t t' : TE} (h : PE X e t) (q : ∀ σ H Q, t' σ H Q → t σ H Q) : PE X e t' := ⟨fun pins s σ H Q I hw => h.run pins s σ H Q I (q _ _ _ hw)⟩
theorem PT.imp {e : Expr} {t t' : TT} (h : PT X e t) (q : ∀ σ H Q, t' σ H Q → t σ H Q) : PT X e t' := ⟨fun pins s σ H Q I hw => h.run pins s σ H Q I (q _ _ _ hw)⟩
theorem PW.imp {e : Expr} {t t' : TT} (h : PW X e t) (q : ∀ σ H Q, t' σ H Q → t σ H Q) : PW X e t' := ⟨fun wh pins s σ H Q I hw => h.run wh pins s σ H Q I (q _ _ _ hw)⟩
theorem PA.imp {e : List Expr} {t t' : TA} (h : PA X e t) (q : ∀ σ H Q, t' σ H Q → t σ H Q) : PA X e t' := ⟨fun p pins s σ H Q I hw => h.run p pins s σ H Q I (q _ _ _ hw)⟩
theorem PK.imp {e : List Keyword} {t t' : TA} (h : PK X e t) (q : ∀ σ H Q, t' σ H Q → t σ H Q) : PK X e t' := ⟨fun p pins s σ H Q I hw => h.run p pins s σ H Q I (q _ _ _ hw)⟩
theorem PO.imp {e : Option Expr} {t t' : TO} (h : PO X e t) (q : ∀ σ H Q, t' σ H Q → t σ H Q) : PO X e t' := ⟨fun pins s σ H Q I hw => h.run pins s σ H Q I (q _ _ _ hw)⟩
theorem PI.imp {tg e : Expr} {t t' : TI} (h : PI X tg e t) (q : ∀ σ H Q, t' σ H Q → t σ H Q) : PI X tg e t' := ⟨fun pins s σ H Q I hw => h.run pins s σ H Q I (q _ _ _ hw)⟩
theorem PS.imp {e : Stmt} {t t' : TS} (h : PS X e t) (q : ∀ D σ H, t' D σ H → t D σ H) : PS X e t' := ⟨fun pins s σ H D I hw => h.run pins s σ H D I (q _ _ _ hw)⟩
theorem PSs.imp {e : List Stmt} {t t' : TS} (h : PSs X e t) (q : ∀ D σ H, t' D σ H → t D σ H) : PSs X e t' := ⟨fun pins s σ H D I hw => h.run pins s σ H D I (q _ _ _ hw)⟩
end

theorem star_of {e : Expr} {es : List Expr} {env : PySem.Env} (h : noStar e = true) : starEach (e :: es) env = (false, eval e env) :: starEach es env := by
  cases e <;> first | rfl | cases h
theorem mark_of {e : Expr} {op : CmpOp} (h : noSet e = true) : behindInMarks op e = false := by
  cases e <;> first | rfl | cases h
theorem slc_plain {e : Expr} (h : noSlc e = true) : PlainIx e := by
  intro o i
  cases e <;> first | rfl | cases h
theorem set_plain {e : Expr} {env : PySem.Env} (h : noSet e = true) : ∀ x, foldedSetIterable e env x = pure x := by
  intro x
  cases e <;> first | rfl | cases h
theorem tru_plain {e : Expr} {env : PySem.Env} (h : plainT e = true) : ∀ whole, isTrue e env whole = (do let v ← whole; standAt e.pos; holding [v] (truthy v)) := by
  intro whole
  cases e with
  | UnaryOp op x p => cases op <;> first | rfl | cases h
  | _ => first | rfl | cases h
theorem swap_plain {e : Expr} {t : Option Expr} {l : Nat} {env : PySem.Env} (h : noComp e = true) : swapsWith e t l env = pure false := by
  cases e <;> first | rfl | cases h
theorem swap_cell {e : Expr} {n : Str} {q : Pos} {l : Nat} {env : PySem.Env} (h : env.scope.names.lookup n = some .cell) : swapsWith e (some (.Name n q)) l env = pure false := by
  have ky : env.kindOf n = some .cell := h
  unfold swapsWith
  cases e <;> first | rfl | skip
  all_goals
    simp only [ky]
    rw [show (some NameKind.cell == some NameKind.local) = false from rfl, Bool.and_false, Bool.false_and, Bool.false_and]
theorem name_ok {x : Str} (h : nameOk x = true) : (x == ("__debug__" : Str)) = false ∧ (x == ("__classdict__" : Str)) = false ∧ x ≠ "__name__" := by
  simp only [nameOk, Bool.and_eq_true, Bool.not_eq_true'] at h
  obtain ⟨⟨h1, h2⟩, h3⟩ := h
  refine ⟨h1, h2, fun e => ?_⟩
  subst e
  revert h3; decide
theorem at_ok {N : List Str} {i : Nat} {x : Str} (h : at? N i x = true) : N[i]? = some x ∧ nameOk x = true := by
  simpa [at?] using h
theorem vis_ok {sc : Scope} {x : Str} (h : visB sc x = true) : Vis sc x := by
  unfold visB at h
  split at h <;> first | exact .inl (by assumption) | exact .inr (.inl (by assumption)) | exact .inr (.inr (by assumption)) | cases h
theorem gl_ok {sc : Scope} {x : Str} (h : glB sc x = true) : sc.names.lookup x = some .globalImplicit := by
  unfold glB at h
  split at h <;> first | assumption | cases h

section
variable {Γ : Cfg} {S : Sta} {C : Cal} {CX : CXT} {k : Nat} {c : SC} {X : Cx} {E : XK}
abbrev tE (Γ : Cfg) (E : XK) (C : Cal) (ir : Mp.E) : TE := tG (XPf Γ E) (RepS Γ) Γ (fun env M => evE C ir env M)
abbrev tP (Γ : Cfg) (E : XK) (C : Cal) (ir : Mp.E) : TE := tG (XPf Γ E) (RepP Γ) Γ (fun env M => peek ir env M (evE C ir env M))
theorem pe_slot (h : XOk Γ S CX k c X E) {i : Nat} {x : Str} {p : Pos} (h1 : at? S.N i x = true) (h2 : visB c.sc x = true) : PE X (.Name x p) (tVar i) := by
  obtain ⟨a, b⟩ := at_ok h1
  obtain ⟨n1, n2, _⟩ := name_ok b
  exact pe_var (by rw [h.N]; exact a) (by rw [h.sc]; exact vis_ok h2) n1 n2
theorem slot_val {H0 G : Hp} {ρ : List Addr} {M : Sto} {σ : L2.St} {env : Env} {H : Hp} {i : Nat} {d : D} (r : Rel Γ H0 G ρ M σ env H) (e : env[i]? = some (.val d)) : ∃ v, σ[i]? = some (some v) ∧ Rep Γ G ρ v d := r.sl i _ e
/-- from a strict reading to a peeked one -/
theorem sndP (h : XOk Γ S CX k c X E) {ir : Mp.E} {e : Expr} (hc : chkE S c ir e = true) (ih : PE X e (tE Γ E C ir)) : PE X e (tP Γ E C ir) := by
  by_cases ho : ∃ i, ir = .own i
  · obtain ⟨i, rfl⟩ := ho
    cases e with
    | Name x p =>
      simp only [chkE, Bool.and_eq_true] at hc
      refine PE.imp (pe_slot h hc.1 hc.2) fun σ H Q ⟨H0, G, ρ, M, env, rel, q⟩ => ?_
      simp only [peek] at q
      cases es : env[i]? with
      | none => rw [es] at q; exact q.elim
      | some s =>
        rw [es] at q
        cases s with
        | own ds =>
          obtain ⟨a, vs, e1, e2, e3, e4, e5, e6⟩ := rel.sl i _ es
          exact ⟨_, e1, Post.now rel.toCore q (.inr ⟨a, vs, ds, rfl, rfl, e5, e3, e6⟩)⟩
        | _ => exact q.elim
    | _ => simp [chkE] at hc
  · refine PE.imp ih fun σ H Q ⟨H0, G, ρ, M, env, rel, q⟩ => ⟨H0, G, ρ, M, env, rel, ?_⟩
    have e1 : peek ir env M (evE C ir env M) = evE C ir env M := by
      cases ir <;> first | rfl | exact absurd ⟨_, rfl⟩ ho
    have q' : Post (XPf Γ E) (RepP Γ) Γ G ρ H (evE C ir env M) Q := e1 ▸ q
    show Post (XPf Γ E) (RepS Γ) Γ G ρ H (evE C ir env M) Q
    cases r : evE C ir env M with
    | ok a M' => rw [r] at q'; exact fun G' ρ' H' b st c2 hr => q' G' ρ' H' b st c2 (.inl hr)
    | exc x M' => rw [r] at q'; exact q'
    | stk => rw [r] at q'; exact q'
end
end Mp
end

section
set_option Elab.async false
set_option linter.all false
set_option maxRecDepth 100000
/-! {k: v for target in iter if ..}, keys of either kind. -/
namespace Mp
open PySem PySem.Spec L2 PyProof.Rows
section
variable {X : Cx}
/-- a new dict, of the one kind or the other -/
def void? (t : Bool) : HO := if t = true then .dT [] else .dK []
theorem void_ok {P : Program} {w : World} {H : Hp} (t : Bool) (h : Heap) (hb : sysModules < h.objs.size) : ObjOk P w H (h.push { cls := .type "dict", data := .dict #[] }) h.objs.size (void? t) := by
  cases t with
  | true => exact dt_empty h hb
  | false => exact dk_empty h hb
theorem d_put {pins : List (Addr × Obj)} {σ : L2.St} {H H' : Hp} {s : Shared} {E : Value → Shared → Prop} {D : Addr} {y v : V} {u r : Value} {Q : Unit → Shared → Prop} (hu : X.A.units < cLine) (I : L2.Inv X pins σ H s) (g : DPut H D y v H') (ry : RelV y u) (rv : RelV v r)
    (h : ∀ s', L2.Inv X pins σ H' s' → Q () s') : wpAny (model X.prog X.w) X.A (dictSet D u r) Q E s := by
  rcases g with ⟨kvs, k, e, ey, l, eH⟩ | ⟨kvs, k, b, e, ey, eb, l, eH⟩
  · subst ey eH
    exact d_dictSet I e l ry rv h
  · subst ey eH
    cases (show u = Value.ref b from ry)
    obtain ⟨z, hd, xs, rel, dd⟩ := dt_of I.hok e
    have hz : xs.length ≤ sizeLine := by rw [← Paired.length rel]; exact z
    refine wpAny_dictSet_heap (hsz := hz) (show (tupleKind (mixKind X.prog X.w)).room X.A from hu) (key_of I.hok eb) dd fun h' d2 hs => h _ ?_
    obtain ⟨q, es, ep, hq, h2, h3, h4, _, h5⟩ := d2
    refine d_write I (by rw [e]; exact True.intro) hs ⟨q, hq⟩ ⟨?_, hd, _, (rel.put k eb rv).keeps fun c ys ec => ?_, q, es, ep, hq, h2, h3, h4, h5⟩
    · have := length_putK kvs k v; omega
    · rw [upd_ne (ne_of ec e (fun z => nomatch z))]
      exact ec
/-- what a dict comprehension asks: D the new dict -/
def tDcG (t : Bool) (wi : TI) (g : TG) (tt : TT) (tk tv : TE) (vs : List Nat) : TE := fun σ H Q => wi σ H fun J H1 => ∀ D, H1 D = none → ∃ W : Nat → Nat → Hp → Prop, (∃ m, W 0 m (upd H1 D (void? t))) ∧ ∀ i m H, W i m H →
  (J.stop i H ∧ Q (.ref D) H) ∨ (J.go i H ∧ ∃ Nx : Hp → Prop, (∀ H', Nx H' → ∃ m', m' < m ∧ W (i + 1) m' H') ∧ ∀ x H', J.yld i H x H' → g x (L2.wipe σ vs) H' fun σ2 H2 => L2.wipe σ2 vs = L2.wipe σ vs ∧ tt σ2 H2 fun b H3 =>
    if b = true then tk σ2 H3 fun y H4 => tv σ2 H4 fun z H5 => ∃ H6, DPut H5 D y z H6 ∧ Nx H6 else Nx H3)
theorem dcG_core {pins : List (Addr × Obj)} {s : Shared} {σ : L2.St} {H : Hp} {Q : VK} {kx vx tg iter : Expr} {ifs : List Expr} {scope : Scope} {own : List (Str × Nat)} {pos pos' : Pos} {t : Bool} {wi : TI} {g : TG} {tt : TT} {tk tv : TE} {use : Option (Value → Sem Unit)} {Qf : Value → Shared → Prop}
    (hu : X.A.units < cLine) (hc : X.calm = true) (hN : X.N.Nodup) (I : L2.Inv X pins σ H s) (hi : PI X tg iter wi) (ok : BlkOk X.N X.env.scope scope own)
    (hg : ∀ (s : Shared) (H : Hp) (C : Addr) (cl : List (Str × Addr)) (fp : List Addr), PG (X.blk s H scope (compEnvC scope cl C X.env) fp) tg g) (ht : ∀ (s : Shared) (H : Hp) (C : Addr) (cl : List (Str × Addr)) (fp : List Addr), PTs (X.blk s H scope (compEnvC scope cl C X.env) fp) ifs tt)
    (hk : ∀ (s : Shared) (H : Hp) (C : Addr) (cl : List (Str × Addr)) (fp : List Addr), PE (X.blk s H scope (compEnvC scope cl C X.env) fp) kx tk)
    (he : ∀ (s : Shared) (H : Hp) (C : Addr) (cl : List (Str × Addr)) (fp : List Addr), PE (X.blk s H scope (compEnvC scope cl C X.env) fp) vx tv) (hs : ∀ x, foldedSetIterable iter X.env x = pure x)
    (h : tDcG t wi g tt tk tv (own.map (·.2)) σ H Q)
    (hRR : ∀ D C s' m H', L2.Inv X pins σ H' s' → Q (.ref D) H' → s'.heap.Ns C m → FpOk X pins H' C → compPost (model X.prog X.w) X.A X.xe use Qf (.ref D) C (.ok .next) s') :
    wpAny (model X.prog X.w) X.A (comprehension (.DictComp kx vx [⟨tg, iter, ifs, 0⟩] scope pos) scope X.env pos' newDict false (eval iter X.env) use) Qf X.xe s := by
  have hfree : ∀ y ∈ scope.names, y.2 = .free → ∃ c, X.env.cells.lookup y.1 = some c := fun y hy e => (ok.free y hy e).elim (fun k => I.ok.has _ (.inl k)) fun k => I.ok.has _ (.inr k)
  refine wpAny_comprehension_free (use := use) rfl hs (closure_ok hfree) ok.kind (fun y hy e => by rw [ok.uniq y hy, e]) (thn (hi.run pins s σ H _ I h) fun xv s1 hx => thn hx fun itv s2 h2 => ?_)
  obtain ⟨it, fp, tn, J, H2, e, I2, T, st2, f2, q⟩ := h2
  subst e
  refine wpAny_newObj_type (newEnv_comp ?_)
  generalize hD : s2.heap.objs.size = D
  obtain ⟨W, ⟨m0, w0⟩, turn⟩ := q D (I2.hok.fresh (Nat.le_of_eq hD))
  generalize hs3 : ({ s2 with heap := s2.heap.push { cls := .type "dict", data := .dict #[] } } : Shared) = s3
  have I3 : L2.Inv X pins σ (upd H2 D (void? t)) s3 := by
    rw [← hs3]
    refine I2.laid (t' := s2.toks) (fun b o e => Heap.get?_push_of_some _ e) (Nat.le_of_eq hD) ?_
    rw [← hD]
    exact void_ok t s2.heap I2.big
  have h3 : s3.heap = s2.heap.push { cls := .type "dict", data := .dict #[] } := by rw [← hs3]
  have f3 : ∀ b ∈ fp, FpOk X pins (upd H2 D (void? t)) b ∧ b < s3.heap.objs.size := fun b hb => by
    obtain ⟨o, e, _⟩ := T.obj _ _ st2 b hb
    have hlt := Heap.lt_size e
    refine ⟨⟨?_, (f2 b hb).2⟩, by rw [h3, Heap.size_push]; exact Nat.lt_succ_of_lt hlt⟩
    rw [upd_ne (by rw [← hD]; exact Nat.ne_of_lt hlt)]
    exact (f2 b hb).1
  have st3 : tn 0 s3.heap := T.keep _ _ _ st2 fun b _ o e => by rw [h3]; exact Heap.get?_push_of_some _ e
  have I4 := block_start I3 ok hN f3
  have pg := hg s3 (upd H2 D (void? t)) s3.heap.objs.size (cellsFrom (s3.heap.objs.size + 1) scope.names (cloFrom X.env.cells scope.names [])) fp
  have pt := ht s3 (upd H2 D (void? t)) s3.heap.objs.size (cellsFrom (s3.heap.objs.size + 1) scope.names (cloFrom X.env.cells scope.names [])) fp
  have pk := hk s3 (upd H2 D (void? t)) s3.heap.objs.size (cellsFrom (s3.heap.objs.size + 1) scope.names (cloFrom X.env.cells scope.names [])) fp
  have pe := he s3 (upd H2 D (void? t)) s3.heap.objs.size (cellsFrom (s3.heap.objs.size + 1) scope.names (cloFrom X.env.cells scope.names [])) fp
  show codeAny _ _ (.compStart (.DictComp kx vx [⟨tg, iter, ifs, 0⟩] scope pos) 0 (.ref it) (.ref D) (compEnvC scope (cellsFrom (s3.heap.objs.size + 1) scope.names (cloFrom X.env.cells scope.names [])) s3.heap.objs.size X.env)) (compPost (model X.prog X.w) X.A X.xe use Qf (.ref D) s3.heap.objs.size) { s3 with heap := pushCells (s3.heap.push { cls := .type "dict", data := .dict #[] }) scope.names }
  have nfp : ∀ b ∈ fp, (upd H2 D (void? t)) b = none := fun b hb => (f3 b hb).1.1
  generalize hce : compEnvC scope (cellsFrom (s3.heap.objs.size + 1) scope.names (cloFrom X.env.cells scope.names [])) s3.heap.objs.size X.env = ce at I4 pg pt pk pe ⊢
  have cL : ce.locals = s3.heap.objs.size := by subst hce; rfl
  generalize hH3 : upd H2 D (void? t) = H3 at I3 I4 pg pt pk pe w0 nfp f3
  generalize hs4 : ({ s3 with heap := pushCells (s3.heap.push { cls := .type "dict", data := .dict #[] }) scope.names } : Shared) = s4 at I4 ⊢
  have st4 : tn 0 s4.heap := T.keep _ _ _ st3 fun b _ o e => by rw [← hs4]; exact pushCells_keeps _ _ _ _ (Heap.get?_push_of_some _ e)
  have stat : ∀ {σ' : L2.St} {H' : Hp} {s' : Shared}, L2.Inv (X.blk s3 H3 scope ce fp) [] σ' H' s' → (∀ b ∈ fp, H' b = none) → ∀ b ∈ fp, FpOk (X.blk s3 H3 scope ce fp) [] H' b := fun {σ' H' s'} I' hn b hb =>
    ⟨hn b hb, (I'.ok.exf b hb).1, I'.ok.exfs b hb, .inl hb, fun x c e => (I'.ok.exf b hb).2 x c e, fun p hp => absurd (show p ∈ ([] : List (Addr × Obj)) ++ [] from hp) (by simp)⟩
  refine codeAny_compStart_dict ?loop (T.self X.A 0 _ _ _ st4 ?loop)
  refine compLoop_anyD (fun n s' => ∃ i H', L2.Inv (X.blk s3 H3 scope ce fp) [] (L2.wipe σ (own.map (·.2))) H' s' ∧ tn i s'.heap ∧ (∀ b ∈ fp, H' b = none) ∧ W i n H') ?_ m0 ⟨0, H3, I4, st4, nfp, w0⟩
  rintro n s5 ⟨i, H5, I5, st5, n5, w5⟩
  rcases turn i n H5 w5 with ⟨stop, qq⟩ | ⟨go, Nx, hNx, step⟩
  · refine thnF (T.done (X.blk s3 H3 scope ce fp) rfl rfl rfl hc i [] s5 _ H5 (fun _ _ => False) I5 (stat I5 n5) st5 stop) fun r s6 ⟨hr, I6⟩ => ?_
    subst hr
    have I7 : L2.Inv X pins σ H5 s6 := I3.call' (ch := fp) I6.os I6.base I6.hok I6.bare fun b hb => ⟨(f3 b hb).1.2.2.2.1, (f3 b hb).1.2.1, (f3 b hb).1.2.2.2.2.1, (f3 b hb).1.2.2.2.2.2⟩
    have nC : H5 s3.heap.objs.size = none := by
      have z : H5 ce.locals = none := I6.free
      rw [cL] at z
      exact z
    obtain ⟨m, hn, _⟩ := I6.loc
    have hn : s6.heap.Ns ce.locals m := hn
    rw [cL] at hn
    exact hRR D s3.heap.objs.size s6 m H5 I7 qq hn (I3.fpOk (Nat.le_refl _) nC)
  · refine thnF (T.item (X.blk s3 H3 scope ce fp) rfl rfl rfl hc i [] s5 _ H5 (fun _ _ => False) I5 (stat I5 n5) st5 go) fun r s6 ⟨u, hr, h6⟩ => ?_
    subst hr
    refine thnF h6 fun _ s7 ⟨x, H7, I7, r7, y7, st7, n7⟩ => ?_
    refine thnF (pg.run _ s7 _ H7 x u _ (I7.pinned (stat I7 n7) (T.obj _ _ st7)) r7 (step x H7 y7)) fun _ s8 ⟨σ8, H8, I8, hw8, q8⟩ => ?_
    refine thnF (pt.run _ s8 σ8 H8 _ I8 q8) fun b s9 ⟨H9, I9, q9⟩ => ?_
    have fin : ∀ {s' : Shared} {H' : Hp}, L2.Inv (X.blk s3 H3 scope ce fp) ([] ++ pinsAt fp s7.heap) σ8 H' s' → Nx H' → ∃ m, m < n ∧ ∃ i H', L2.Inv (X.blk s3 H3 scope ce fp) [] (L2.wipe σ (own.map (·.2))) H' s' ∧ tn i s'.heap ∧ (∀ b ∈ fp, H' b = none) ∧ W i m H' := fun {s' H'} I' nx => by
      obtain ⟨m', hm, w'⟩ := hNx H' nx
      have pin' : ∀ b ∈ fp, ∀ o, s7.heap.get? b = some o → s'.heap.get? b = some o ∧ H' b = none := fun b hb o e =>
        let z := I'.pin (b, o) (List.mem_append_right _ (List.mem_append_right _ (mem_pinsAt hb e)))
        ⟨z.1, z.2.1⟩
      have hl : (L2.wipe σ (own.map (·.2))).length = σ8.length := by rw [← hw8, wipe_length]
      refine ⟨m', hm, i + 1, H', (I'.unpinned (pins := [])).weak hl (fun j v e => ?_), T.keep _ _ _ st7 fun b hb o e => (pin' b hb o e).1, fun b hb => ?_, w'⟩
      · rw [← hw8] at e
        exact (wipe_some e).1
      · obtain ⟨o, e, _⟩ := T.obj _ _ st7 b hb
        exact (pin' b hb o e).2
    cases b with
    | false =>
      simp only [Bool.false_eq_true, if_false] at q9 ⊢
      exact fin I9 q9
    | true =>
      simp only [if_true] at q9 ⊢
      refine thnF (pk.run _ s9 σ8 H9 _ I9 q9) fun z s10 ⟨yk, H10, I10, r10, q10⟩ => ?_
      refine thnF (pe.run _ s10 σ8 H10 _ I10 q10) fun z2 s11 ⟨yv, H11, I11, r11, H12, dp, nx⟩ => ?_
      exact d_put (X := X.blk s3 H3 scope ce fp) hu I11 dp r10 r11 fun s12 I12 => fin I12 nx
/-- as a value -/
theorem pe_dcG {kx vx tg iter : Expr} {ifs : List Expr} {scope : Scope} {own : List (Str × Nat)} {pos : Pos} {t : Bool} {wi : TI} {g : TG} {tt : TT} {tk tv : TE} (hu : X.A.units < cLine) (hc : X.calm = true) (hN : X.N.Nodup) (hi : PI X tg iter wi) (ok : BlkOk X.N X.env.scope scope own)
    (hg : ∀ (s : Shared) (H : Hp) (C : Addr) (cl : List (Str × Addr)) (fp : List Addr), PG (X.blk s H scope (compEnvC scope cl C X.env) fp) tg g) (ht : ∀ (s : Shared) (H : Hp) (C : Addr) (cl : List (Str × Addr)) (fp : List Addr), PTs (X.blk s H scope (compEnvC scope cl C X.env) fp) ifs tt)
    (hk : ∀ (s : Shared) (H : Hp) (C : Addr) (cl : List (Str × Addr)) (fp : List Addr), PE (X.blk s H scope (compEnvC scope cl C X.env) fp) kx tk)
    (he : ∀ (s : Shared) (H : Hp) (C : Addr) (cl : List (Str × Addr)) (fp : List Addr), PE (X.blk s H scope (compEnvC scope cl C X.env) fp) vx tv) (hs : ∀ x, foldedSetIterable iter X.env x = pure x) :
    PE X (.DictComp kx vx [⟨tg, iter, ifs, 0⟩] scope pos) (tDcG t wi g tt tk tv (own.map (·.2))) := by
  refine ⟨fun pins s σ H Q I h => ?_⟩
  rw [arm_eval_DictComp]
  refine dcG_core hu hc hN I hi ok hg ht hk he hs h fun D C s' m H' I' q hn f => ⟨m, hn, fun h'' sb => ?_⟩
  obtain ⟨f0, f1, f2, f3, f4, f5⟩ := f
  exact ⟨.ref D, H', I'.turned (t' := s'.toks) (fun b o hb e => (sb.2 b hb).trans e) f0 f1 f3 f4 f5, rfl, q⟩
theorem swd_true {kx vx : Expr} {gs : List Comprehension} {scope : Scope} {pos py : Pos} {y : Str} {l : Nat} {env : PySem.Env} (hk : env.scope.kind = .function) (hy : env.scope.names.lookup y = some .local) (hl : (py.line == pos.line) = true)
    (ha : (scope.names.any fun (n, k) => n == y && (k == .local || k == .cell)) = false) : swapsWith (.DictComp kx vx gs scope pos) (some (.Name y py)) l env = pure true := by
  have ky : env.kindOf y = some .local := hy
  have hb : env.blockKind = .function := by unfold PySem.Env.blockKind; rw [hk]; rfl
  unfold swapsWith
  simp only [hb, ky, ha, Expr.pos, hl]
  rfl
/-- name = {..} on one line, the name a local -/
theorem ps_setDcG {i : Nat} {y : Str} {py : Pos} {kx vx tg iter : Expr} {ifs : List Expr} {scope : Scope} {own : List (Str × Nat)} {pos spos : Pos} {t : Bool} {wi : TI} {g : TG} {tt : TT} {tk tv : TE} (hu : X.A.units < cLine) (hc : X.calm = true) (hN : X.N.Nodup) (hy : X.N[i]? = some y) (hyl : X.env.scope.names.lookup y = some .local)
    (hsw : swapsWith (.DictComp kx vx [⟨tg, iter, ifs, 0⟩] scope pos) (some (.Name y py)) spos.line X.env = pure true) (hi : PI X tg iter wi) (ok : BlkOk X.N X.env.scope scope own)
    (hg : ∀ (s : Shared) (H : Hp) (C : Addr) (cl : List (Str × Addr)) (fp : List Addr), PG (X.blk s H scope (compEnvC scope cl C X.env) fp) tg g) (ht : ∀ (s : Shared) (H : Hp) (C : Addr) (cl : List (Str × Addr)) (fp : List Addr), PTs (X.blk s H scope (compEnvC scope cl C X.env) fp) ifs tt)
    (hk : ∀ (s : Shared) (H : Hp) (C : Addr) (cl : List (Str × Addr)) (fp : List Addr), PE (X.blk s H scope (compEnvC scope cl C X.env) fp) kx tk)
    (he : ∀ (s : Shared) (H : Hp) (C : Addr) (cl : List (Str × Addr)) (fp : List Addr), PE (X.blk s H scope (compEnvC scope cl C X.env) fp) vx tv) (hs : ∀ x, foldedSetIterable iter X.env x = pure x) :
    PS X (.Assign [.Name y py] (.DictComp kx vx [⟨tg, iter, ifs, 0⟩] scope pos) spos) (tAsg (tDcG t wi g tt tk tv (own.map (·.2))) (gName i)) := by
  refine ⟨fun pins s σ H D I h => ?_⟩
  rw [exec_Assign_Name_used _ _ _ _ hsw]
  refine wpAny_bind (wpAny_standAt (wpAny_bind ?_))
  show wpAny _ X.A (do let _ ← comprehension (.DictComp kx vx [⟨tg, iter, ifs, 0⟩] scope pos) scope X.env (firstIterPos [⟨tg, iter, ifs, 0⟩] pos) newDict false (eval iter X.env) (some (assign (.Name y py) X.env))) _ _ s
  have h : tDcG t wi g tt tk tv (own.map (·.2)) σ H (fun x H1 => gName i x σ H1 D.nx) := h
  refine wpAny_bind (thn (dcG_core (Qf := fun _ s' => SP X pins D .next s') hu hc hN I hi ok hg ht hk he hs h fun L C s' m H' I' q hn f => ?_) fun _ s' hq => wpAny_pure (wpAny_pure hq))
  show wpAny _ _ (assign (.Name y py) X.env (.ref L)) _ _ _
  refine wpAny_assign_Name (store_ok2 (v := V.ref L) I' hN hy (.inl hyl) rfl (fun s2 I2 ⟨a, sb, ha⟩ => ?_) (.inr hyl))
  obtain ⟨f0, f1, f2, f3, f4, f5⟩ := f
  have haC : C ≠ a := by
    rcases ha with z | z
    · rw [z]; exact f1
    · exact fun e => f4 y a z e.symm
  refine ⟨m, hn.sameBut sb haC, fun h3 sb3 => ?_⟩
  exact ⟨_, H', I2.turned (t' := s2.toks) (fun b o hb e => (sb3.2 b hb).trans e) f0 f1 f3 f4 f5, q⟩
end
end Mp
end

section
set_option Elab.async false
set_option linter.all false
set_option maxRecDepth 100000
/-! enumerate of a tuple; items of a dict with tuple keys. -/
namespace Mp
open PySem PySem.Spec L2 PyProof.Rows
open AutoSeq1 (wpAny_loadPart')
theorem meets_enum_newT (l : Addr) (items : Array Value) (n : Nat) (dct : Option Addr) (sl : Array (Option Value)) :
    Meets (Builtin.«enumerate.__new__» ⟨[.type "enumerate", .ref l], []⟩) (fun _ R s => s.heap.get? l = some { cls := .type "tuple", dict := dct, data := .seq items n, slots := sl } ∧
      R (.ok (.ret (.ref (s.heap.push { cls := .type "tuple_iterator", data := .fields #[.ref l, .int 0 0] }).objs.size)))
        { s with heap := (s.heap.push { cls := .type "tuple_iterator", data := .fields #[.ref l, .int 0 0] }).push { cls := .type "enumerate", data := .fields #[.none, .bool false, .ref s.heap.objs.size, rawInt 0, .none, .none] } }) :=
  .of_wp fun prog w A R s h => by
    obtain ⟨hp, g, d, tk, os⟩ := s; obtain ⟨hl, h⟩ := h
    have hsub := sub_enumerate
    have hL : Heap.IsTuple (Shared.heap ⟨hp, g, d, tk, os⟩) l items := ⟨_, hl, rfl, n, rfl⟩
    wp_walk using wpAny_loadPart' hl
    refine wpAny_stack_any fun st => wpAny_pure ?_
    split
    · rename_i c _ _ _ _ _
      cases (c == Value.type "enumerate") <;> (wp_walk using wpAny_loadPart' hl, wpAny_pyIter_tuple hL; exact ⟨_, rfl, h⟩)
    · wp_walk using wpAny_loadPart' hl, wpAny_pyIter_tuple hL
      exact ⟨_, rfl, h⟩
theorem call_enum_tuple {prog : Program} {w : World} {A : Around} {E : Value → Shared → Prop} {s : Shared} {l : Addr} {items : Array Value} {Q : Value → Shared → Prop} (hL : s.heap.IsTuple l items)
    (h : ∀ h', IsEnum h' (s.heap.objs.size + 1) s.heap.objs.size 0 .none → h'.IsTupleIter s.heap.objs.size l 0 → h'.objs.size = s.heap.objs.size + 2 → (∀ b o, s.heap.get? b = some o → h'.get? b = some o) → Q (.ref (s.heap.objs.size + 1)) { s with heap := h' }) :
    wpAny (model prog w) A (call (.type "enumerate") [.ref l]) Q E s := by
  obtain ⟨⟨c, dct, dt, sl⟩, hl, hc, n, hd⟩ := hL
  simp only at hc hd
  subst hc hd
  refine callType_new F.called_enumerate (by decide) (F.typeCall_enumerate_1 _) (F.newCall_enumerate_1 _) (fun obj => F.args_object_init_2 obj _) F.entry_enumerate_new (meets_enum_newT l items n dct sl) ⟨hl, ?_⟩
  have hz : (s.heap.push { cls := .type "tuple_iterator", data := .fields #[.ref l, .int 0 0] }).objs.size = s.heap.objs.size + 1 := Heap.size_push ..
  show _ ∧ _
  rw [hz]
  have he : IsEnum ((s.heap.push { cls := .type "tuple_iterator", data := .fields #[.ref l, .int 0 0] }).push { cls := .type "enumerate", data := .fields #[.none, .bool false, .ref s.heap.objs.size, rawInt 0, .none, .none] }) (s.heap.objs.size + 1) s.heap.objs.size 0 .none := by
    have := Heap.get?_push_size (s.heap.push { cls := .type "tuple_iterator", data := .fields #[.ref l, .int 0 0] }) (o := { cls := .type "enumerate", data := .fields #[.none, .bool false, .ref s.heap.objs.size, rawInt 0, .none, .none] }) rfl
    rw [hz] at this; exact this
  exact ⟨⟨_, he, rfl⟩, h _ he ⟨_, Heap.get?_push_of_some _ (Heap.get?_push_size _ rfl), rfl, rfl⟩ (by rw [Heap.size_push, hz]) fun b o x => Heap.get?_push_of_some _ (Heap.get?_push_of_some _ x)⟩
/-- a tuple's items, each in a new pair -/
def IteT (K : PySem.W.Frag) (a : Addr) : L2.It :=
  ⟨fun i H => ∃ (xs : List V) (x : V), SqT K H a xs ∧ xs[i]? = some x, fun i H v H' => ∃ T x, v = .ref T ∧ H T = none ∧ H' = upd H T (.tup [.int (i : Nat), x]) ∧ ∀ xs, SqT K H a xs → xs[i]? = some x, fun i H => ∃ xs : List V, SqT K H a xs ∧ xs.length ≤ i⟩
theorem turn_enumT {P : Program} {w : World} {K : PySem.W.Frag} {elts : List Expr} {kk : Nat} {tpos : Pos} (a e it : Addr) (hai : a ≠ it) (hae : a ≠ e) :
    Turn P w K (.Tuple elts kk tpos) (IteT K a) [e, it] e (fun i h => (∃ old, IsEnum h e it ((i : Nat) : Int) old) ∧ h.IsTupleIter it a i ∧ e ≠ it) where
  mem := by simp
  obj := fun i h st b hb => by
    obtain ⟨⟨old, he⟩, ⟨o, ho, hc, hd⟩, _⟩ := st
    have e' : b = e ∨ b = it := by simpa using hb
    rcases e' with z | z
    · rw [z]; exact ⟨_, he, fun v q => nomatch q⟩
    · rw [z]; exact ⟨o, ho, fun v q => by rw [hd] at q; cases q⟩
  keep := fun i h h' st k => let ⟨⟨old, he⟩, hi, hne⟩ := st; ⟨⟨old, k e (by simp) _ he⟩, hi.at fun o q => k it (by simp) o q, hne⟩
  item := by
    intro X hP hw hK hc i pins s σ H E I hf st hg
    subst hP hw hK
    obtain ⟨⟨old, he⟩, hit, hne⟩ := st
    obtain ⟨xs, x, hq, hx⟩ := hg
    obtain ⟨its, rv, p, hz⟩ := I.tuple hq
    obtain ⟨u, hu, ru⟩ := rv.get hx
    have hel : e < s.heap.objs.size := Heap.lt_size he
    have hil : it < s.heap.objs.size := by obtain ⟨_, q, _⟩ := hit; exact Heap.lt_size q
    have hix : i < its.toArray.size := by
      have := (List.getElem?_eq_some_iff.mp hu).1
      rw [List.size_toArray]; exact this
    refine wpAny_pyNext_enum_itemD (Draws.tuple (A := X.A.in1) (I.ok.hd hc) it a hai its.toArray) he ⟨hit, p⟩ hix hne (by simp; exact ⟨hne, fun z => hae z.symm⟩) fun y h' tk hP ho hst hT hsz hk => ?_
    have ey : y = u := by
      have h1 : its.toArray[i]? = some y := hP
      have h2 : its.toArray[i]? = some u := by simpa using hu
      rw [h2] at h1; exact (Option.some.inj h1).symm
    subst ey
    refine ⟨_, rfl, wpAny_letOwnedTupleGo_enum (s := { s with heap := h', toks := tk + 1 }) ho fun h'' he' sb => ?_⟩
    have hT2 : h''.get? s.heap.objs.size = some { cls := .type "tuple", data := .seq #[.int i tk, y] } := (sb.2 _ (Nat.ne_of_gt hel)).trans hT
    have new : ObjOk X.prog X.w (upd H s.heap.objs.size (.tup [.int (i : Nat), x])) h'' s.heap.objs.size (.tup [.int (i : Nat), x]) :=
      ⟨by show 2 ≤ sizeLine; decide, [.int i tk, y], .cons ⟨_, rfl⟩ (.cons ru .nil), ⟨_, hT2, rfl, _, rfl⟩⟩
    have I1 : L2.Inv X pins σ (upd H s.heap.objs.size (.tup [.int (i : Nat), x])) { s with heap := h'', toks := tk + 1 } :=
      I.turnedNew (ch := [e, it]) (fun b ob hb q => (sb.2 b (fun z => hb (by simp [z]))).trans (hk b ob (fun z => hb (by simp [z])) (fun z => hb (by simp [z])) q)) hf (Nat.le_refl _) new
    refine ⟨.ref s.heap.objs.size, _, I1, rfl, ⟨_, x, rfl, I.hok.fresh (Nat.le_refl _), rfl, fun ys hy => by rw [I.tuple_inj hy hq]; exact hx⟩, ⟨⟨y, ?_⟩, hst.1.at fun o q => (sb.2 it (Ne.symm hne)).trans q, hne⟩, fun b hb => ?_⟩
    · have e1 : ((i + 1 : Nat) : Int) = (i : Int) + 1 := by omega
      rw [e1]; exact he'
    · have hb' : b < s.heap.objs.size := by
        have e' : b = e ∨ b = it := by simpa using hb
        rcases e' with z | z
        · rw [z]; exact hel
        · rw [z]; exact hil
      rw [upd_ne (Nat.ne_of_lt hb')]
      exact (hf b hb).1
  done := by
    intro X hP hw hK hc i pins s σ H E I hf st hg
    subst hP hw hK
    obtain ⟨⟨old, he⟩, hit, hne⟩ := st
    obtain ⟨xs, hq, hx⟩ := hg
    obtain ⟨its, rv, p, hz⟩ := I.tuple hq
    obtain ⟨f0, f1, f2, f3, f4, f5⟩ := hf it (by simp)
    have hl := rv.length
    have hT : s.TypeIs (.ref e) "enumerate" := ⟨_, he, rfl⟩
    unfold pyNext
    refine wpAny_bind (wpAny_attempt (wpAny_callSpecial?_slot (name := Str.ofString "__next__") hT F.slot_enumerate_next (wpAny_call_entry F.slot_enumerate_next hT F.entry_enumerate_next ?_ (F.args_enumerate_next_1 _))))
    show wpAny _ _ (field (.ref e) 2 >>= _) _ _ _
    refine wpAny_bind (wpAny_field he rfl (x := .ref it) rfl ?_)
    refine wpAny_bind (wpAny_nextOf_tuple_end (I.ok.hd hc) hit p (by simp; omega) fun h' x eb hx' => ?_)
    obtain ⟨o, ho, hc'⟩ := hx'
    refine wpAny_bind (wpAny_isInstance (T := "StopIteration") (b := true) ⟨o, ho, hc'⟩ isSubtype_stop ?_)
    exact wpAny_pure ⟨rfl, I.turned (t' := s.toks) (fun b o hb q => eb b o hb q) f0 f1 f3 f4 f5⟩
  self := fun A i s Q E st h => let ⟨⟨_, he⟩, _⟩ := st; wpAny_pyIter_enum he h
def iEnumA (K : PySem.W.Frag) (ta : TA) : TI := fun σ H R => ta σ H fun vs H1 => ∃ a xs, vs = [V.ref a] ∧ ((SqL K H1 a xs ∧ R (Ite K a) H1) ∨ (SqT K H1 a xs ∧ R (IteT K a) H1))
theorem pi_enumA {X : Cx} {e : Expr} {ta : TA} {p pos tpos : Pos} {elts : List Expr} {kk : Nat} (hg : Gl X "enumerate") (hm : X.mg "enumerate" = none) (ha : PA X [e] ta) (hs : starEach [e] X.env = [(false, eval e X.env)]) :
    PI X (.Tuple elts kk tpos) (.Call (.Name "enumerate" p) [e] [] pos) (iEnumA X.K ta) := by
  refine ⟨fun pins s σ H R I h => ?_⟩
  refine Call_ (ld_blt I hg hm boot_enumerate (callWith_type1 (thn (ha.run pos pins s σ H _ I h) fun us s1 ⟨vs, H1, I1, r1, q1⟩ => ?_) hs rfl))
  obtain ⟨a, xs, ex, q1⟩ := q1
  subst ex
  cases r1 with
  | cons r rr =>
    cases rr
    cases r
    have fp2 : ∀ b, b ∈ [s1.heap.objs.size + 1, s1.heap.objs.size] → FpOk X pins H1 b := fun b hb => by
      have e' : b = s1.heap.objs.size + 1 ∨ b = s1.heap.objs.size := by simpa using hb
      have hle : s1.heap.objs.size ≤ b := by
        rcases e' with z | z
        · rw [z]; exact Nat.le_add_right _ _
        · rw [z]; exact Nat.le_refl _
      exact I1.fpOk hle (I1.hok.fresh hle)
    rcases q1 with ⟨hq, q⟩ | ⟨hq, q⟩
    · obtain ⟨its, rv, p', hz⟩ := I1.list hq
      refine call_enumerate_list p'.isList fun h' he hit hsz hk => wpAny_pyIter_enum he ?_
      exact ⟨_, [s1.heap.objs.size + 1, s1.heap.objs.size], _, _, H1, rfl, I1.kept (t' := s1.toks) hk, turn_enum a (s1.heap.objs.size + 1) s1.heap.objs.size, ⟨⟨.none, he⟩, hit, Nat.succ_ne_self _⟩, fp2, q⟩
    · obtain ⟨its, rv, p', hz⟩ := I1.tuple hq
      obtain ⟨o1, ho1, _⟩ := id p'
      have hl := Heap.lt_size ho1
      refine call_enum_tuple (show s1.heap.IsTuple a its.toArray from p') fun h' he hit hsz hk => wpAny_pyIter_enum he ?_
      exact ⟨_, [s1.heap.objs.size + 1, s1.heap.objs.size], _, _, H1, rfl, I1.kept (t' := s1.toks) hk, turn_enumT a (s1.heap.objs.size + 1) s1.heap.objs.size (Nat.ne_of_lt hl) (Nat.ne_of_lt (Nat.lt_succ_of_lt hl)), ⟨⟨.none, he⟩, hit, Nat.succ_ne_self _⟩, fp2, q⟩
end Mp
namespace Mp
open PySem PySem.Spec L2 PyProof.Rows
/-- a locked dict with tuple keys, entry by entry -/
theorem frzT2 {X : Cx} {pins : List (Addr × Obj)} {σ : L2.St} {H : Hp} {s : Shared} {d : Addr} {o : Obj} {kvs : List (List Key × V)} (I : L2.Inv X pins σ H s) (h : H d = some (.frz o (.dT kvs))) :
    (d == sysModules) = false ∧ s.heap.get? d = some o ∧ o.ExactDict ∧ ∃ (es : Array DictEntry) (ep : Nat), o.data = .dict es ep ∧ es.size = kvs.length ∧
      ∀ (i : Nat) (k : List Key) (v : V), kvs[i]? = some (k, v) → ∃ (en : DictEntry) (q : Addr), es[i]? = some en ∧ en.key = .ref q ∧ H q = some (.tup (k.map kV)) ∧ RelV v en.val := by
  obtain ⟨hd, z, hs, xs, pr, o', es, ep, ho, hx, hdt, he, _⟩ := I.hok d _ h
  rw [hd] at ho
  cases ho
  refine ⟨hs, hd, hx, es, ep, hdt, ?_, fun i k v e => ?_⟩
  · have l1 : es.size = xs.length := size_of_entries he
    have l2 : kvs.length = xs.length := Paired.length pr
    omega
  · obtain ⟨b, hb, e1, e2, e3⟩ := paired_get pr e
    have q := entry_at he i
    rw [hb] at q
    exact ⟨_, b.2.1, q, rfl, e2, e3⟩
/-- the pairs of a locked dict with tuple keys -/
def ItiT (d : Addr) (o : Obj) (kvs : List (List Key × V)) : L2.It :=
  ⟨fun i H => H d = some (.frz o (.dT kvs)) ∧ i < kvs.length, fun i H x H' => ∃ T k v q, kvs[i]? = some (k, v) ∧ x = .ref T ∧ H T = none ∧ H q = some (.tup (k.map kV)) ∧ H' = upd H T (.tup [.ref q, v]), fun i H => H d = some (.frz o (.dT kvs)) ∧ kvs.length ≤ i⟩
theorem turn_itemsT {P : Program} {w : World} {K : PySem.W.Frag} {d : Addr} {o : Obj} {es : Array DictEntry} {ep : Nat} {kvs : List (List Key × V)} {elts : List Expr} {kk : Nat} {tpos : Pos} (it : Addr) (hod : o.data = .dict es ep) (hes : es.size = kvs.length) :
    Turn P w K (.Tuple elts kk tpos) (ItiT d o kvs) [it] it (fun i h => ∃ ok ov, IsItemIter h it d i es.size ep ok ov) where
  mem := by simp
  obj := fun i h st b hb => by
    have e : b = it := by simpa using hb
    subst e
    obtain ⟨ok, ov, e⟩ := st
    exact ⟨_, e, fun v z => nomatch z⟩
  keep := fun i h h' st k => let ⟨ok, ov, e⟩ := st; ⟨ok, ov, k it (by simp) _ e⟩
  item := by
    intro X hP hw hK hc i pins s σ H E I hf st hg
    subst hP hw hK
    obtain ⟨hd, hi⟩ := hg
    obtain ⟨hs, hgd, hx, es', ep', hdt, hsz, ent⟩ := frzT2 I hd
    obtain ⟨rfl, rfl⟩ := dict_ep hod hdt
    obtain ⟨⟨k, v⟩, hkv⟩ : ∃ p, kvs[i]? = some p := ⟨kvs[i], List.getElem?_eq_getElem hi⟩
    obtain ⟨en, q, hen, hkey, hq, rv⟩ := ent i k v hkv
    obtain ⟨ok, ov, he⟩ := st
    have hlt : it < s.heap.objs.size := Heap.lt_size he
    have hi2 : i < es'.size := by omega
    have een : es'[i] = en := by
      have := Array.getElem?_eq_getElem hi2
      rw [hen] at this
      exact (Option.some.inj this).symm
    refine DT.nextI he ⟨o, hgd, hx, hdt⟩ hi2 fun h' ho hT hz hk => ?_
    rw [een] at ho hT
    refine ⟨_, rfl, wpAny_letOwnedTupleGo_items (s := { s with heap := h' }) ho fun h'' he' sb => ?_⟩
    have hT2 : h''.get? s.heap.objs.size = some { cls := .type "tuple", data := .seq #[en.key, en.val] } := (sb.2 _ (Nat.ne_of_gt hlt)).trans hT
    have new : ObjOk X.prog X.w (upd H s.heap.objs.size (.tup [.ref q, v])) h'' s.heap.objs.size (.tup [.ref q, v]) :=
      ⟨by show 2 ≤ sizeLine; decide, [en.key, en.val], .cons (show RelV (.ref q) en.key by rw [hkey]; rfl) (.cons rv .nil), ⟨_, hT2, rfl, _, rfl⟩⟩
    have I1 : L2.Inv X pins σ (upd H s.heap.objs.size (.tup [.ref q, v])) { s with heap := h'' } :=
      I.turnedNew (t' := s.toks) (ch := [it]) (fun b ob hb e => (sb.2 b (by simpa using hb)).trans (hk b ob (by simpa using hb) e)) hf (Nat.le_refl _) new
    refine ⟨.ref s.heap.objs.size, _, I1, rfl, ⟨_, k, v, q, hkv, rfl, I.hok.fresh (Nat.le_refl _), hq, rfl⟩, ⟨_, _, he'⟩, fun b hb => ?_⟩
    have e : b = it := by simpa using hb
    rw [e, upd_ne (Nat.ne_of_lt hlt)]
    exact (hf it (by simp)).1
  done := by
    intro X hP hw hK hc i pins s σ H E I hf st hg
    subst hP hw hK
    obtain ⟨hd, hi⟩ := hg
    obtain ⟨f0, f1, f2, f3, f4, f5⟩ := hf it (by simp)
    obtain ⟨hs, hgd, hx, es', ep', hdt, hsz, ent⟩ := frzT2 I hd
    obtain ⟨rfl, rfl⟩ := dict_ep hod hdt
    obtain ⟨ok, ov, he⟩ := st
    exact DT.endI (I.ok.hd hc) he ⟨o, hgd, hx, hdt⟩ (by omega) fun h' eb => ⟨rfl, I.turned (t' := s.toks) (fun b ob hb e => eb b ob hb e) f0 f1 f3 f4 f5⟩
  self := fun A i s Q E st h => let ⟨_, _, e⟩ := st; PySem.W.kcp_self e h
/-- d.items(), d locked, of either kind -/
def iItemsA (td : TE) : TI := fun σ H R => td σ H fun x H1 => ∃ d o, x = .ref d ∧ ((∃ kvs, H1 d = some (.frz o (.dK kvs)) ∧ R (Iti d o kvs) H1) ∨ ∃ kvs, H1 d = some (.frz o (.dT kvs)) ∧ R (ItiT d o kvs) H1)
theorem pi_itemsA {X : Cx} {e : Expr} {td : TE} {apos cpos : Pos} {elts : List Expr} {kk : Nat} {tpos : Pos} (he : PE X e td) (hbase : attributeBase e "items" X.env (eval e X.env) = eval e X.env) (hline : (apos.endLine == cpos.line) = true) :
    PI X (.Tuple elts kk tpos) (.Call (.Attribute e "items" apos) [] [] cpos) (iItemsA td) := by
  refine ⟨fun pins s σ H R I h => ?_⟩
  refine wpAny_Call_method (T := "dict") (id := "dict.items") hbase rfl hline F.plainAttrs_dict F.slot_dict_items F.type_dict_items (thn (he.run pins s σ H _ I h) fun u s1 ⟨x, H1, I1, rx, d, o, ex, q⟩ => ?_)
  subst ex
  obtain rfl : u = Value.ref d := rx
  have I2 : L2.Inv X pins σ H1 { s1 with heap := s1.heap.push { cls := .type "dict_items", data := .fields #[.ref d] } } := I1.kept (t' := s1.toks) fun b ob q => Heap.get?_push_of_some _ q
  rcases q with ⟨kvs, hd, q⟩ | ⟨kvs, hd, q⟩
  · obtain ⟨hs, hgd, hx, es, ep, vs, hdt, hsz, kv, hm⟩ := I1.frzK hd
    have hl : kvs.length = vs.length := Paired.length kv
    refine ⟨hm.dictOf.typeIs, hm.dictOf.mapOf.noDict, ?_⟩
    have fin : wpAny (model X.prog X.w) X.A (pyIter (.ref s1.heap.objs.size)) (PIE X pins σ (.Tuple elts kk tpos) R) X.xe { s1 with heap := s1.heap.push { cls := .type "dict_items", data := .fields #[.ref d] } } := by
      refine wpAny_pyIter_items (d := d) (knd := mixKind X.prog X.w) ⟨_, Heap.get?_push_size _ rfl, rfl, rfl⟩ (hm.push _) (pi_one (tk := s1.toks) I2 _ (turn_items _ hdt) ⟨.none, .none, ?_⟩ q)
      rw [hl]
      exact Heap.get?_push_size _ rfl
    show wpAny _ _ (callWith cpos (.builtin "dict.items") [.ref d] [] []) _ X.xe s1
    exact method_meetsIn F.slot_dict_items F.entry_dict_items rfl (PySem.evalArgs_none ⟨rfl, hm.dictOf.typeIs, F.args_dict_items_1 _, _, meets_dict_items (mixKind X.prog X.w) d hs, ⟨vs, hm.dictOf⟩, fin⟩)
  · obtain ⟨hs, hgd, hx, es, ep, hdt, hsz, ent⟩ := frzT2 I1 hd
    have raw : DT.Raw s1.heap d es ep := ⟨o, hgd, hx, hdt⟩
    refine ⟨raw.typeIs, ?_, ?_⟩
    · intro b z; cases z; exact ⟨o, hgd, hx.2.1⟩
    · have fin : wpAny (model X.prog X.w) X.A (pyIter (.ref s1.heap.objs.size)) (PIE X pins σ (.Tuple elts kk tpos) R) X.xe { s1 with heap := s1.heap.push { cls := .type "dict_items", data := .fields #[.ref d] } } := by
        refine DT.iterI (d := d) (es := es) (ep := ep) ⟨_, Heap.get?_push_size _ rfl, rfl, rfl⟩ ⟨o, Heap.get?_push_of_some _ hgd, hx, hdt⟩ (pi_one (tk := s1.toks) I2 _ (turn_itemsT _ hdt hsz) ⟨.none, .none, ?_⟩ q)
        exact Heap.get?_push_size _ rfl
      show wpAny _ _ (callWith cpos (.builtin "dict.items") [.ref d] [] []) _ X.xe s1
      exact method_meetsIn F.slot_dict_items F.entry_dict_items rfl (PySem.evalArgs_none ⟨rfl, raw.typeIs, F.args_dict_items_1 _, _, DT.meetsItems (es := es) (ep := ep) hs, raw, fin⟩)
end Mp
end

section
set_option Elab.async false
set_option linter.all false
set_option maxRecDepth 100000
/-! One lemma a construct. -/
namespace Mp
open PySem PySem.Spec L2
section
variable {Γ : Cfg} {S : Sta} {C : Cal} {CX : CXT} {k : Nat} {c : SC} {X : Cx} {E : XK} {x y z : Expr} {p : Pos} {a b d : Mp.E}

abbrev tEs (Γ : Cfg) (E : XK) (C : Cal) (es : Es) : TA := tG (XPf Γ E) (RepLS Γ) Γ (fun env M => evEs C es env M)
abbrev tPs (Γ : Cfg) (E : XK) (C : Cal) (es : Es) : TA := tG (XPf Γ E) (RepLP Γ) Γ (fun env M => evPs C es env M)
abbrev tO (Γ : Cfg) (E : XK) (C : Cal) (o : O) : TO := tG (XPf Γ E) (RepEq (Option Int)) Γ (fun env M => evO C o env M)
abbrev tT (Γ : Cfg) (E : XK) (C : Cal) (t : T) : TT := tG (XPf Γ E) (RepEq Bool) Γ (fun env M => evT C t env M)
abbrev tTs (Γ : Cfg) (E : XK) (C : Cal) (t : Ts) : TT := tG (XPf Γ E) (RepEq Bool) Γ (fun env M => evTs C t env M)
/-- what is locked stays so -/
def Fz (H H1 : Hp) : Prop := ∀ b o, isFrz o → H b = some o → H1 b = some o
theorem Fz.refl (H : Hp) : Fz H H := fun _ _ _ e => e
theorem Fz.trans {H H1 H2 : Hp} (a : Fz H H1) (b : Fz H1 H2) : Fz H H2 := fun x o f e => b x o f (a x o f e)
theorem Adv.fz {G H G' H' : Hp} {ρ ρ' : List Addr} (a : Adv G ρ H G' ρ' H') : Fz H H' := fun b o f e => a.kp b o (.inr f) e
/-- what an iterator goes through -/
def ItOk (Γ : Cfg) : RR L2.It (List D) := fun G ρ H J ds => ds.length ≤ sizeLine ∧ ∀ G1 ρ1 M1 H1 i, Sub G G1 → Pre ρ ρ1 → Fz H H1 → Core Γ G1 ρ1 M1 H1 →
  (∀ d, ds[i]? = some d → J.go i H1 ∧ ∀ x H2, J.yld i H1 x H2 → ∃ G2, Adv G1 ρ1 H1 G2 ρ1 H2 ∧ Core Γ G2 ρ1 M1 H2 ∧ Rep Γ G2 ρ1 x d) ∧ (ds.length ≤ i → J.stop i H1)
abbrev tI (Γ : Cfg) (E : XK) (C : Cal) (it : Mp.It) : TI := tG (XPf Γ E) (ItOk Γ) Γ (fun env M => evI C it env M)

theorem s_cint {i : Int} {j} : PE X (.Constant (.int i) j p) (tE Γ E C (.cint i)) := PE.imp pe_int fun σ H Q ⟨H0, G, ρ, M, env, rel, q⟩ => Post.now rel.toCore q (.int _)
theorem s_cstr {i : Str} {j} : PE X (.Constant (.str i) j p) (tE Γ E C (.cstr i)) := PE.imp pe_str fun σ H Q ⟨H0, G, ρ, M, env, rel, q⟩ => Post.now rel.toCore q (.str _)
theorem s_cbl {i : Bool} {j} : PE X (.Constant (.bool i) j p) (tE Γ E C (.cbl i)) := PE.imp pe_bl fun σ H Q ⟨H0, G, ρ, M, env, rel, q⟩ => Post.now rel.toCore q (.bl _)
theorem s_cnon {j} : PE X (.Constant .none j p) (tE Γ E C .cnon) := PE.imp pe_non fun σ H Q ⟨H0, G, ρ, M, env, rel, q⟩ => Post.now rel.toCore q .non
theorem s_var (h : XOk Γ S CX k c X E) {i : Nat} {n : Str} (h1 : at? S.N i n = true) (h2 : visB c.sc n = true) : PE X (.Name n p) (tE Γ E C (.var i)) :=
  PE.imp (pe_slot h h1 h2) fun σ H Q ⟨H0, G, ρ, M, env, rel, q⟩ => by
    simp only [evE] at q
    cases es : env[i]? with
    | none => rw [es] at q; exact q.elim
    | some s =>
      rw [es] at q
      cases s with
      | val d =>
        obtain ⟨v, e1, r⟩ := rel.sl i _ es
        exact ⟨v, e1, Post.now rel.toCore q r⟩
      | _ => exact q.elim
theorem s_own (h : XOk Γ S CX k c X E) {i : Nat} {n : Str} (h1 : at? S.N i n = true) (h2 : visB c.sc n = true) : PE X (.Name n p) (tE Γ E C (.own i)) :=
  PE.imp (pe_slot h h1 h2) fun σ H Q ⟨H0, G, ρ, M, env, rel, q⟩ => q.elim
theorem s_glob (TB : Tab Γ S C CX k) (h : XOk Γ S CX k c X E) {i : Nat} {n : Str} (h1 : at? S.gn i n = true) (h2 : glB c.sc n = true) : PE X (.Name n p) (tE Γ E C (.glob i)) := by
  obtain ⟨e1, e2⟩ := at_ok h1
  obtain ⟨u, v, m, r, rep⟩ := TB.glob i n e1
  refine PE.imp (pe_glob (show X.env.scope.names.lookup n = _ by rw [h.sc]; exact gl_ok h2) (by rw [h.mg]; exact m) r (name_ok e2).1) fun σ H Q ⟨H0, G, ρ, M, env, rel, q⟩ => ?_
  exact Post.now rel.toCore q (rep G ρ)
theorem s_fnv (TB : Tab Γ S C CX k) (h : XOk Γ S CX k c X E) {i : Nat} {n : Str} (h1 : at? S.fn i n = true) (h2 : glB c.sc n = true) : PE X (.Name n p) (tE Γ E C (.fnv i)) := by
  obtain ⟨e1, e2⟩ := at_ok h1
  have F := TB.fns i n e1
  refine PE.imp (pe_glob (v := .ref (Γ.fA i)) (show X.env.scope.names.lookup n = _ by rw [h.sc]; exact gl_ok h2) (by rw [h.mg]; exact F.mg) rfl (name_ok e2).1) fun σ H Q ⟨H0, G, ρ, M, env, rel, q⟩ => ?_
  exact Post.now rel.toCore q (.fn i)

/-! ### displays -/
def esLen : Es → Nat
  | .nil => 0
  | .cons _ r => esLen r + 1
theorem evEs_len : ∀ (es : Es) {env : Env} {M M' : Sto} {ds : List D}, evEs C es env M = .ok ds M' → ds.length = esLen es
  | .nil, env, M, M', ds, h => by simp only [evEs] at h; cases h; rfl
  | .cons e r, env, M, M', ds, h => by
    simp only [evEs] at h
    cases h1 : evE C e env M with
    | ok x M1 =>
      rw [h1, Res.bind_ok] at h
      cases h2 : evEs C r env M1 with
      | ok xs M2 =>
        rw [h2, Res.bind_ok] at h
        cases h
        simp [esLen, evEs_len r h2]
      | exc y M2 => rw [h2] at h; cases h
      | stk => rw [h2] at h; cases h
    | exc y M2 => rw [h1] at h; cases h
    | stk => rw [h1] at h; cases h
theorem chkEs_len : ∀ {es : Es} {xs : List Expr}, chkEs S c es xs = true → esLen es = xs.length
  | .nil, [], _ => rfl
  | .nil, _ :: _, h => by simp [chkEs] at h
  | .cons _ _, [], h => by simp [chkEs] at h
  | .cons e r, x :: xs, h => by
    simp only [chkEs, Bool.and_eq_true] at h
    simp [esLen, chkEs_len h.2]
theorem small_line {n : Nat} (h : n ≤ 1000) : n ≤ sizeLine := by rw [sizeLine_eq]; omega
/-- the list that an argument list gives is as long as it is written -/
theorem tEs_len {es : Es} {σ : L2.St} {H : Hp} {Q : List V → Hp → Prop} (h : tEs Γ E C es σ H Q) : tEs Γ E C es σ H (fun vs H1 => vs.length = esLen es ∧ Q vs H1) := by
  obtain ⟨H0, G, ρ, M, env, rel, q⟩ := h
  refine ⟨H0, G, ρ, M, env, rel, ?_⟩
  have q' : Post (XPf Γ E) (RepLS Γ) Γ G ρ H (evEs C es env M) Q := q
  show Post (XPf Γ E) (RepLS Γ) Γ G ρ H (evEs C es env M) _
  cases e : evEs C es env M with
  | ok ds M' => rw [e] at q'; exact fun G' ρ' H' b st c2 hr => ⟨by rw [Reps.len hr]; exact evEs_len es e, q' G' ρ' H' b st c2 hr⟩
  | exc x M' => rw [e] at q'; exact q'
  | stk => rw [e] at q'; exact q'
theorem s_tup {es : Es} {xs : List Expr} {n : Nat} (hl : esLen es ≤ 1000) (ha : PA X xs (tEs Γ E C es)) : PE X (.Tuple xs n p) (tE Γ E C (.tup es)) := by
  refine PE.imp (pe_tup ha) fun σ H Q q => ?_
  have q' : tG (XPf Γ E) (RepS Γ) Γ (fun env M => (evEs C es env M).bind fun ds M => .ok (.tup ds) M) σ H Q := q
  refine tG.mono (tEs_len (tG.bind (R1 := RepLS Γ) q')) ?_
  rintro vs H1 ⟨l, H0, G, ρ, M, env, ds, rel, r, q⟩
  refine ⟨small_line (by omega), fun n hn => ?_⟩
  have sg := sub_upd (o := HO.tup vs) (rel.toCore.fresh hn).2
  exact Post.new (a := D.tup ds) rel.toCore q hn (.tup (.inl upd_same) (Reps.mono sg (Pre.refl _) r))
theorem s_lst {es : Es} {xs : List Expr} (hl : esLen es ≤ 1000) (ha : PA X xs (tEs Γ E C es)) : PE X (.List xs p) (tE Γ E C (.lst es)) := by
  refine PE.imp (pe_lst ha) fun σ H Q q => ?_
  have q' : tG (XPf Γ E) (RepS Γ) Γ (fun env M => (evEs C es env M).bind fun ds M => .ok (.lst ds) M) σ H Q := q
  refine tG.mono (tEs_len (tG.bind (R1 := RepLS Γ) q')) ?_
  rintro vs H1 ⟨l, H0, G, ρ, M, env, ds, rel, r, q⟩
  refine ⟨small_line (by omega), fun n hn => ?_⟩
  have sg := sub_upd (o := HO.lst vs) (rel.toCore.fresh hn).2
  exact Post.new (a := D.lst ds) rel.toCore q hn (.lst (.of upd_same) (Reps.mono sg (Pre.refl _) r))

theorem s_lnew {es : Es} {xs : List Expr} (hl : esLen es ≤ 1000) (ha : PA X xs (tEs Γ E C es)) : PE X (.List xs p) (tE Γ E C (.lnew es)) := by
  refine PE.imp (pe_lst ha) fun σ H Q q => ?_
  have q' : tG (XPf Γ E) (RepS Γ) Γ (fun env M => (evEs C es env M).bind fun ds M => .ok (.obj M.length) (M ++ [.ls ds])) σ H Q := q
  refine tG.mono (tEs_len (tG.bind (R1 := RepLS Γ) q')) ?_
  rintro vs H1 ⟨l, H0, G, ρ, M, env, ds, rel, r, q⟩
  refine ⟨small_line (by omega), fun n hn => ?_⟩
  exact Post.newOb (XE := XPf Γ E) (o := .ls ds) rel.toCore hn q fun ρ' pp => ⟨vs, upd_same, Reps.mono (Same.refl _) pp r⟩

/-! ### operators -/
theorem s_bin (h : XOk Γ S CX k c X E) {o : Bop} (ha : PE X x (tE Γ E C a)) (hb : PE X y (tE Γ E C b)) : PE X (.BinOp x (opB o) y p) (tE Γ E C (.bin o a b)) := by
  refine PE.imp (pe_op (op_bin (Γ := Γ) (XE := XPf Γ E) h.K o) ha hb) fun σ H Q q => ?_
  refine tG.mono (tG.bind2 (R1 := RepS Γ) (R2 := RepS Γ) (k := fun _ x y M => binD o x y M) persS q) fun v H1 q1 => tG.mono q1 ?_
  rintro u H2 ⟨H0, G, ρ, M, env, d1, d2, rel, r1, r2, q2⟩
  exact ⟨G, ρ, M, d1, d2, rel.toCore, r1, r2, q2⟩
theorem s_neg (ha : PE X x (tE Γ E C a)) : PE X (.UnaryOp .USub x p) (tE Γ E C (.neg a)) := by
  refine PE.imp (pe_un un_neg ha) fun σ H Q q => ?_
  refine tG.mono (tG.bind (R1 := RepS Γ) (k := fun _ (x : D) M => (match x with | .int i => Res.ok (D.int (-i)) M | _ => .stk)) q) ?_
  rintro v H1 ⟨H0, G, ρ, M, env, d1, rel, r1, q2⟩
  cases r1 with
  | int i => exact ⟨i, rfl, Post.now rel.toCore q2 (.int _)⟩
  | _ => exact q2.elim
theorem s_cmp (h : XOk Γ S CX k c X E) {o : Cop} (ha : PE X x (tP Γ E C a)) (hb : PE X y (tP Γ E C b)) (hm : noSet y = true) : PE X (.Compare x [opC o] [y] p) (tE Γ E C (.cmp o a b)) := by
  refine PE.imp (pe_cmpR (op_cmp (Γ := Γ) (XE := XPf Γ E) h.K h.nm h.room.units o) ha hb (mark_of hm)) fun σ H Q q => ?_
  refine tG.mono (tG.bind2 (R1 := RepP Γ) (R2 := RepP Γ) (k := fun _ x y M => cmpD o x y M) persP q) fun v H1 q1 => tG.mono q1 ?_
  rintro u H2 ⟨H0, G, ρ, M, env, d1, d2, rel, r1, r2, q2⟩
  exact ⟨G, ρ, M, d1, d2, rel.toCore, r1, r2, q2⟩
theorem t_cmp (h : XOk Γ S CX k c X E) {o : Cop} (ha : PE X x (tP Γ E C a)) (hb : PE X y (tP Γ E C b)) (hm : noSet y = true) : PT X (.Compare x [opC o] [y] p) (tT Γ E C (.cmp o a b)) := by
  refine PT.imp (pt_cmpR (op_cmp (Γ := Γ) (XE := XPf Γ E) h.K h.nm h.room.units o) ha hb (mark_of hm)) fun σ H Q q => ?_
  refine tG.mono (tG.bind2 (R1 := RepP Γ) (R2 := RepP Γ) (k := fun _ x y M => (cmpD o x y M).bind fun z M => (match z with | .bl k => Res.ok k M | _ => .stk)) persP q) fun v H1 q1 => tG.mono q1 ?_
  rintro u H2 ⟨H0, G, ρ, M, env, d1, d2, rel, r1, r2, q2⟩
  refine ⟨G, ρ, M, d1, d2, rel.toCore, r1, r2, Post.mono (Post.bind (R1 := RepS Γ) q2) ?_⟩
  rintro v3 H3 ⟨G3, ρ3, M3, d3, st, c3, r3, q3⟩
  cases r3 with
  | bl k => exact ⟨k, rfl, Post.now c3 q3 rfl⟩
  | _ => exact q3.elim

theorem s_chn (h : XOk Γ S CX k c X E) {o pp : Cop} {dd : Mp.E} {z : Expr} (ha : PE X x (tE Γ E C a)) (hb : PE X y (tE Γ E C b)) (hd : PE X z (tE Γ E C dd)) (hm : noSet z = true) : PE X (.Compare x [opC o, opC pp] [y, z] p) (tE Γ E C (.chn o pp a b dd)) := by
  refine PE.imp (pe_chain (op_cmp (Γ := Γ) (XE := XPf Γ E) h.K h.nm h.room.units o) (op_cmp (Γ := Γ) (XE := XPf Γ E) h.K h.nm h.room.units pp) ha hb hd (mark_of hm)) fun σ H Q q => ?_
  refine tG.mono (tG.bind2 (R1 := RepS Γ) (R2 := RepS Γ) (k := fun env x y M => (cmpD o x y M).bind fun z M => (match z with
      | .bl true => (evE C dd env M).bind fun w M => cmpD pp y w M
      | .bl false => .ok (.bl false) M
      | _ => .stk)) persS q) fun v H1 q1 => tG.mono q1 ?_
  rintro u H2 ⟨H0, G, ρ, M, env, d1, d2, rel, r1, r2, q2⟩
  refine ⟨G, ρ, M, d1, d2, rel.toCore, .inl r1, .inl r2, Post.mono (Post.bind (R1 := RepS Γ) q2) ?_⟩
  rintro v3 H3 ⟨G3, ρ3, M3, d3, st, c3, r3, q3⟩
  cases r3 with
  | bl k =>
    refine ⟨k, rfl, ?_⟩
    cases k with
    | true =>
      refine ⟨H0, G3, ρ3, M3, env, rel.adv st c3, Post.mono (Post.bind (R1 := RepS Γ) q3) ?_⟩
      rintro v4 H4 ⟨G4, ρ4, M4, d4, st4, c4, r4, q4⟩
      exact ⟨G4, ρ4, M4, d2, d4, c4, .inl (persS st4 (persS (H := H2) st r2) : Rep Γ G4 ρ4 u d2), .inl r4, q4⟩
    | false => exact Post.now c3 q3 (.bl _)
  | _ => exact q3.elim
theorem t_chn (h : XOk Γ S CX k c X E) {o pp : Cop} {dd : Mp.E} {z : Expr} (ha : PE X x (tE Γ E C a)) (hb : PE X y (tE Γ E C b)) (hd : PE X z (tE Γ E C dd)) (hm : noSet z = true) : PT X (.Compare x [opC o, opC pp] [y, z] p) (tT Γ E C (.chn o pp a b dd)) := by
  refine PT.imp (pt_chain (op_cmp (Γ := Γ) (XE := XPf Γ E) h.K h.nm h.room.units o) (op_cmp (Γ := Γ) (XE := XPf Γ E) h.K h.nm h.room.units pp) ha hb hd (mark_of hm)) fun σ H Q q => ?_
  refine tG.mono (tG.bind2 (R1 := RepS Γ) (R2 := RepS Γ) (k := fun env x y M => (cmpD o x y M).bind fun z M => (match z with
      | .bl true => (evE C dd env M).bind fun w M => (cmpD pp y w M).bind fun z M => (match z with | .bl k => .ok k M | _ => .stk)
      | .bl false => .ok false M
      | _ => .stk)) persS q) fun v H1 q1 => tG.mono q1 ?_
  rintro u H2 ⟨H0, G, ρ, M, env, d1, d2, rel, r1, r2, q2⟩
  refine ⟨G, ρ, M, d1, d2, rel.toCore, .inl r1, .inl r2, Post.mono (Post.bind (R1 := RepS Γ) q2) ?_⟩
  rintro v3 H3 ⟨G3, ρ3, M3, d3, st, c3, r3, q3⟩
  cases r3 with
  | bl k =>
    refine ⟨k, rfl, ?_⟩
    cases k with
    | true =>
      refine ⟨H0, G3, ρ3, M3, env, rel.adv st c3, Post.mono (Post.bind (R1 := RepS Γ) q3) ?_⟩
      rintro v4 H4 ⟨G4, ρ4, M4, d4, st4, c4, r4, q4⟩
      refine ⟨G4, ρ4, M4, d2, d4, c4, .inl (persS st4 (persS (H := H2) st r2) : Rep Γ G4 ρ4 u d2), .inl r4, Post.mono (Post.bind (R1 := RepS Γ) q4) ?_⟩
      rintro v5 H5 ⟨G5, ρ5, M5, d5, st5, c5, r5, q5⟩
      cases r5 with
      | bl k => exact ⟨k, rfl, Post.now c5 q5 rfl⟩
      | _ => exact q5.elim
    | false => exact ⟨false, rfl, Post.now c3 q3 rfl⟩
  | _ => exact q3.elim

/-! ### truth -/
theorem tru_then {α : Type} {β : Type} {XE : XW} {R : RR β α} {G : Hp} {ρ : List Addr} {H : Hp} {M : Sto} {v : V} {d1 : D} {kk : Bool → Sto → Res α} {Q : β → Hp → Prop} (rel : Core Γ G ρ M H) (r : PRep Γ G ρ H v d1)
    (q : Post XE R Γ G ρ H ((truD d1 M).bind kk) Q) : ∃ t, TruV Γ.K v H t ∧ Post XE R Γ G ρ H (kk t M) Q := by
  unfold truD at q
  cases e : truO d1 with
  | none => rw [e] at q; exact q.elim
  | some t => rw [e] at q; exact ⟨t, tru_v rel.gh r e, q⟩
theorem s_andv (h : XOk Γ S CX k c X E) {rest : List Expr} (ha : PE X x (tE Γ E C a)) (hb : PE X (.BoolOp .And (y :: rest) p) (tE Γ E C b)) : PE X (.BoolOp .And (x :: y :: rest) p) (tE Γ E C (.andv a b)) := by
  refine PE.imp (pe_andT ha hb) fun σ H Q q => ?_
  refine tG.mono (tG.bind (R1 := RepS Γ) (k := fun env x M => (truD x M).bind fun t M => if t = true then evE C b env M else .ok x M) q) ?_
  rintro v H1 ⟨H0, G, ρ, M, env, d1, rel, r1, q2⟩
  obtain ⟨t, tv, q3⟩ := tru_then rel.toCore (.inl r1) q2
  refine ⟨t, h.K ▸ tv, ?_⟩
  cases t with
  | true => exact ⟨H0, G, ρ, M, env, rel, q3⟩
  | false => exact Post.now rel.toCore q3 r1
theorem s_orv (h : XOk Γ S CX k c X E) {rest : List Expr} (ha : PE X x (tE Γ E C a)) (hb : PE X (.BoolOp .Or (y :: rest) p) (tE Γ E C b)) : PE X (.BoolOp .Or (x :: y :: rest) p) (tE Γ E C (.orv a b)) := by
  refine PE.imp (pe_orT ha hb) fun σ H Q q => ?_
  refine tG.mono (tG.bind (R1 := RepS Γ) (k := fun env x M => (truD x M).bind fun t M => if t = true then .ok x M else evE C b env M) q) ?_
  rintro v H1 ⟨H0, G, ρ, M, env, d1, rel, r1, q2⟩
  obtain ⟨t, tv, q3⟩ := tru_then rel.toCore (.inl r1) q2
  refine ⟨t, h.K ▸ tv, ?_⟩
  cases t with
  | false => exact ⟨H0, G, ρ, M, env, rel, q3⟩
  | true => exact Post.now rel.toCore q3 r1
theorem s_notv (h : XOk Γ S CX k c X E) (ha : PE X x (tE Γ E C a)) : PE X (.UnaryOp .Not x p) (tE Γ E C (.notv a)) := by
  refine PE.imp (pe_notT ha) fun σ H Q q => ?_
  refine tG.mono (tG.bind (R1 := RepS Γ) (k := fun env x M => (truD x M).bind fun t M => Res.ok (D.bl (!t)) M) q) ?_
  rintro v H1 ⟨H0, G, ρ, M, env, d1, rel, r1, q2⟩
  obtain ⟨t, tv, q3⟩ := tru_then rel.toCore (.inl r1) q2
  exact ⟨t, h.K ▸ tv, Post.now rel.toCore q3 (.bl _)⟩
theorem s_ife {t : T} (ht : PT X z (tT Γ E C t)) (ha : PE X x (tE Γ E C a)) (hb : PE X y (tE Γ E C b)) : PE X (.IfExp z x y p) (tE Γ E C (.ife t a b)) := by
  refine PE.imp (pe_ifExp ht ha hb) fun σ H Q q => ?_
  refine tG.mono (tG.bind (R1 := RepEq Bool) (k := fun env t M => if t = true then evE C a env M else evE C b env M) q) ?_
  rintro v H1 ⟨H0, G, ρ, M, env, d1, rel, rfl, q2⟩
  cases v with
  | true => exact ⟨H0, G, ρ, M, env, rel, q2⟩
  | false => exact ⟨H0, G, ρ, M, env, rel, q2⟩
theorem t_val (h : XOk Γ S CX k c X E) (ha : PE X x (tP Γ E C a)) (hp : plainT x = true) : PT X x (tT Γ E C (.val a)) := by
  refine PT.imp (pt_truth ha (tru_plain hp)) fun σ H Q q => ?_
  refine tG.mono (tG.bind (R1 := RepP Γ) (k := fun env x M => truD x M) q) ?_
  rintro v H1 ⟨H0, G, ρ, M, env, d1, rel, r1, q2⟩
  unfold truD at q2
  cases e : truO d1 with
  | none => rw [e] at q2; exact q2.elim
  | some t => rw [e] at q2; exact ⟨t, h.K ▸ tru_v rel.gh r1 e, Post.now rel.toCore q2 rfl⟩
theorem t_not {t : T} (ht : PT X x (tT Γ E C t)) : PT X (.UnaryOp .Not x p) (tT Γ E C (.not t)) := by
  refine PT.imp (pt_not ht) fun σ H Q q => ?_
  refine tG.mono (tG.bind (R1 := RepEq Bool) (k := fun env b M => .ok (!b) M) q) ?_
  rintro v H1 ⟨H0, G, ρ, M, env, d1, rel, rfl, q2⟩
  exact Post.now rel.toCore q2 rfl
theorem w_and {t u : T} {rest : List Expr} (ht : PT X x (tT Γ E C t)) (hu : PW X (.BoolOp .And (y :: rest) p) (tT Γ E C u)) : PW X (.BoolOp .And (x :: y :: rest) p) (tT Γ E C (.and t u)) := by
  refine PW.imp (pw_and ht hu) fun σ H Q q => ?_
  refine tG.mono (tG.bind (R1 := RepEq Bool) (k := fun env x M => if x = true then evT C u env M else .ok false M) q) ?_
  rintro v H1 ⟨H0, G, ρ, M, env, d1, rel, rfl, q2⟩
  cases v with
  | true => exact ⟨H0, G, ρ, M, env, rel, q2⟩
  | false => exact Post.now rel.toCore q2 rfl
theorem w_or {t u : T} {rest : List Expr} (ht : PT X x (tT Γ E C t)) (hu : PW X (.BoolOp .Or (y :: rest) p) (tT Γ E C u)) : PW X (.BoolOp .Or (x :: y :: rest) p) (tT Γ E C (.or t u)) := by
  refine PW.imp (pw_or ht hu) fun σ H Q q => ?_
  refine tG.mono (tG.bind (R1 := RepEq Bool) (k := fun env x M => if x = true then .ok true M else evT C u env M) q) ?_
  rintro v H1 ⟨H0, G, ρ, M, env, d1, rel, rfl, q2⟩
  cases v with
  | false => exact ⟨H0, G, ρ, M, env, rel, q2⟩
  | true => exact Post.now rel.toCore q2 rfl
theorem w_one {t : T} {op : BoolOp} (ht : PT X x (tT Γ E C t)) : PW X (.BoolOp op [x] p) (tT Γ E C (.one t)) := by
  cases op with
  | And => exact PW.imp (pw_and1 ht) fun σ H Q q => q
  | Or => exact PW.imp (pw_or1 ht) fun σ H Q q => q

/-! ### subscripts, slices -/
theorem PE.or {e : Expr} {t1 t2 : TE} (h1 : PE X e t1) (h2 : PE X e t2) : PE X e (fun σ H Q => t1 σ H Q ∨ t2 σ H Q) :=
  ⟨fun pins s σ H Q I hw => hw.elim (fun q => h1.run pins s σ H Q I q) fun q => h2.run pins s σ H Q I q⟩
def idxN (x y : D) (M : Sto) : Res D := match x with
  | .obj _ => .stk
  | _ => idxD x y M
/-- a subscript by values -/
theorem idx_of {G : Hp} {ρ : List Addr} {H : Hp} {M : Sto} {v w : V} {d1 d2 : D} {Q : VK} (nm : NoMix Γ.K) (rel : Core Γ G ρ M H) (ra : PRep Γ G ρ H v d1) (rb : Rep Γ G ρ w d2) (p : Post (XPf Γ E) (RepS Γ) Γ G ρ H (idxD d1 d2 M) Q) :
    rIx Γ.K v w H Q ∨ ∃ a x, v = .ref a ∧ DGet H a w (some x) ∧ Q x H := by
  cases d1 with
  | obj i =>
    have ra' := ra.rep (fun _ z => by cases z)
    cases ra' with
    | @obj _ a ea =>
      simp only [idxD] at p
      split at p
      · rename_i ds e
        split at p
        · rename_i k
          cases rb
          split at p
          · rename_i d ed
            obtain ⟨us, h1, rr⟩ := lsAt rel Γ.K ea e
            obtain ⟨x, ex, rx⟩ := atI_reps rr ed
            exact .inl (.inl ⟨a, us, k, x, rfl, rfl, h1, ex, Post.now rel p rx⟩)
          · exact p.elim
        · exact p.elim
      · exact .inr (dgt_of nm rel (.obj ea) rb p)
  | _ => exact .inl (ix_of (fun i z => by cases z) rel ra rb p)
theorem ix_dict (hu : X.A.units + 1 < cLine) : IxR X (fun x y H Q => ∃ a v, x = V.ref a ∧ DGet H a y (some v) ∧ Q v H) := by
  intro value slice pins s σ H x y v u Q I rx ry h hs
  obtain ⟨a, w, rfl, g, q⟩ := h
  cases rx
  exact PyProof.Rows.tail_any (ops := [.ref a, u]) (dict_typeIs I g) PySem.F.slot_dict_getitem.lookup (d_getItem hu I g ry fun w' s3 I3 rw' => ⟨w, H, I3, rw', q⟩) hs
theorem s_idx (h : XOk Γ S CX k c X E) (ha : PE X x (tP Γ E C a)) (hb : PE X y (tE Γ E C b)) (hs : noSlc y = true) : PE X (.Subscript x y p) (tE Γ E C (.idx a b)) := by
  refine PE.imp (pe_ix (ix_seq.or (ix_dict (hu_of h.room))) ha hb (slc_plain hs)) fun σ H Q q => ?_
  refine tG.mono (tG.bind2 (R1 := RepP Γ) (R2 := RepS Γ) (k := fun _ x y M => idxD x y M) persP q) fun v H1 q1 => tG.mono q1 ?_
  rintro u H2 ⟨H0, G, ρ, M, env, d1, d2, rel, r1, r2, q2⟩
  rw [h.K]
  exact idx_of h.nm rel.toCore r1 r2 q2
theorem s_dgt (h : XOk Γ S CX k c X E) (ha : PE X x (tE Γ E C a)) (hb : PE X y (tE Γ E C b)) (hs : noSlc y = true) : PE X (.Subscript x y p) (tE Γ E C (.dgt a b)) := by
  refine PE.imp (pe_dget (hu_of h.room) ha hb (slc_plain hs)) fun σ H Q q => ?_
  refine tG.mono (tG.bind2 (R1 := RepS Γ) (R2 := RepS Γ) (k := fun _ x y M => dgtD x y M) persS q) fun v H1 q1 => tG.mono q1 ?_
  rintro u H2 ⟨H0, G, ρ, M, env, d1, d2, rel, r1, r2, q2⟩
  exact dgt_of h.nm rel.toCore r1 r2 q2
theorem s_slc (h : XOk Γ S CX k c X E) {lo hi : O} {l u : Option Expr} {p2 : Pos} (ha : PE X x (tP Γ E C a)) (hl : PO X l (tO Γ E C lo)) (hu : PO X u (tO Γ E C hi)) : PE X (.Subscript x (.Slice l u none p2) p) (tE Γ E C (.slc a lo hi)) := by
  refine PE.imp (pe_slice ((sl_list.or sl_tupA).or sl_str) ha hl hu) fun σ H Q q => ?_
  have q' : tG (XPf Γ E) (RepS Γ) Γ (fun env M => (peek a env M (evE C a env M)).bind fun x M => (evO C lo env M).bind fun l M => (evO C hi env M).bind fun h M => slcD x l h M) σ H Q := q
  refine tG.mono (tG.bind2 (R1 := RepP Γ) (R2 := RepEq (Option Int)) (k := fun env x l M => (evO C hi env M).bind fun h M => slcD x l h M) persP q') fun v H1 q1 => tG.mono q1 ?_
  rintro lv H2 ⟨H0, G, ρ, M, env, d1, d2, rel, r1, rfl, q2⟩
  refine ⟨H0, G, ρ, M, env, rel, Post.mono (Post.bind (R1 := RepEq (Option Int)) q2) ?_⟩
  rintro hv H3 ⟨G3, ρ3, M3, d3, st, c3, rfl, q3⟩
  show (rSlL X.K v lv hv H3 Q ∨ rSlA X.K v lv hv H3 Q) ∨ rSlS v lv hv H3 Q
  rw [h.K]
  exact slc_of c3 (PRep.step st r1) q3
theorem s_stp (h : XOk Γ S CX k c X E) {d : Mp.E} {p2 : Pos} (ha : PE X x (tP Γ E C a)) (hd : PE X y (tE Γ E C d)) : PE X (.Subscript x (.Slice none none (some y) p2) p) (tE Γ E C (.stp a d)) := by
  refine PE.imp (pe_stp ha hd) fun σ H Q q => ?_
  have q' : tG (XPf Γ E) (RepS Γ) Γ (fun env M => (peek a env M (evE C a env M)).bind fun x M => (evE C d env M).bind fun y M => (match y with | .int k => stpD x k M | _ => .stk)) σ H Q := q
  refine tG.mono (tG.bind2 (R1 := RepP Γ) (R2 := RepS Γ) (k := fun _ x (y : D) M => (match y with | .int k => stpD x k M | _ => .stk)) persP q') fun v H1 q1 => tG.mono q1 ?_
  rintro u H2 ⟨H0, G, ρ, M, env, d1, d2, rel, r1, r2, q2⟩
  cases r2 with
  | int n =>
    simp only at q2
    cases d1 with
    | tup ds =>
      simp only [stpD] at q2
      split at q2
      · rename_i hk
        obtain ⟨ad, vs, rfl, hs, rs⟩ := r1.tup rel.gh
        refine ⟨ad, vs, n, rfl, rfl, hk, .inr ⟨h.K ▸ hs, fun e => ?_, fun e pp hp => ?_⟩⟩
        · subst e
          exact Post.now rel.toCore q2 (r1.rep (fun _ z => by cases z))
        · have sg := sub_upd (o := HO.tup (stepL vs n)) (rel.toCore.fresh hp).2
          exact Post.new (a := D.tup (stepL ds n)) rel.toCore q2 hp (.tup (.inl upd_same) (Reps.mono sg (Pre.refl _) (rs.step n)))
      · exact q2.elim
    | lst ds =>
      simp only [stpD] at q2
      split at q2
      · rename_i hk
        obtain ⟨ad, vs, rfl, hs, rs⟩ := r1.lst rel.gh
        refine ⟨ad, vs, n, rfl, rfl, hk, .inl ⟨h.K ▸ hs, fun pp hp => ?_⟩⟩
        have sg := sub_upd (o := HO.lst (stepL vs n)) (rel.toCore.fresh hp).2
        exact Post.new (a := D.lst (stepL ds n)) rel.toCore q2 hp (.lst (.of upd_same) (Reps.mono sg (Pre.refl _) (rs.step n)))
      · exact q2.elim
    | _ => exact q2.elim
  | _ => exact q2.elim
theorem o_non : PO X none (tO Γ E C .non) := PO.imp po_none fun σ H Q ⟨H0, G, ρ, M, env, rel, q⟩ => Post.now rel.toCore q rfl
theorem o_som (ha : PE X x (tE Γ E C a)) : PO X (some x) (tO Γ E C (.som a)) := by
  refine PO.imp (po_some ha) fun σ H Q q => ?_
  refine tG.mono (tG.bind (R1 := RepS Γ) (k := fun _ (x : D) M => (match x with | .int i => Res.ok (some i) M | _ => .stk)) q) ?_
  rintro v H1 ⟨H0, G, ρ, M, env, d1, rel, r1, q2⟩
  cases r1 with
  | int i => exact ⟨i, rfl, Post.now rel.toCore q2 rfl⟩
  | _ => exact q2.elim

/-! ### dicts -/
theorem base_of {o : Expr} {m : Str} {env : PySem.Env} {w : Sem Value} (h : baseOk o = true) : attributeBase o m env w = w := by
  unfold attributeBase
  split
  · cases h
  · rfl
theorem s_dnew {t : Bool} : PE X (.Dict [] [] p) (tE Γ E C (.dnew t)) := by
  cases t with
  | true =>
    refine PE.imp pe_dnewT fun σ H Q q => ?_
    obtain ⟨H0, G, ρ, M, env, rel, q⟩ := q
    exact fun a ha => Post.newOb (XE := XPf Γ E) (o := .dt []) rel.toCore ha q fun ρ' _ => ⟨[], upd_same, rfl, .nil⟩
  | false =>
    refine PE.imp pe_dnewK fun σ H Q q => ?_
    obtain ⟨H0, G, ρ, M, env, rel, q⟩ := q
    exact fun a ha => Post.newOb (XE := XPf Γ E) (o := .dk []) rel.toCore ha q fun ρ' _ => ⟨[], upd_same, rfl, .nil⟩
theorem s_get2 (h : XOk Γ S CX k c X E) {d : Mp.E} {z : Expr} {p2 : Pos} (ha : PE X x (tE Γ E C a)) (hb : PE X y (tE Γ E C b)) (hd : PE X z (tE Γ E C d)) (h1 : (p2.endLine == p.line) = true) (h2 : noStar y = true) (h3 : noStar z = true) (h4 : baseOk x = true) :
    PE X (.Call (.Attribute x "get" p2) [y, z] [] p) (tE Γ E C (.get2 a b d)) := by
  have tr : starEach [y, z] X.env = [(false, eval y X.env), (false, eval z X.env)] := by rw [star_of h2, star_of h3]; rfl
  refine PE.imp (pe_dget2 (hu_of h.room) ha hb hd ⟨base_of h4, by rw [tr]; rfl, h1, by rw [tr]; rfl⟩) fun σ H Q q => ?_
  have q : tG (XPf Γ E) (RepS Γ) Γ (fun env M => (evE C a env M).bind fun x M => if isDct x M = true then (evE C b env M).bind fun y M => (evE C d env M).bind fun w M => getD x y w M else .stk) σ H Q := q
  refine tG.mono (tG.bind (R1 := RepS Γ) q) ?_
  rintro v H1 ⟨H0, G, ρ, M, env, d1, rel, r1, q2⟩
  split at q2
  · rename_i hi
    obtain ⟨i, ad, rfl, rfl, ea, hd⟩ := isD_of rel.toCore r1 hi
    refine ⟨ad, rfl, hd, H0, G, ρ, M, env, rel, Post.mono (Post.bind (R1 := RepS Γ) q2) ?_⟩
    rintro v2 H2 ⟨G2, ρ2, M2, d2, st2, c2, r2, q3⟩
    refine ⟨H0, G2, ρ2, M2, env, rel.adv st2 c2, Post.mono (Post.bind (R1 := RepS Γ) q3) ?_⟩
    rintro v3 H3 ⟨G3, ρ3, M3, d3, st3, c3, r3, q4⟩
    simp only [getD] at q4
    cases el : look M3 i d2 with
    | none => rw [el] at q4; exact q4.elim
    | some o =>
      rw [el] at q4
      rcases look_of h.nm c3 (st3.pp _ _ (st2.pp _ _ ea)) (persS (H := H2) st3 r2) el with ⟨e3, g⟩ | ⟨w, zz, e3, g, rv⟩
      · subst e3; exact ⟨none, g, Post.now c3 q4 r3⟩
      · subst e3; exact ⟨some w, g, Post.now c3 q4 rv⟩
  · exact q2.elim
theorem s_get1 (h : XOk Γ S CX k c X E) {p2 : Pos} (ha : PE X x (tE Γ E C a)) (hb : PE X y (tE Γ E C b)) (h1 : (p2.endLine == p.line) = true) (h2 : noStar y = true) (h4 : baseOk x = true) :
    PE X (.Call (.Attribute x "get" p2) [y] [] p) (tE Γ E C (.get1 a b)) := by
  have tr : starEach [y] X.env = [(false, eval y X.env)] := by rw [star_of h2]; rfl
  refine PE.imp (pe_dget1 (hu_of h.room) ha hb ⟨base_of h4, by rw [tr]; rfl, h1, by rw [tr]; rfl⟩) fun σ H Q q => ?_
  have q : tG (XPf Γ E) (RepS Γ) Γ (fun env M => (evE C a env M).bind fun x M => if isDct x M = true then (evE C b env M).bind fun y M => getD x y .non M else .stk) σ H Q := q
  refine tG.mono (tG.bind (R1 := RepS Γ) q) ?_
  rintro v H1 ⟨H0, G, ρ, M, env, d1, rel, r1, q2⟩
  split at q2
  · rename_i hi
    obtain ⟨i, ad, rfl, rfl, ea, hd⟩ := isD_of rel.toCore r1 hi
    refine ⟨ad, rfl, hd, H0, G, ρ, M, env, rel, Post.mono (Post.bind (R1 := RepS Γ) q2) ?_⟩
    rintro v2 H2 ⟨G2, ρ2, M2, d2, st2, c2, r2, q3⟩
    simp only [getD] at q3
    cases el : look M2 i d2 with
    | none => rw [el] at q3; exact q3.elim
    | some o =>
      rw [el] at q3
      rcases look_of h.nm c2 (st2.pp _ _ ea) r2 el with ⟨e3, g⟩ | ⟨w, zz, e3, g, rv⟩
      · subst e3; exact ⟨none, g, Post.now c2 q3 .non⟩
      · subst e3; exact ⟨some w, g, Post.now c2 q3 rv⟩
  · exact q2.elim

/-! ### argument lists -/
theorem a_nil : PA X [] (tEs Γ E C .nil) := PA.imp pa_nil fun σ H Q ⟨H0, G, ρ, M, env, rel, q⟩ => Post.now rel.toCore q .nil
theorem a_cons {r : Es} {xs : List Expr} (ha : PE X x (tE Γ E C a)) (hr : PA X xs (tEs Γ E C r)) (hs : noStar x = true) : PA X (x :: xs) (tEs Γ E C (.cons a r)) := by
  refine PA.imp (pa_cons ha hr (star_of hs)) fun σ H Q q => ?_
  refine tG.mono (tG.bind2 (R1 := RepS Γ) (R2 := RepLS Γ) (k := fun _ x xs M => .ok (x :: xs) M) persS q) fun v H1 q1 => tG.mono q1 ?_
  rintro u H2 ⟨H0, G, ρ, M, env, d1, d2, rel, r1, r2, q2⟩
  exact Post.now rel.toCore q2 (.cons r1 r2)
theorem k_nil : PK X [] (tEs Γ E C .nil) := PK.imp pk_nil fun σ H Q ⟨H0, G, ρ, M, env, rel, q⟩ => Post.now rel.toCore q .nil
theorem k_cons {r : Es} {xs : List Keyword} {nm : Option Str} (ha : PE X x (tE Γ E C a)) (hr : PK X xs (tEs Γ E C r)) : PK X (⟨nm, x, p⟩ :: xs) (tEs Γ E C (.cons a r)) := by
  refine PK.imp (pk_cons ha hr) fun σ H Q q => ?_
  refine tG.mono (tG.bind2 (R1 := RepS Γ) (R2 := RepLS Γ) (k := fun _ x xs M => .ok (x :: xs) M) persS q) fun v H1 q1 => tG.mono q1 ?_
  rintro u H2 ⟨H0, G, ρ, M, env, d1, d2, rel, r1, r2, q2⟩
  exact Post.now rel.toCore q2 (.cons r1 r2)
theorem b_nil : PA X [] (tPs Γ E C .nil) := PA.imp pa_nil fun σ H Q ⟨H0, G, ρ, M, env, rel, q⟩ => Post.now rel.toCore q .nil
theorem b_cons {r : Es} {xs : List Expr} (ha : PE X x (tP Γ E C a)) (hr : PA X xs (tPs Γ E C r)) (hs : noStar x = true) : PA X (x :: xs) (tPs Γ E C (.cons a r)) := by
  refine PA.imp (pa_cons ha hr (star_of hs)) fun σ H Q q => ?_
  refine tG.mono (tG.bind2 (R1 := RepP Γ) (R2 := RepLP Γ) (k := fun _ x xs M => .ok (x :: xs) M) persP q) fun v H1 q1 => tG.mono q1 ?_
  rintro u H2 ⟨H0, G, ρ, M, env, d1, d2, rel, r1, r2, q2⟩
  exact Post.now rel.toCore q2 (.cons r1 r2)
end
end Mp
end

section
set_option Elab.async false
set_option linter.all false
set_option maxRecDepth 100000
/-! One lemma a construct: calls, built-ins, targets, comprehensions. -/
namespace Mp
open PySem PySem.Spec L2
section
variable {Γ : Cfg} {S : Sta} {C : Cal} {CX : CXT} {k : Nat} {c : SC} {X : Cx} {E : XK} {x y z : Expr} {p : Pos} {a b d : Mp.E}

theorem boot_blt (b : Blt) : (∀ id, bltB b = some id → bootBuiltins (bltName b) = some (.builtin id)) ∧ (∀ id, bltT b = some id → bootBuiltins (bltName b) = some (.type id)) := by
  cases b <;> refine ⟨fun id h => ?_, fun id h => ?_⟩ <;> cases h <;> decide +kernel
theorem blt_or (b : Blt) : (∃ id, bltB b = some id) ∨ ∃ id, bltT b = some id := by
  cases b <;> first | exact .inl ⟨_, rfl⟩ | exact .inr ⟨_, rfl⟩
theorem pl_of : ∀ {es : List Expr} {env : PySem.Env} {pos : Pos}, es.all noStar = true → (backTo pos (starEach es env)).any (·.1) = false
  | [], _, _, _ => rfl
  | e :: es, env, pos, h => by
    simp only [List.all_cons, Bool.and_eq_true] at h
    rw [star_of h.1]
    show (false || (backTo pos (starEach es env)).any (·.1)) = false
    rw [Bool.false_or]
    exact pl_of h.2
theorem chkEs_star : ∀ {es : Es} {xs : List Expr}, chkEs S c es xs = true → xs.all noStar = true
  | .nil, [], _ => rfl
  | .nil, _ :: _, h => by simp [chkEs] at h
  | .cons _ _, [], h => by simp [chkEs] at h
  | .cons e r, x :: xs, h => by
    simp only [chkEs, Bool.and_eq_true] at h
    simp [h.1.1, chkEs_star h.2]
theorem s_blt (TB : Tab Γ S C CX k) (h : XOk Γ S CX k c X E) {bl : Blt} {es : Es} {xs : List Expr} {p' : Pos} (h2 : nameOk (bltName bl) = true) (h3 : S.bn.contains (bltName bl) = true) (h4 : glB c.sc (bltName bl) = true)
    (hs : (x :: xs).all noStar = true) (ha : PA X (x :: xs) (tPs Γ E C es)) : PE X (.Call (.Name (bltName bl) p') (x :: xs) [] p) (tE Γ E C (.blt bl es)) := by
  have hg : Gl X (bltName bl) := by show X.env.scope.names.lookup _ = _; rw [h.sc]; exact gl_ok h4
  have hm : X.mg (bltName bl) = none := by rw [h.mg]; exact TB.blt _ (by simpa using h3)
  obtain ⟨n1, n2, n3⟩ := name_ok h2
  have hs' := hs
  simp only [List.all_cons, Bool.and_eq_true] at hs'
  have key : ∀ {σ H Q}, tE Γ E C (.blt bl es) σ H Q → tPs Γ E C es σ H (fun vs H1 => BltS Γ (XPf Γ E) bl vs H1 Q) := by
    intro σ H Q q
    have q' : tG (XPf Γ E) (RepS Γ) Γ (fun env M => (evPs C es env M).bind fun xs M => bltD bl xs M) σ H Q := q
    refine tG.mono (tG.bind (R1 := RepLP Γ) (k := fun _ xs M => bltD bl xs M) q') ?_
    rintro vs H1 ⟨H0, G, ρ, M, env, ds, rel, r, q⟩
    exact ⟨G, ρ, M, ds, rel.toCore, r, q⟩
  rcases blt_or bl with ⟨id, e⟩ | ⟨id, e⟩
  · exact PE.imp (pe_callB (call_bltB (XE := XPf Γ E) h.K h.calm h.room.units h.gu e) hg hm ((boot_blt bl).1 id e) ha n3 n1 (star_of hs'.1) (pl_of hs'.2)) fun σ H Q q => key q
  · exact PE.imp (pe_callTy (call_bltT (XE := XPf Γ E) h.K h.calm e) hg hm ((boot_blt bl).2 id e) ha n3 n1 (star_of hs'.1) (pl_of hs'.2)) fun σ H Q q => key q
theorem boot_ty (t : Ty) : bootBuiltins (tyName t) = some (.type (tyN t)) := by cases t <;> decide +kernel
theorem ty_name (t : Ty) : tyName t ≠ "__name__" ∧ (tyName t == ("__debug__" : Str)) = false := by cases t <;> decide +kernel
theorem s_isi (TB : Tab Γ S C CX k) (h : XOk Γ S CX k c X E) {t : Ty} {p1 p2 : Pos} (h3 : S.bn.contains "isinstance" = true) (h4 : glB c.sc "isinstance" = true) (h5 : S.bn.contains (tyName t) = true) (h6 : glB c.sc (tyName t) = true)
    (hs : noStar x = true) (ha : PE X x (tP Γ E C a)) : PE X (.Call (.Name "isinstance" p1) [x, .Name (tyName t) p2] [] p) (tE Γ E C (.isi a t)) := by
  have hg : Gl X "isinstance" := by show X.env.scope.names.lookup _ = _; rw [h.sc]; exact gl_ok h4
  have hm : X.mg "isinstance" = none := by rw [h.mg]; exact TB.blt _ (by simpa using h3)
  have hg2 : Gl X (tyName t) := by show X.env.scope.names.lookup _ = _; rw [h.sc]; exact gl_ok h6
  have hm2 : X.mg (tyName t) = none := by rw [h.mg]; exact TB.blt _ (by simpa using h5)
  refine PE.imp (pe_callB call_isi hg hm (by decide +kernel) (pa_cons ha (pa_cons (pe_bltn (v := .ty (tyN t)) hg2 hm2 (boot_ty t) rfl (ty_name t).1 (ty_name t).2) pa_nil (star_of rfl)) (star_of hs)) (by decide) (by decide) (star_of hs) (pl_of rfl)) fun σ H Q q => ?_
  refine tG.mono (tG.bind (R1 := RepP Γ) (k := fun _ x M => if isiOk x then Res.ok (D.bl (isiD x t)) M else .stk) q) ?_
  rintro v H1 ⟨H0, G, ρ, M, env, d1, rel, r1, q2⟩
  by_cases hi : isiOk d1 = true
  · rw [if_pos hi] at q2
    exact ⟨v, .ty (tyN t), .type (tyOf d1), .type (tyN t), isiD d1 t, rfl, .ty _, h.K ▸ tyx_of rel.gh r1 hi, kit_ty (kit_all d1 t hi), Post.now rel.toCore q2 (.bl _)⟩
  · rw [if_neg hi] at q2; exact q2.elim

/-! ### calls of defs -/
theorem kw_all : ∀ {kws : List Keyword} {ns : List Str} {ks : Es} {env : PySem.Env} {pos : Pos}, chkKs S c ns ks kws = true →
    (backToKw pos (keywordEach kws env)).all (·.1.isSome) = true ∧ (backToKw pos (keywordEach kws env)).filterMap (·.1) = ns ∧ (backToKw pos (keywordEach kws env)).any (·.1.isNone) = false
  | [], [], .nil, _, _, _ => ⟨rfl, rfl, rfl⟩
  | ⟨some m, x, q⟩ :: kws, n :: ns, .cons e r, env, pos, h => by
    simp only [chkKs, Bool.and_eq_true, decide_eq_true_eq] at h
    obtain ⟨⟨rfl, h2⟩, h3⟩ := h
    obtain ⟨i1, i2, i3⟩ := kw_all (env := env) (pos := pos) h3
    refine ⟨?_, ?_, ?_⟩
    · show (true && _) = true
      rw [Bool.true_and]; exact i1
    · exact congrArg (List.cons n) i2
    · show (false || _) = false
      rw [Bool.false_or]; exact i3
  | [], [], .cons _ _, _, _, h => by simp [chkKs] at h
  | [], _ :: _, _, _, _, h => by simp [chkKs] at h
  | _ :: _, [], _, _, _, h => by simp [chkKs] at h
  | _ :: _, _ :: _, .nil, _, _, h => by simp [chkKs] at h
  | ⟨none, _, _⟩ :: _, _ :: _, .cons _ _, _, _, h => by simp [chkKs] at h
theorem spF_of {f : Nat} {n : Nat} {G : Hp} {ρ : List Addr} {M : Sto} {H : Hp} {vs : List V} {ds : List D} {Q : VK} (hst : ∀ ds M, ds.length ≠ n → C.cal f ds M = .stk) (rel : Core Γ G ρ M H) (r : Reps Γ G ρ vs ds)
    (q : Post (XPf Γ E) (RepS Γ) Γ G ρ H (C.cal f ds M) Q) : spF Γ (C.cal f) n vs H Q E := by
  refine ⟨?_, G, ρ, M, ds, rel, r, q⟩
  by_cases hn : ds.length = n
  · rw [r.len]; exact hn
  · rw [hst ds M hn] at q; exact q.elim
theorem s_call (TB : Tab Γ S C CX k) (h : XOk Γ S CX k c X E) {f sh : Nat} {n : Str} {ns : List Str} {es ks : Es} {args : List Expr} {kws : List Keyword} {p' : Pos} (h1 : at? S.fn f n = true) (h2 : glB c.sc n = true)
    (hk : S.kw f sh = some ns) (hcs : chkEs S c es args = true) (hkc : chkKs S c ns ks kws = true) (ha : PA X args (tEs Γ E C es)) (hb : PK X kws (tEs Γ E C ks)) : PE X (.Call (.Name n p') args kws p) (tE Γ E C (.call f sh es ks)) := by
  obtain ⟨e1, e2⟩ := at_ok h1
  obtain ⟨n1, n2, n3⟩ := name_ok e2
  obtain ⟨mg, kp, fd, ps, np, F, hst, hsh⟩ := TB.fns f n e1
  have sf := hsh sh ns hk
  have hs := chkEs_star hcs
  have hg : Gl X n := by show X.env.scope.names.lookup _ = _; rw [h.sc]; exact gl_ok h2
  have F' : FnG X.prog X.w X.K X.mg X.base CX k (Γ.fA f) fd ps (spF Γ (C.cal f) np) := by rw [h.prog, h.w, h.K, h.mg, h.base]; exact F
  have mg' : X.mg n = some (.ref (Γ.fA f)) := by rw [h.mg]; exact mg
  have kp' : PySem.W.keepIn X.K (.ref (Γ.fA f)) = true := by rw [h.K]; exact kp
  have q0 : ∀ {σ H Q}, tE Γ E C (.call f sh es ks) σ H Q → tG (XPf Γ E) (RepS Γ) Γ (fun env M => (evEs C es env M).bind fun xs M => (evEs C ks env M).bind fun zs M => (match C.arr f sh xs zs with | some ds => C.cal f ds M | none => .stk)) σ H Q := fun q => q
  cases ns with
  | nil =>
    cases kws with
    | cons _ _ => cases ks <;> simp [chkKs] at hkc
    | nil =>
      have hks : ks = .nil := by cases ks with | nil => rfl | cons _ _ => simp [chkKs] at hkc
      subst hks
      obtain ⟨ds, dvs, b1, b2, b3⟩ := sf.plain rfl
      have b1' : Binds X.K fd ps ds := by rw [h.K]; exact b1
      have fin : ∀ {σ H Q}, tE Γ E C (.call f sh es .nil) σ H Q → tEs Γ E C es σ H (fun vs H1 => spF Γ (C.cal f) np (vs ++ dvs) H1 Q E) := by
        intro σ H Q q
        refine tG.mono (tG.bind (R1 := RepLS Γ) (q0 q)) ?_
        rintro vs H1 ⟨H0, G, ρ, M, env, xs, rel, r, q2⟩
        simp only [evEs, Res.bind_ok] at q2
        cases ea : C.arr f sh xs [] with
        | none => rw [ea] at q2; exact q2.elim
        | some full => rw [ea] at q2; exact spF_of hst rel.toCore (b3 _ _ _ _ _ r ea) q2
      cases args with
      | nil =>
        have hes : es = .nil := by cases es with | nil => rfl | cons _ _ => simp [chkEs] at hcs
        subst hes
        refine PE.imp (pe_callG0 F' h.room h.gu hg mg' kp' b1' b2 h.pass n1) fun σ H Q q => ?_
        obtain ⟨H0, G, ρ, M, env, rel, q2⟩ := fin q
        exact Post.now rel.toCore q2 .nil
      | cons e r =>
        have hs' := hs
        simp only [List.all_cons, Bool.and_eq_true] at hs'
        exact PE.imp (pe_callG F' h.room h.gu hg mg' kp' b1' b2 h.pass ha n1 (star_of hs'.1) (pl_of hs'.2)) fun σ H Q q => fin q
  | cons n0 ns =>
    cases args with
    | nil =>
      have hes : es = .nil := by cases es with | nil => rfl | cons _ _ => simp [chkEs] at hcs
      subst hes
      obtain ⟨nn, g, gV, b1, b2⟩ := sf.kws (by simp)
      have b1' : KBn X.K fd ps nn (n0 :: ns) g gV := by rw [h.K]; exact b1
      obtain ⟨k1, k2, k3⟩ := kw_all (env := X.env) (pos := p) hkc
      refine PE.imp (pe_callKG0 F' h.room h.gu hg mg' kp' b1' h.pass hb k1 k2 n1 ?_) fun σ H Q q => ?_
      · rw [k3]; rfl
      · have q' := q0 q
        simp only [evEs, Res.bind_ok] at q'
        refine tG.mono (tG.bind (R1 := RepLS Γ) q') ?_
        rintro zs H2 ⟨H0, G, ρ, M, env, ys, rel, r2, q2⟩
        cases ea : C.arr f sh [] ys with
        | none => rw [ea] at q2; exact q2.elim
        | some full =>
          rw [ea] at q2
          obtain ⟨b3, b4, b5⟩ := b2 _ _ _ _ _ _ _ .nil r2 ea
          exact ⟨b4, b5, spF_of hst rel.toCore b3 q2⟩
    | cons e r =>
      have hs' := hs
      simp only [List.all_cons, Bool.and_eq_true] at hs'
      obtain ⟨nn, g, gV, b1, b2⟩ := sf.kws (by simp)
      have b1' : KBn X.K fd ps nn (n0 :: ns) g gV := by rw [h.K]; exact b1
      obtain ⟨k1, k2, k3⟩ := kw_all (env := X.env) (pos := p) hkc
      refine PE.imp (pe_callKG F' h.room h.gu hg mg' kp' b1' h.pass ha hb k1 k2 n1 (star_of hs'.1) ?_) fun σ H Q q => ?_
      · rw [pl_of hs, k3]; rfl
      · refine tG.mono (tG.bind2 (R1 := RepLS Γ) (R2 := RepLS Γ) persLS (q0 q)) fun vs H1 q1 => tG.mono q1 ?_
        rintro zs H2 ⟨H0, G, ρ, M, env, xs, ys, rel, r1, r2, q2⟩
        cases ea : C.arr f sh xs ys with
        | none => rw [ea] at q2; exact q2.elim
        | some full =>
          rw [ea] at q2
          obtain ⟨b3, b4, b5⟩ := b2 _ _ _ _ _ _ _ r1 r2 ea
          exact ⟨b4, b5, spF_of hst rel.toCore b3 q2⟩
end
end Mp
end

section
set_option Elab.async false
set_option linter.all false
set_option maxRecDepth 100000
/-! One lemma a construct: targets, iterators, comprehensions, dict displays. -/
namespace Mp
open PySem PySem.Spec L2
section
variable {Γ : Cfg} {S : Sta} {C : Cal} {CX : CXT} {k : Nat} {c : SC} {X : Cx} {E : XK} {x y z : Expr} {p : Pos} {a b d : Mp.E}
  {H0 G G' : Hp} {ρ ρ' : List Addr} {M M' : Sto} {σ σ' : L2.St} {env env' : Env} {H H' : Hp}

/-! ### slots -/
theorem Rel.setVal (r : Rel Γ H0 G ρ M σ env H) {i : Nat} {v : V} {dd : D} (rv : Rep Γ G ρ v dd) : Rel Γ H0 G ρ M (σ.set i (some v)) (env.set i (.val dd)) H := by
  refine ⟨r.toCore, by simpa using r.slen, fun j s e => ?_, fun j l q ds es e1 e2 e3 e4 => ?_⟩
  · by_cases hj : i = j
    · subst hj
      by_cases hi : i < env.length
      · rw [List.getElem?_set_self hi] at e
        cases e
        exact ⟨v, List.getElem?_set_self (by rw [r.slen]; exact hi), rv⟩
      · rw [List.getElem?_eq_none (by simpa using hi)] at e; cases e
    · rw [List.getElem?_set_ne hj] at e ⊢
      exact r.sl j s e
  · have h1 : i ≠ j := fun z => by
      subst z
      by_cases hi : i < env.length
      · rw [List.getElem?_set_self hi] at e1; cases e1
      · rw [List.getElem?_eq_none (by simpa using hi)] at e1; cases e1
    have h2 : i ≠ l := fun z => by
      subst z
      by_cases hi : i < env.length
      · rw [List.getElem?_set_self hi] at e2; cases e2
      · rw [List.getElem?_eq_none (by simpa using hi)] at e2; cases e2
    rw [List.getElem?_set_ne h1] at e1 e3
    rw [List.getElem?_set_ne h2] at e2 e4
    exact r.dis j l q ds es e1 e2 e3 e4
theorem Rel.setNon (r : Rel Γ H0 G ρ M σ env H) {i : Nat} {v : Option V} : Rel Γ H0 G ρ M (σ.set i v) (env.set i .non) H := by
  refine ⟨r.toCore, by simpa using r.slen, fun j s e => ?_, fun j l q ds es e1 e2 e3 e4 => ?_⟩
  · by_cases hj : i = j
    · subst hj
      by_cases hi : i < env.length
      · rw [List.getElem?_set_self hi] at e
        cases e
        trivial
      · rw [List.getElem?_eq_none (by simpa using hi)] at e; cases e
    · rw [List.getElem?_set_ne hj] at e ⊢
      exact r.sl j s e
  · have h1 : i ≠ j := fun z => by
      subst z
      by_cases hi : i < env.length
      · rw [List.getElem?_set_self hi] at e1; cases e1
      · rw [List.getElem?_eq_none (by simpa using hi)] at e1; cases e1
    have h2 : i ≠ l := fun z => by
      subst z
      by_cases hi : i < env.length
      · rw [List.getElem?_set_self hi] at e2; cases e2
      · rw [List.getElem?_eq_none (by simpa using hi)] at e2; cases e2
    rw [List.getElem?_set_ne h1] at e1 e3
    rw [List.getElem?_set_ne h2] at e2 e4
    exact r.dis j l q ds es e1 e2 e3 e4
theorem Rel.wipe (r : Rel Γ H0 G ρ M σ env H) : ∀ own : List (Str × Nat), Rel Γ H0 G ρ M (L2.wipe σ (own.map (·.2))) (wipeE env own) H
  | [] => r
  | q :: own => by
    show Rel Γ H0 G ρ M ((L2.wipe σ (own.map (·.2))).set q.2 none) ((wipeE env own).set q.2 .non) H
    exact Rel.setNon (Rel.wipe r own)

/-! ### targets -/
/-- the slots out of is are as they were -/
def SameBut (is : List Nat) (σ σ' : L2.St) : Prop := σ'.length = σ.length ∧ ∀ i, i ∉ is → σ'[i]? = σ[i]?
theorem SameBut.refl (is : List Nat) (σ : L2.St) : SameBut is σ σ := ⟨rfl, fun _ _ => rfl⟩
def tGt (Γ : Cfg) (g : Mp.G) : TG := fun v σ H Q => ∃ H0 G ρ M env d env', Rel Γ H0 G ρ M σ env H ∧ Rep Γ G ρ v d ∧ bindG g d env = some env' ∧ ∀ σ', SameBut (slots g) σ σ' → Rel Γ H0 G ρ M σ' env' H → Q σ' H
def tGts (Γ : Cfg) (gs : List Mp.G) : TGs := fun vs σ H Q => ∃ H0 G ρ M env ds env', Rel Γ H0 G ρ M σ env H ∧ Reps Γ G ρ vs ds ∧ bindGs gs ds env = some env' ∧ ∀ σ', SameBut (slotss gs) σ σ' → Rel Γ H0 G ρ M σ' env' H → Q σ' H
theorem PG.imp {e : Expr} {t t' : TG} (h : PG X e t) (q : ∀ v σ H Q, t' v σ H Q → t v σ H Q) : PG X e t' := ⟨fun pins s σ H v u Q I r hw => h.run pins s σ H v u Q I r (q _ _ _ _ hw)⟩
theorem PGs.imp {e : List Expr} {t t' : TGs} (h : PGs X e t) (q : ∀ v σ H Q, t' v σ H Q → t v σ H Q) : PGs X e t' := ⟨fun pins s σ H v u Q I r hw => h.run pins s σ H v u Q I r (q _ _ _ _ hw)⟩
theorem asg_star : ∀ {es : List Expr} {env : PySem.Env}, es.all noStar = true → assignEach es env = es.map fun e => (false, assign e env)
  | [], _, _ => rfl
  | e :: es, env, h => by
    simp only [List.all_cons, Bool.and_eq_true] at h
    have : assignEach (e :: es) env = (false, assign e env) :: assignEach es env := by
      have h1 := h.1
      cases e <;> first | rfl | cases h1
    rw [this, asg_star h.2]; rfl
theorem chkGs_star : ∀ {gs : List Mp.G} {es : List Expr}, chkGs S c gs es = true → es.all noStar = true ∧ es.length = gs.length
  | [], [], _ => ⟨rfl, rfl⟩
  | [], _ :: _, h => by simp [chkGs] at h
  | _ :: _, [], h => by simp [chkGs] at h
  | g :: gs, e :: es, h => by
    simp only [chkGs, Bool.and_eq_true] at h
    obtain ⟨h1, h2⟩ := chkGs_star h.2
    simp [h.1.1, h1, h2]
theorem unstar_ok : ∀ {es es' : List Expr}, unstar es = some es' → es' ≠ [] ∧ ∀ env : PySem.Env, (assignEach es env).length = es'.length ∧ (assignEach es env).map (·.2) = (assignEach es' env).map (·.2) ∧ (assignEach es env).findIdx? (·.1) = some (es'.length - 1)
  | [], _, h => by simp [unstar] at h
  | e :: es, es', h => by
    unfold unstar at h
    split at h
    · rename_i e0 p
      split at h
      · rename_i hn
        cases h
        refine ⟨by simp, fun env => ?_⟩
        have h1 : assignEach [e0] env = [(false, assign e0 env)] := by cases e0 <;> first | rfl | cases hn
        rw [h1]
        exact ⟨rfl, rfl, rfl⟩
      · cases h
    · split at h
      · rename_i hn
        rw [Option.map_eq_some_iff] at h
        obtain ⟨r, h1, h2⟩ := h
        subst h2
        obtain ⟨hr, k⟩ := unstar_ok h1
        refine ⟨by simp, fun env => ?_⟩
        obtain ⟨k1, k2, k3⟩ := k env
        have a1 : assignEach (e :: es) env = (false, assign e env) :: assignEach es env := by cases e <;> first | rfl | cases hn
        have a2 : assignEach (e :: r) env = (false, assign e env) :: assignEach r env := by cases e <;> first | rfl | cases hn
        rw [a1, a2]
        have hl : 0 < r.length := List.length_pos_iff.mpr hr
        refine ⟨by simp [k1], by simp [k2], ?_⟩
        rw [List.findIdx?_cons, k3]
        simp
        omega
      · cases h
theorem PG.or {e : Expr} {t1 t2 : TG} (h1 : PG X e t1) (h2 : PG X e t2) : PG X e (fun v σ H Q => t1 v σ H Q ∨ t2 v σ H Q) :=
  ⟨fun pins s σ H v u Q I r hw => hw.elim (fun q => h1.run pins s σ H v u Q I r q) fun q => h2.run pins s σ H v u Q I r q⟩
/-- a row of targets: from a tuple, from a list -/
theorem pg_row (h : XOk Γ S CX k c X E) {gs : List Mp.G} {es : List Expr} {n : Nat} {q : Pos} (hc : chkGs S c gs es = true) (hg : PGs X es (tGts Γ gs)) : PG X (.Tuple es n q) (fun v σ H Q => gTup X.K gs.length (tGts Γ gs) v σ H Q ∨ gUnl X.K gs.length (tGts Γ gs) v σ H Q) := by
  obtain ⟨hs, hl⟩ := chkGs_star hc
  have ha := asg_star (env := X.env) hs
  exact PG.or (pg_tup (n := gs.length) h.calm hg (by rw [ha, List.length_map]; exact hl) (by rw [ha]; simp [List.findIdx?_eq_none_iff])) (pg_unl (n := gs.length) h.calm hg (by rw [ha, List.length_map]; exact hl) (by rw [ha]; simp [List.findIdx?_eq_none_iff]))
mutual
theorem sndG (h : XOk Γ S CX k c X E) (nd : S.N.Nodup) : ∀ (g : Mp.G) (e : Expr), chkG S c g e = true → PG X e (tGt Γ g)
  | .nm i, e, hc => by
    cases e with
    | Name n q =>
      simp only [chkG, Bool.and_eq_true] at hc
      obtain ⟨e1, e2⟩ := at_ok hc.1
      obtain ⟨l1, l2⟩ := h.sto n hc.2
      refine PG.imp (pg_name (i := i) (by rw [h.N]; exact nd) (by rw [h.N]; exact e1) l1 l2) ?_
      rintro v σ H Q ⟨H0, G, ρ, M, env, d, env', rel, r, eb, q⟩
      simp only [bindG] at eb
      split at eb
      · cases eb
        refine q _ ⟨by simp, fun j hj => ?_⟩ (rel.setVal r)
        exact List.getElem?_set_ne (fun z => hj (by simp [slots, z]))
      · cases eb
    | _ => simp [chkG] at hc
  | .tp gs, e, hc => by
    cases e with
    | Tuple es n q =>
      simp only [chkG] at hc
      refine PG.imp (pg_row h hc (sndGs h nd gs es hc)) ?_
      rintro v σ H Q ⟨H0, G, ρ, M, env, d, env', rel, r, eb, q⟩
      cases r with
      | @tup ad xs ds hx rs =>
        simp only [bindG] at eb
        refine .inl ⟨ad, xs, rfl, by rw [h.K]; exact SqT.sub rel.gh hx.sq, ?_, H0, G, ρ, M, env, ds, env', rel, rs, eb, q⟩
        rw [rs.len]
        exact bindGs_len eb
      | @lst ad xs ds hx rs =>
        simp only [bindG] at eb
        refine .inr ⟨ad, xs, rfl, by rw [h.K]; exact rel.gh.seq hx, ?_, H0, G, ρ, M, env, ds, env', rel, rs, eb, q⟩
        rw [rs.len]
        exact bindGs_len eb
      | _ => simp [bindG] at eb
    | _ => simp [chkG] at hc
theorem sndGs (h : XOk Γ S CX k c X E) (nd : S.N.Nodup) : ∀ (gs : List Mp.G) (es : List Expr), chkGs S c gs es = true → PGs X es (tGts Γ gs)
  | [], [], hc => PGs.imp pgs_nil fun vs σ H Q ⟨H0, G, ρ, M, env, ds, env', rel, r, eb, q⟩ => by
    cases r with
    | nil =>
      simp only [bindGs] at eb
      cases eb
      exact ⟨rfl, q σ (SameBut.refl _ _) rel⟩
    | cons _ _ => simp [bindGs] at eb
  | [], _ :: _, hc => by simp [chkGs] at hc
  | _ :: _, [], hc => by simp [chkGs] at hc
  | g :: gs, e :: es, hc => by
    have hs := (chkGs_star hc).1
    simp only [chkGs, Bool.and_eq_true] at hc
    have ha := asg_star (env := X.env) hs
    simp only [List.all_cons, Bool.and_eq_true] at hs
    have ha2 := asg_star (env := X.env) hs.2
    refine PGs.imp (pgs_cons (sndG h nd g e hc.1.2) (sndGs h nd gs es hc.2) (by rw [ha, ha2]; rfl)) ?_
    rintro vs σ H Q ⟨H0, G, ρ, M, env, ds, env', rel, r, eb, q⟩
    cases r with
    | nil => simp [bindGs] at eb
    | @cons v vs d ds r1 r2 =>
      simp only [bindGs] at eb
      cases e1 : bindG g d env with
      | none => rw [e1] at eb; cases eb
      | some env1 =>
        rw [e1] at eb
        refine ⟨v, vs, rfl, H0, G, ρ, M, env, d, env1, rel, r1, e1, fun σ1 s1 rel1 => ?_⟩
        refine ⟨H0, G, ρ, M, env1, ds, env', rel1, r2, eb, fun σ2 s2 rel2 => q σ2 ⟨s2.1.trans s1.1, fun j hj => ?_⟩ rel2⟩
        simp only [slotss, List.mem_append, not_or] at hj
        rw [s2.2 j hj.2, s1.2 j hj.1]
theorem bindGs_len : ∀ {gs : List Mp.G} {ds : List D} {env env' : Env}, bindGs gs ds env = some env' → ds.length = gs.length
  | [], [], _, _, _ => rfl
  | [], _ :: _, _, _, h => by simp [bindGs] at h
  | _ :: _, [], _, _, h => by simp [bindGs] at h
  | g :: gs, d :: ds, env, env', h => by
    simp only [bindGs] at h
    cases e1 : bindG g d env with
    | none => rw [e1] at h; cases h
    | some env1 =>
      rw [e1] at h
      simp [bindGs_len h]
end
end
end Mp
end

section
set_option Elab.async false
set_option linter.all false
set_option maxRecDepth 100000
/-! One lemma a construct: iterators, comprehensions, dict displays. -/
namespace Mp
open PySem PySem.Spec L2
section
variable {Γ : Cfg} {S : Sta} {C : Cal} {CX : CXT} {k : Nat} {c : SC} {X : Cx} {E : XK} {x y z tg : Expr} {p : Pos} {a b d : Mp.E}
  {H0 G G' : Hp} {ρ ρ' : List Addr} {M M' : Sto} {σ σ' : L2.St} {env env' : Env} {H H' : Hp}

theorem PI.or {t t' : TI} (h : PI X tg x t) (h' : PI X tg x t') : PI X tg x (fun σ H R => t σ H R ∨ t' σ H R) := ⟨fun pins s σ H R I hw => hw.elim (h.run pins s σ H R I) (h'.run pins s σ H R I)⟩
/-- a sequence's length is within the line -/
def Short (K : PySem.W.Frag) (v : V) (H : Hp) : Prop := ∀ q xs, v = .ref q → (SqL K H q xs ∨ SqT K H q xs) → xs.length ≤ sizeLine
theorem PE.short {t : TE} (h : PE X x t) : PE X x (fun σ H Q => t σ H fun v H1 => Short X.K v H1 → Q v H1) := by
  refine ⟨fun pins s σ H Q I hw => thn (h.run pins s σ H _ I hw) ?_⟩
  rintro u s1 ⟨v, H1, I1, r1, q1⟩
  refine ⟨v, H1, I1, r1, q1 ?_⟩
  rintro q xs rfl (hs | hs)
  · obtain ⟨its, _, _, hz⟩ := I1.list hs; exact hz
  · obtain ⟨its, _, _, hz⟩ := I1.tuple hs; exact hz

/-- a container's length is within the line -/
def DShort : HO → Prop
  | .dK kvs => kvs.length ≤ sizeLine
  | .dT kvs => kvs.length ≤ sizeLine
  | .lst xs => xs.length ≤ sizeLine
  | _ => True
theorem dshort_of {pins : List (Addr × Obj)} {σ : L2.St} {H : Hp} {s : Shared} {d : Addr} {u : HO} (I : L2.Inv X pins σ H s) (h : Rd H d u) : DShort u := by
  cases u with
  | dK kvs => exact (dk_rd I.hok h).1
  | dT kvs => exact (dt_rd I.hok h).1
  | lst xs =>
    obtain ⟨its, r, pl, hz⟩ := I.list (show SqL X.K H d xs from .inl h)
    exact hz
  | _ => trivial
theorem PE.dshort {t : TE} (h : PE X x t) : PE X x (fun σ H Q => t σ H fun v H1 => (∀ d u, v = .ref d → Rd H1 d u → DShort u) → Q v H1) := by
  refine ⟨fun pins s σ H Q I hw => thn (h.run pins s σ H _ I hw) ?_⟩
  rintro u s1 ⟨v, H1, I1, r1, q1⟩
  exact ⟨v, H1, I1, r1, q1 fun d w _ hd => dshort_of I1 hd⟩
/-- the thing is locked for good -/
theorem PE.lk {t : TE} (h : PE X x t) : PE X x (fun σ H Q => t σ H fun v H1 => ∃ d u, v = .ref d ∧ H1 d = some u ∧ Mut (some u) ∧ ∀ od, DShort u → Q v (upd H1 d (.frz od u))) := by
  refine ⟨fun pins s σ H Q I hw => thn (h.run pins s σ H _ I hw) ?_⟩
  rintro u0 s1 ⟨v, H1, I1, r1, d, u, rfl, hd, mu, q⟩
  obtain ⟨od, I2⟩ := I1.lock hd mu
  exact ⟨.ref d, _, I2, r1, q od (dshort_of I1 (.inl hd))⟩
theorem map_get {α β γ : Type} {f : α → γ} {g : β → γ} {xs : List α} {ys : List β} (e : xs.map f = ys.map g) {i : Nat} {a : α} {b : β} (h1 : xs[i]? = some a) (h2 : ys[i]? = some b) : f a = g b := by
  have := congrArg (fun l => l[i]?) e
  simp only [List.getElem?_map, h1, h2, Option.map_some, Option.some.injEq] at this
  exact this
theorem itk_ok {d : Addr} {od : Obj} {us : List (Key × V)} {kvs : List (Key × Mp.D)} (hk : us.map (·.1) = kvs.map (·.1)) (hz : us.length ≤ sizeLine) (e : H d = some (.frz od (.dK us))) : ItOk Γ G ρ H (Itk d od us) (kvs.map fun p => keyB p.1) := by
  have hl : us.length = kvs.length := by simpa using congrArg List.length hk
  refine ⟨by rw [List.length_map, ← hl]; exact hz, fun G1 ρ1 M1 H1 i sg pp fz c1 => ⟨fun dd hd => ?_, fun hi => ⟨fz d _ trivial e, by rw [List.length_map] at hi; omega⟩⟩⟩
  have hi : i < us.length := by
    have := (List.getElem?_eq_some_iff.mp hd).1
    rw [List.length_map] at this; omega
  refine ⟨⟨fz d _ trivial e, hi⟩, ?_⟩
  rintro y H2 ⟨rfl, k, v, h1, rfl⟩
  rw [List.getElem?_map, Option.map_eq_some_iff] at hd
  obtain ⟨p, h2, rfl⟩ := hd
  have ek : k = p.1 := map_get hk h1 h2
  subst ek
  exact ⟨G1, Adv.refl _ _ _, c1, keyB_rep _⟩
theorem itkt_ok {d : Addr} {od : Obj} {us : List (List Key × V)} {kvs : List (List Key × Mp.D)} (hk : us.map (·.1) = kvs.map (·.1)) (hz : us.length ≤ sizeLine) (e : H d = some (.frz od (.dT us))) : ItOk Γ G ρ H (Itkt d od us) (kvs.map fun p => D.tup (p.1.map keyB)) := by
  have hl : us.length = kvs.length := by simpa using congrArg List.length hk
  refine ⟨by rw [List.length_map, ← hl]; exact hz, fun G1 ρ1 M1 H1 i sg pp fz c1 => ⟨fun dd hd => ?_, fun hi => ⟨fz d _ trivial e, by rw [List.length_map] at hi; omega⟩⟩⟩
  have hi : i < us.length := by
    have := (List.getElem?_eq_some_iff.mp hd).1
    rw [List.length_map] at this; omega
  refine ⟨⟨fz d _ trivial e, hi⟩, ?_⟩
  rintro y H2 ⟨rfl, k, v, q, h1, rfl, hq⟩
  rw [List.getElem?_map, Option.map_eq_some_iff] at hd
  obtain ⟨p, h2, rfl⟩ := hd
  have ek : k = p.1 := map_get hk h1 h2
  subst ek
  obtain ⟨G', st, c', hg⟩ := Core.tups c1 [q] (fun b m => by rw [List.mem_singleton.mp m]; exact ⟨_, hq⟩)
  exact ⟨G', st, c', .tup (.inl ((hg q (List.mem_singleton.mpr rfl)).trans hq)) (keysB_reps _)⟩
theorem itl_ok {q : Addr} {vs : List V} {ds : List Mp.D} (rs : Reps Γ G ρ vs ds) (hz : vs.length ≤ sizeLine) (hs : ∀ H1, Fz H H1 → SqL X.K H1 q vs) : ItOk Γ G ρ H (Itl X.K q) ds := by
  refine ⟨by rw [← rs.len]; exact hz, fun G1 ρ1 M1 H1 i sg pp fz c1 => ?_⟩
  have hs1 := hs H1 fz
  refine ⟨fun d hd => ?_, fun hi => ⟨vs, hs1, by rw [rs.len]; exact hi⟩⟩
  obtain ⟨x, hx, rx⟩ := rs.get hd
  refine ⟨⟨vs, x, hs1, hx⟩, ?_⟩
  rintro y H2 ⟨rfl, hy⟩
  have e3 := hy vs hs1
  rw [hx] at e3
  cases e3
  exact ⟨G1, Adv.refl _ _ _, c1, Rep.mono sg pp rx⟩
theorem s_seq (h : XOk Γ S CX k c X E) (ha : PE X x (tE Γ E C a)) : PI X tg x (tI Γ E C (.seq a)) := by
  refine PI.imp (PI.or (PI.or (pi_list (PE.short ha)) (pi_tup (PE.short ha))) (PI.or (PI.or (pi_keys (PE.lk ha)) (pi_keys (PE.dshort ha))) (PI.or (pi_list (PE.lk ha)) (pi_list (PE.dshort ha))))) ?_
  rintro σ H R ⟨H0, G, ρ, M, env, rel, q⟩
  have q' : Post (XPf Γ E) (ItOk Γ) Γ G ρ H ((evE C a env M).bind fun x M => (match x with | .tup ds => .ok ds M | .lst ds => .ok ds M | .obj a => (match lockM M a with | some (o, M') => (match walkO o with | some ds => .ok ds M' | none => .stk) | none => .stk) | _ => .stk)) R := q
  cases e : evE C a env M with
  | exc y M' =>
    refine .inl (.inl ⟨H0, G, ρ, M, env, rel, ?_⟩)
    rw [e] at q'
    show Post _ _ _ _ _ _ (evE C a env M) _
    rw [e]
    exact q'
  | stk => rw [e] at q'; exact q'.elim
  | ok dd M' =>
    rw [e, Res.bind_ok] at q'
    cases dd with
    | lst ds =>
      refine .inl (.inl ⟨H0, G, ρ, M, env, rel, ?_⟩)
      show Post _ _ _ _ _ _ (evE C a env M) _
      rw [e]
      intro G' ρ' H' v st c2 hr hsh
      cases hr with
      | @lst q vs _ hs rs =>
        have hs' := c2.gh.seq hs
        refine ⟨q, rfl, ⟨vs, h.K ▸ hs'⟩, q' G' ρ' H' _ st c2 ?_⟩
        refine ⟨by rw [← rs.len]; exact hsh q vs rfl (.inl (h.K ▸ hs')), fun G1 ρ1 M1 H1 i sg pp fz c1 => ?_⟩
        have hs1 : SqL X.K H1 q vs := h.K ▸ (sg.trans c1.gh).seq hs
        refine ⟨fun d hd => ?_, fun hi => ⟨vs, hs1, by rw [rs.len]; exact hi⟩⟩
        obtain ⟨x, hx, rx⟩ := rs.get hd
        refine ⟨⟨vs, x, hs1, hx⟩, ?_⟩
        rintro y H2 ⟨rfl, hy⟩
        have e3 := hy vs hs1
        rw [hx] at e3
        cases e3
        exact ⟨G1, Adv.refl _ _ _, c1, Rep.mono sg pp rx⟩
    | tup ds =>
      refine .inl (.inr ⟨H0, G, ρ, M, env, rel, ?_⟩)
      show Post _ _ _ _ _ _ (evE C a env M) _
      rw [e]
      intro G' ρ' H' v st c2 hr hsh
      cases hr with
      | @tup q vs _ hs rs =>
        have hs' := SqT.sub c2.gh hs.sq
        refine ⟨q, rfl, ⟨vs, h.K ▸ hs'⟩, q' G' ρ' H' _ st c2 ?_⟩
        refine ⟨by rw [← rs.len]; exact hsh q vs rfl (.inr (h.K ▸ hs')), fun G1 ρ1 M1 H1 i sg pp fz c1 => ?_⟩
        have hs1 : SqT X.K H1 q vs := h.K ▸ SqT.sub (sg.trans c1.gh) hs.sq
        refine ⟨fun d hd => ?_, fun hi => ⟨vs, hs1, by rw [rs.len]; exact hi⟩⟩
        obtain ⟨x, hx, rx⟩ := rs.get hd
        refine ⟨⟨vs, x, hs1, hx⟩, ?_⟩
        rintro y H2 ⟨rfl, hy⟩
        have e3 := hy vs hs1
        rw [hx] at e3
        cases e3
        exact ⟨G1, Adv.refl _ _ _, c1, Rep.mono sg pp rx⟩
    | obj n =>
      simp only at q'
      cases el : lockM M' n with
      | none => rw [el] at q'; exact q'.elim
      | some oM =>
        obtain ⟨o, M2⟩ := oM
        rw [el] at q'
        simp only at q'
        cases ew : walkO o with
        | none => rw [ew] at q'; exact q'.elim
        | some ds =>
          rw [ew] at q'
          simp only at q'
          by_cases hlk : M'[n]? = some (.lk o)
          · -- locked already
            have eM : M2 = M' := by
              unfold lockM at el
              rw [hlk] at el
              cases el; rfl
            subst eM
            have hob : obAt M2 n = some o := by unfold obAt; rw [hlk]; rfl
            cases o with
            | dk kvs =>
              cases ew
              refine .inr (.inl (.inr ⟨H0, G, ρ, M, env, rel, ?_⟩))
              show Post _ _ _ _ _ _ (evE C a env M) _
              rw [e]
              intro G' ρ' H' v st c2 hr hsh
              cases hr with
              | @obj _ ad ea =>
                obtain ⟨od, us, e1, e2, rr⟩ := c2.st n _ ad hlk ea
                exact ⟨ad, od, rfl, .inl ⟨us, e1, q' G' ρ' H' _ st c2 (itk_ok e2 (hsh ad (.dK us) rfl (.inr ⟨od, e1⟩)) e1)⟩⟩
            | dt kvs =>
              cases ew
              refine .inr (.inl (.inr ⟨H0, G, ρ, M, env, rel, ?_⟩))
              show Post _ _ _ _ _ _ (evE C a env M) _
              rw [e]
              intro G' ρ' H' v st c2 hr hsh
              cases hr with
              | @obj _ ad ea =>
                obtain ⟨od, us, e1, e2, rr⟩ := c2.st n _ ad hlk ea
                exact ⟨ad, od, rfl, .inr ⟨us, e1, q' G' ρ' H' _ st c2 (itkt_ok e2 (hsh ad (.dT us) rfl (.inr ⟨od, e1⟩)) e1)⟩⟩
            | ls es =>
              cases ew
              refine .inr (.inr (.inr ⟨H0, G, ρ, M, env, rel, ?_⟩))
              show Post _ _ _ _ _ _ (evE C a env M) _
              rw [e]
              intro G' ρ' H' v st c2 hr hsh
              cases hr with
              | @obj _ ad ea =>
                obtain ⟨od, us, e1, rr⟩ := c2.st n _ ad hlk ea
                exact ⟨ad, rfl, ⟨us, .inl (.inr ⟨od, e1⟩)⟩, q' G' ρ' H' _ st c2 (itl_ok rr (hsh ad (.lst us) rfl (.inr ⟨od, e1⟩)) fun H1 fz => .inl (.inr ⟨od, fz _ _ trivial e1⟩))⟩
            | lk _ => cases ew
          · -- it is locked now
            cases o with
            | dk kvs =>
              cases ew
              refine .inr (.inl (.inl ⟨H0, G, ρ, M, env, rel, ?_⟩))
              show Post _ _ _ _ _ _ (evE C a env M) _
              rw [e]
              intro G' ρ' H' v st c2 hr
              cases hr with
              | @obj _ ad ea =>
                rcases lock_of c2 ea el with ⟨_, z⟩ | ⟨rfl, hn, em, u, hu, mu, nf, nt, hl⟩
                · exact absurd z hlk
                · obtain ⟨us, e1, e2, rr⟩ := c2.st n _ ad em ea
                  rw [hu] at e1; cases e1
                  refine ⟨ad, _, rfl, hu, mu, fun od hsh => ⟨ad, od, rfl, .inl ⟨us, upd_same, ?_⟩⟩⟩
                  have a2 : Adv G' ρ' H' G' ρ' (upd H' ad (.frz od (.dK us))) := Adv.put (List.mem_of_getElem? ea) hu nf
                  exact q' G' ρ' _ _ (st.trans c2 a2) (c2.put ea (hl od)) (itk_ok e2 hsh upd_same)
            | dt kvs =>
              cases ew
              refine .inr (.inl (.inl ⟨H0, G, ρ, M, env, rel, ?_⟩))
              show Post _ _ _ _ _ _ (evE C a env M) _
              rw [e]
              intro G' ρ' H' v st c2 hr
              cases hr with
              | @obj _ ad ea =>
                rcases lock_of c2 ea el with ⟨_, z⟩ | ⟨rfl, hn, em, u, hu, mu, nf, nt, hl⟩
                · exact absurd z hlk
                · obtain ⟨us, e1, e2, rr⟩ := c2.st n _ ad em ea
                  rw [hu] at e1; cases e1
                  refine ⟨ad, _, rfl, hu, mu, fun od hsh => ⟨ad, od, rfl, .inr ⟨us, upd_same, ?_⟩⟩⟩
                  have a2 : Adv G' ρ' H' G' ρ' (upd H' ad (.frz od (.dT us))) := Adv.put (List.mem_of_getElem? ea) hu nf
                  exact q' G' ρ' _ _ (st.trans c2 a2) (c2.put ea (hl od)) (itkt_ok e2 hsh upd_same)
            | ls es =>
              cases ew
              refine .inr (.inr (.inl ⟨H0, G, ρ, M, env, rel, ?_⟩))
              show Post _ _ _ _ _ _ (evE C a env M) _
              rw [e]
              intro G' ρ' H' v st c2 hr
              cases hr with
              | @obj _ ad ea =>
                rcases lock_of c2 ea el with ⟨_, z⟩ | ⟨rfl, hn, em, u, hu, mu, nf, nt, hl⟩
                · exact absurd z hlk
                · obtain ⟨us, e1, rr⟩ := c2.st n _ ad em ea
                  rw [hu] at e1; cases e1
                  refine ⟨ad, _, rfl, hu, mu, fun od hsh => ⟨ad, rfl, ⟨us, .inl (.inr ⟨od, upd_same⟩)⟩, ?_⟩⟩
                  have a2 : Adv G' ρ' H' G' ρ' (upd H' ad (.frz od (.lst us))) := Adv.put (List.mem_of_getElem? ea) hu nf
                  exact q' G' ρ' _ _ (st.trans c2 a2) (c2.put ea (hl od)) (itl_ok rr hsh fun H1 fz => .inl (.inr ⟨od, fz _ _ trivial upd_same⟩))
            | lk _ => cases ew
    | _ => exact q'.elim
theorem iota_len : ∀ (n : Nat) (lo : Int), (iota lo n).length = n
  | 0, _ => rfl
  | n + 1, lo => by simp [iota, iota_len n]
theorem iota_get : ∀ (n : Nat) (lo : Int) (i : Nat) (d : D), (iota lo n)[i]? = some d → i < n ∧ d = .int (lo + i)
  | 0, _, _, _, h => by simp [iota] at h
  | n + 1, lo, 0, d, h => by simp [iota] at h; subst h; simp
  | n + 1, lo, i + 1, d, h => by
    obtain ⟨h1, h2⟩ := iota_get n (lo + 1) i d (by simpa [iota] using h)
    refine ⟨by omega, ?_⟩
    rw [h2]
    congr 1
    push_cast
    omega
theorem itr_ok {lo : Int} {n : Nat} (hn : n ≤ line) : ItOk Γ G ρ H (Itr lo n) (iota lo n) := by
  refine ⟨by rw [iota_len]; exact line_le hn, fun G1 ρ1 M1 H1 i sg pp fz c1 => ⟨fun d hd => ?_, fun hi => by rw [iota_len] at hi; exact hi⟩⟩
  obtain ⟨h1, rfl⟩ := iota_get n lo i d hd
  refine ⟨h1, ?_⟩
  rintro y H2 ⟨rfl, rfl⟩
  exact ⟨G1, Adv.refl _ _ _, c1, .int _⟩
theorem rng_ok {i : Int} (h : rngOk i = true) : -(2 ^ 62) ≤ i ∧ i < 2 ^ 62 := by
  simp only [rngOk, Bool.and_eq_true, decide_eq_true_eq] at h
  omega
theorem s_rng1 (TB : Tab Γ S C CX k) (h : XOk Γ S CX k c X E) {p' : Pos} (h3 : S.bn.contains "range" = true) (h4 : glB c.sc "range" = true) (hs : noStar x = true) (ha : PE X x (tE Γ E C a)) : PI X tg (.Call (.Name "range" p') [x] [] p) (tI Γ E C (.rng1 a)) := by
  have hg : Gl X "range" := by show X.env.scope.names.lookup _ = _; rw [h.sc]; exact gl_ok h4
  have hm : X.mg "range" = none := by rw [h.mg]; exact TB.blt _ (by simpa using h3)
  refine PI.imp (pi_range1 hg hm (pa_cons ha pa_nil (star_of hs)) (star_of hs)) ?_
  rintro σ H R q
  refine tG.mono (tG.bind (R1 := RepS Γ) (k := fun _ (x : D) M => (match x with | .int n => if rngOk n && decide (n.toNat ≤ line) then Res.ok (iota 0 n.toNat) M else .stk | _ => .stk)) q) ?_
  rintro v H1 ⟨H0, G, ρ, M, env, d1, rel, r1, q2⟩
  cases r1 with
  | int n =>
    simp only at q2
    split at q2
    · rename_i hn
      simp only [Bool.and_eq_true, decide_eq_true_eq] at hn
      exact ⟨n, rfl, (rng_ok hn.1).1, (rng_ok hn.1).2, Post.now rel.toCore q2 (itr_ok hn.2)⟩
    · exact q2.elim
  | _ => exact q2.elim
theorem s_rng2 (TB : Tab Γ S C CX k) (h : XOk Γ S CX k c X E) {p' : Pos} (h3 : S.bn.contains "range" = true) (h4 : glB c.sc "range" = true) (hs : noStar x = true) (hs2 : noStar y = true) (ha : PE X x (tE Γ E C a)) (hb : PE X y (tE Γ E C b)) :
    PI X tg (.Call (.Name "range" p') [x, y] [] p) (tI Γ E C (.rng2 a b)) := by
  have hg : Gl X "range" := by show X.env.scope.names.lookup _ = _; rw [h.sc]; exact gl_ok h4
  have hm : X.mg "range" = none := by rw [h.mg]; exact TB.blt _ (by simpa using h3)
  refine PI.imp (pi_range2 hg hm (pa_cons ha (pa_cons hb pa_nil (star_of hs2)) (star_of hs)) (by rw [star_of hs, star_of hs2]; rfl) (star_of hs2)) ?_
  rintro σ H R q
  refine tG.mono (tG.bind2 (R1 := RepS Γ) (R2 := RepS Γ) (k := fun _ (x y : D) M => (match x, y with | .int i, .int j => if rngOk i && rngOk j && decide ((j - i).toNat ≤ line) then Res.ok (iota i (j - i).toNat) M else .stk | _, _ => .stk)) persS q) fun v H1 q1 => tG.mono q1 ?_
  rintro u H2 ⟨H0, G, ρ, M, env, d1, d2, rel, r1, r2, q2⟩
  cases r1 with
  | int i =>
    cases r2 with
    | int j =>
      simp only at q2
      split at q2
      · rename_i hn
        simp only [Bool.and_eq_true, decide_eq_true_eq] at hn
        exact ⟨i, j, rfl, ⟨(rng_ok hn.1.1).1, (rng_ok hn.1.1).2, (rng_ok hn.1.2).1, (rng_ok hn.1.2).2⟩, Post.now rel.toCore q2 (itr_ok hn.2)⟩
      · exact q2.elim
    | _ => exact q2.elim
  | _ => exact q2.elim

/-! ### comprehensions -/
theorem blk_ok (TB : Tab Γ S C CX k) (h : XOk Γ S CX k c X E) {scope : Scope} (s : Shared) (H : Hp) (Cc : Addr) (cl : List (Str × Addr)) (fp : List Addr) (hu : ∀ y ∈ scope.names, scope.names.lookup y.1 = some y.2) :
    XOk Γ S CX k ⟨scope, relS scope c.sc⟩ (X.blk s H scope (compEnvC scope cl Cc X.env) fp) E0 where
  prog := h.prog
  nm := h.nm
  w := h.w
  K := h.K
  mg := h.mg
  base := h.base
  calm := h.calm
  N := h.N
  sc := by show relS scope X.env.scope = _; rw [h.sc]
  sto := fun x hx => by
    unfold stB at hx
    have e : (X.blk s H scope (compEnvC scope cl Cc X.env) fp).env.scope = relS scope X.env.scope := rfl
    rw [e]
    split at hx
    · rename_i hl
      have := lookup_relS_keep (sc := X.env.scope) (by decide) hl
      exact ⟨.inl this, .inr this⟩
    · rename_i hl
      have := lookup_relS_keep (sc := X.env.scope) (by decide) hl
      exact ⟨.inr this, .inl (by show (scope.names.lookup x == some .cell) = true; rw [hl]; rfl)⟩
    · cases hx
  room := h.room
  gu := h.gu
  pass := fun pins σ H s e s' I hq => TB.cx0 _ _ _ _ _ hq

theorem wipe_same {vs : List Nat} (σ σ' : L2.St) : σ'.length = σ.length → (∀ i, i ∉ vs → σ'[i]? = σ[i]?) → L2.wipe σ' vs = L2.wipe σ vs := by
  induction vs with
  | nil =>
    intro hl hs
    exact List.ext_getElem? fun i => hs i (by simp)
  | cons v vs ih =>
    intro hl hs
    show (L2.wipe σ' vs).set v none = (L2.wipe σ vs).set v none
    apply List.ext_getElem?
    intro i
    by_cases hi : v = i
    · subst hi
      by_cases hv : v < σ.length
      · rw [List.getElem?_set_self (by rw [wipe_length, hl]; exact hv), List.getElem?_set_self (by rw [wipe_length]; exact hv)]
      · rw [List.getElem?_eq_none (by simp [wipe_length, hl]; omega), List.getElem?_eq_none (by simp [wipe_length]; omega)]
    · rw [List.getElem?_set_ne hi, List.getElem?_set_ne hi]
      by_cases hm : i ∈ vs
      · have : ∀ τ : L2.St, (L2.wipe τ vs)[i]? = if i < τ.length then some none else none := by
          intro τ
          exact wipe_at hm
        rw [this, this, hl]
      · rw [wipe_out hm, wipe_out hm]
        exact hs i (by simp [hm]; exact fun z => hi z.symm)
where
  wipe_at {vs : List Nat} {τ : L2.St} {i : Nat} (hm : i ∈ vs) : (L2.wipe τ vs)[i]? = if i < τ.length then some none else none := by
    induction vs with
    | nil => cases hm
    | cons v vs ih =>
      show ((L2.wipe τ vs).set v none)[i]? = _
      by_cases hi : v = i
      · subst hi
        split
        · rename_i h; exact List.getElem?_set_self (by rw [wipe_length]; exact h)
        · rename_i h; exact List.getElem?_eq_none (by simp [wipe_length]; omega)
      · rw [List.getElem?_set_ne hi]
        exact ih (by rcases List.mem_cons.mp hm with e | e; exact absurd e.symm hi; exact e)
theorem wipe_wipe {vs : List Nat} {σ σ' : L2.St} (h : ∀ i, i ∉ vs → σ'[i]? = (L2.wipe σ vs)[i]?) (hl : σ'.length = (L2.wipe σ vs).length) : L2.wipe σ' vs = L2.wipe σ vs := by
  refine wipe_same _ _ (by rw [hl, wipe_length]) fun i hi => ?_
  rw [h i hi, wipe_out hi]
theorem lc_read {g : Mp.G} {own : List (Str × Nat)} {it : Mp.It} {t : Ts} {Q : VK} (sub : (slots g).all (fun i => (own.map (·.2)).contains i) = true) (q : tE Γ E C (.comp g own it t a) σ H Q) :
    tLc (tI Γ E C it) (tGt Γ g) (tTs Γ E0 C t) (tE Γ E0 C a) (own.map (·.2)) σ H Q := by
  obtain ⟨H0, G0, ρ0, M0, env0, rel0, q0⟩ := q
  simp only [evE] at q0
  split at q0
  · exact q0.elim
  rename_i hfree
  refine ⟨H0, G0, ρ0, M0, env0, rel0, Post.mono (Post.bind (R1 := ItOk Γ) q0) ?_⟩
  rintro J H1 ⟨G1, ρ1, M1, ds, st1, c1, itok, q1⟩ D hD
  have rel1 := rel0.adv st1 c1
  obtain ⟨hlen, itok⟩ := itok
  generalize hstep : (fun (d : Mp.D) M => match bindG g d (wipeE env0 own) with
        | some env2 => (evTs C t env2 M).bind fun b M => if b = true then (evE C a env2 M).bind fun y M => Res.ok (some y) M else .ok none M
        | none => .stk) = step at q1
  let B : Nat → Hp → Prop := fun i H => ∃ G2 ρ2 M2 acc vs, Adv G1 ρ1 H1 G2 ρ2 H ∧ Core Γ G2 ρ2 M2 H ∧ H D = some (.lst vs) ∧ G2 D = none ∧ D ∉ ρ2 ∧ Reps Γ G2 ρ2 vs acc ∧ vs.length ≤ i ∧
      Post (XPf Γ E) (RepS Γ) Γ G1 ρ1 H1 ((compL step (ds.drop i) acc M2).bind fun ys M => .ok (.lst ys) M) Q
  refine ⟨fun i m H => m = ds.length - i ∧ i ≤ ds.length ∧ B i H, ⟨ds.length, by simp, Nat.zero_le _, G1, ρ1, M1, [], [], Adv.laid hD, c1.laid hD, upd_same, (c1.fresh hD).2, (c1.fresh hD).1, .nil, Nat.le_refl _, q1⟩, ?_⟩
  rintro i m H ⟨rfl, hi, G2, ρ2, M2, acc, vs, st2, c2, hHD, hGD, hρD, racc, hvl, q2⟩
  by_cases hlt : i < ds.length
  · obtain ⟨go, yld⟩ := (itok G2 ρ2 M2 H i st2.gg st2.pp st2.fz c2).1 ds[i] (List.getElem?_eq_getElem hlt)
    refine .inr ⟨go, B (i + 1), fun H' hb => ⟨ds.length - (i + 1), by omega, rfl, hlt, hb⟩, fun xv H3 hy => ?_⟩
    obtain ⟨G3, st3, c3, r3⟩ := yld xv H3 hy
    rw [List.drop_eq_getElem_cons hlt] at q2
    simp only [compL] at q2
    have st13 := st2.trans c2 st3
    have relW : Rel Γ H0 G3 ρ2 M2 (L2.wipe σ (own.map (·.2))) (wipeE env0 own) H3 := (rel1.adv st13 c3).wipe own
    have hs : step ds[i] M2 = (match bindG g ds[i] (wipeE env0 own) with
        | some env2 => (evTs C t env2 M2).bind fun b M => if b = true then (evE C a env2 M).bind fun y M => Res.ok (some y) M else .ok none M
        | none => .stk) := by rw [← hstep]
    rw [hs] at q2
    cases eb : bindG g ds[i] (wipeE env0 own) with
    | none => rw [eb] at q2; exact q2.elim
    | some env2 =>
      rw [eb] at q2
      simp only at q2
      have hH3D : H3 D = some (.lst vs) := st3.keep D _ hρD hHD
      have hG3D : G3 D = none := st3.gnew D hGD ⟨_, hHD, fun _ z => by cases z⟩
      refine ⟨H0, G3, ρ2, M2, wipeE env0 own, ds[i], env2, relW, r3, eb, fun σ' sb rel' => ⟨?_, ?_⟩⟩
      · refine wipe_wipe (fun j hj => sb.2 j fun hm => hj ?_) sb.1
        rw [List.all_eq_true] at sub
        have := sub j hm
        simpa using this
      · refine ⟨H0, G3, ρ2, M2, env2, rel', ?_⟩
        show Post (XPf Γ E0) (RepEq Bool) Γ G3 ρ2 H3 (evTs C t env2 M2) _
        cases e1 : evTs C t env2 M2 with
        | exc y M' => rw [e1] at q2; exact q2.elim
        | stk => rw [e1] at q2; exact q2.elim
        | ok b M3 =>
          rw [e1, Res.bind_ok] at q2
          rintro G4 ρ4 H4 b' st4 c4 rfl
          have hH4D : H4 D = some (.lst vs) := st4.keep D _ hρD hH3D
          have hG4D : G4 D = none := st4.gnew D hG3D ⟨_, hH3D, fun _ z => by cases z⟩
          have hρ4 : D ∉ ρ4 := fun hm => by
            have := st4.new D hm hρD
            rw [hH3D] at this; cases this
          have st14 := st13.trans c3 st4
          have racc4 : Reps Γ G4 ρ4 vs acc := Reps.mono (st3.gg.trans st4.gg) st4.pp racc
          cases b' with
          | false =>
            simp only [Bool.false_eq_true, if_false] at q2
            exact ⟨G4, ρ4, M3, acc, vs, st14, c4, hH4D, hG4D, hρ4, racc4, by omega, q2⟩
          | true =>
            simp only [if_true] at q2
            refine ⟨H0, G4, ρ4, M3, env2, rel'.adv st4 c4, ?_⟩
            show Post (XPf Γ E0) (RepS Γ) Γ G4 ρ4 H4 (evE C a env2 M3) _
            cases e2 : evE C a env2 M3 with
            | exc y M' => rw [e2] at q2; exact q2.elim
            | stk => rw [e2] at q2; exact q2.elim
            | ok y M5 =>
              rw [e2, Res.bind_ok] at q2
              intro G5 ρ5 H5 v5 st5 c5 r5
              have hH5D : H5 D = some (.lst vs) := st5.keep D _ hρ4 hH4D
              have hG5D : G5 D = none := st5.gnew D hG4D ⟨_, hH4D, fun _ z => by cases z⟩
              have hρ5 : D ∉ ρ5 := fun hm => by
                have := st5.new D hm hρ4
                rw [hH4D] at this; cases this
              have st15 := st14.trans c4 st5
              refine ⟨vs, hH5D, by omega, G5, ρ5, M5, acc ++ [y], vs ++ [v5], ?_, ?_, upd_same, hG5D, hρ5, (Reps.mono st5.gg st5.pp racc4).append (.cons r5 .nil), by simp; omega, q2⟩
              · refine ⟨st15.gg, st15.pp, st15.new, fun q o n e => ?_, st15.gnew⟩
                rw [upd_ne (ne_of_none e hD)]
                exact st15.kp q o n e
              · refine ⟨fun q o e => ?_, c5.off, c5.nd, c5.len, fun i o ad e1 e2 => ?_⟩
                · have : q ≠ D := fun z => by rw [z, hG5D] at e; cases e
                  rw [upd_ne this]; exact c5.gh q o e
                · have : ad ≠ D := fun z => hρ5 (z ▸ List.mem_of_getElem? e2)
                  exact ObRel.mono (Same.refl _) (Pre.refl _) (upd_ne this) (c5.st i o ad e1 e2)
  · have ei : i = ds.length := by omega
    refine .inl ⟨(itok G2 ρ2 M2 H i st2.gg st2.pp st2.fz c2).2 (by omega), ?_⟩
    rw [ei, List.drop_length] at q2
    simp only [compL, Res.bind_ok] at q2
    have sg := sub_upd (o := HO.lst vs) hGD
    refine q2 (upd G2 D (.lst vs)) ρ2 H (.ref D) ⟨st2.gg.trans sg, st2.pp, st2.new, st2.kp, fun q e n => ?_⟩ ⟨fun q o e => ?_, fun ad hm => ?_, c2.nd, c2.len, fun i o ad e1 e2 => ObRel.mono sg (Pre.refl _) rfl (c2.st i o ad e1 e2)⟩ (.lst (.of upd_same) (Reps.mono sg (Pre.refl _) racc))
    · have : q ≠ D := fun z => by
        obtain ⟨o, ho, _⟩ := n
        rw [z, hD] at ho; cases ho
      rw [upd_ne this]; exact st2.gnew q e n
    · by_cases hq : q = D
      · subst hq; rw [upd_same] at e; cases e; exact hHD
      · rw [upd_ne hq] at e; exact c2.gh q o e
    · have : ad ≠ D := fun z => hρD (z ▸ hm)
      rw [upd_ne this]; exact c2.off ad hm
theorem s_comp (TB : Tab Γ S C CX k) (h : XOk Γ S CX k c X E) {g : Mp.G} {own : List (Str × Nat)} {it : Mp.It} {t : Ts} {elt iter : Expr} {ifs : List Expr} {scope : Scope} (ok : blkC S.N c.sc scope own = true)
    (sub : (slots g).all (fun i => (own.map (·.2)).contains i) = true) (hset : noSet iter = true) (hit : PI X tg iter (tI Γ E C it))
    (hg : ∀ X', XOk Γ S CX k ⟨scope, relS scope c.sc⟩ X' E0 → PG X' tg (tGt Γ g)) (ht : ∀ X', XOk Γ S CX k ⟨scope, relS scope c.sc⟩ X' E0 → PTs X' ifs (tTs Γ E0 C t))
    (he : ∀ X', XOk Γ S CX k ⟨scope, relS scope c.sc⟩ X' E0 → PE X' elt (tE Γ E0 C a)) : PE X (.ListComp elt [⟨tg, iter, ifs, 0⟩] scope p) (tE Γ E C (.comp g own it t a)) := by
  have bo : BlkOk X.N X.env.scope scope own := by rw [h.N, h.sc]; exact blkOk_by ok
  exact PE.imp (pe_lc h.calm (by rw [h.N]; exact TB.nd) hit bo (fun s H Cc cl fp => hg _ (blk_ok TB h s H Cc cl fp bo.uniq)) (fun s H Cc cl fp => ht _ (blk_ok TB h s H Cc cl fp bo.uniq)) (fun s H Cc cl fp => he _ (blk_ok TB h s H Cc cl fp bo.uniq)) (set_plain hset)) fun σ H Q q => lc_read sub q
/-- x = [..], x a local -/
theorem s_compSet (TB : Tab Γ S C CX k) (h : XOk Γ S CX k c X E) {g : Mp.G} {own : List (Str × Nat)} {it : Mp.It} {t : Ts} {elt iter : Expr} {ifs : List Expr} {scope : Scope} {i : Nat} {n : Str} {py spos : Pos} (hn : at? S.N i n = true) (hl : c.sc.names.lookup n = some .local) (hk : c.sc.kind = .function)
    (h1 : (py.line == p.line) = true) (h2 : (scope.names.any fun (m, k) => m == n && (k == .local || k == .cell)) = false) (ok : blkC S.N c.sc scope own = true)
    (sub : (slots g).all (fun i => (own.map (·.2)).contains i) = true) (hset : noSet iter = true) (hit : PI X tg iter (tI Γ E C it))
    (hg : ∀ X', XOk Γ S CX k ⟨scope, relS scope c.sc⟩ X' E0 → PG X' tg (tGt Γ g)) (ht : ∀ X', XOk Γ S CX k ⟨scope, relS scope c.sc⟩ X' E0 → PTs X' ifs (tTs Γ E0 C t))
    (he : ∀ X', XOk Γ S CX k ⟨scope, relS scope c.sc⟩ X' E0 → PE X' elt (tE Γ E0 C a)) : PS X (.Assign [.Name n py] (.ListComp elt [⟨tg, iter, ifs, 0⟩] scope p) spos) (tAsg (tE Γ E C (.comp g own it t a)) (gName i)) := by
  have bo : BlkOk X.N X.env.scope scope own := by rw [h.N, h.sc]; exact blkOk_by ok
  obtain ⟨e1, e2⟩ := at_ok hn
  exact PS.imp (ps_setLc (i := i) h.calm (by rw [h.N]; exact TB.nd) (by rw [h.N]; exact e1) (by rw [h.sc]; exact hl) (sw_true (by rw [h.sc]; exact hk) (by rw [h.sc]; exact hl) h1 h2) hit bo (fun s H Cc cl fp => hg _ (blk_ok TB h s H Cc cl fp bo.uniq)) (fun s H Cc cl fp => ht _ (blk_ok TB h s H Cc cl fp bo.uniq)) (fun s H Cc cl fp => he _ (blk_ok TB h s H Cc cl fp bo.uniq)) (set_plain hset)) fun D σ H q => lc_read sub q

/-! ### dict comprehensions -/
/-- the one kind of dict or the other -/
structure DKd (Γ : Cfg) (κ : Type) [DecidableEq κ] (tk : Bool) (key : Mp.D → Option κ) (mk : List (κ × V) → HO) (obk : List (κ × Mp.D) → Ob) : Prop where
  void : void? tk = mk []
  put : ∀ {G : Hp} {ρ : List Addr} {M : Sto} {H : Hp} {us : List (κ × V)} {k : κ} {v z : V} {d : Mp.D} {D : Addr}, Core Γ G ρ M H → H D = some (mk us) → us.length < sizeLine → Rep Γ G ρ v d → key d = some k → DPut H D v z (upd H D (mk (putK us k z)))
  nt : ∀ us, NoTup (mk us)
  ob : ∀ {G : Hp} {ρ : List Addr} {H : Hp} {us : List (κ × V)} {kvs : List (κ × Mp.D)} {D : Addr}, H D = some (mk us) → us.map (·.1) = kvs.map (·.1) → Reps Γ G ρ (us.map (·.2)) (kvs.map (·.2)) → ObRel Γ G ρ H D (obk kvs)
theorem dkd_k : DKd Γ Key false keyD .dK .dk := ⟨rfl, fun c e l r h => by rw [key_one r h]; exact DPut.k e l, fun _ _ z => (by cases z), fun e h r => ⟨_, e, h, r⟩⟩
theorem dkd_t (nm : NoMix Γ.K) : DKd Γ (List Key) true tkeyD .dT .dt := ⟨rfl, fun c e l r h => by
    obtain ⟨b, rfl, eb⟩ := key_tup nm c.gh r h
    exact DPut.t e eb l, fun _ _ z => (by cases z), fun e h r => ⟨_, e, h, r⟩⟩
theorem dc_read0 {κ : Type} [DecidableEq κ] {tk : Bool} {key : Mp.D → Option κ} {mk : List (κ × V) → HO} {obk : List (κ × Mp.D) → Ob} (dk : DKd Γ κ tk key mk obk) {g : Mp.G} {own : List (Str × Nat)} {it : Mp.It} {t : Ts} {Q : VK} {step : Env → Mp.D → Sto → Res (Option (Mp.D × Mp.D))}
    (hstep : ∀ env0 d M, step env0 d M = (match bindG g d (wipeE env0 own) with
        | some env2 => (evTs C t env2 M).bind fun bb M => if bb = true then (evE C a env2 M).bind fun y M => (evE C b env2 M).bind fun z M => Res.ok (some (y, z)) M else .ok none M
        | none => .stk))
    (sub : (slots g).all (fun i => (own.map (·.2)).contains i) = true) (q : tG (XPf Γ E) (RepS Γ) Γ (fun env M => if ownFree env own = false then .stk else (evI C it env M).bind fun ds M => (dcompL key (step env) ds [] M).bind fun kvs M => .ok (.obj M.length) (M ++ [obk kvs])) σ H Q) :
    tDcG tk (tI Γ E C it) (tGt Γ g) (tTs Γ E0 C t) (tE Γ E0 C a) (tE Γ E0 C b) (own.map (·.2)) σ H Q := by
  obtain ⟨H0, G0, ρ0, M0, env0, rel0, q0⟩ := q
  simp only at q0
  split at q0
  · exact q0.elim
  rename_i hfree
  refine ⟨H0, G0, ρ0, M0, env0, rel0, Post.mono (Post.bind (R1 := ItOk Γ) q0) ?_⟩
  rintro J H1 ⟨G1, ρ1, M1, ds, st1, c1, itok, q1⟩ D hD
  have rel1 := rel0.adv st1 c1
  obtain ⟨hlen, itok⟩ := itok
  let B : Nat → Hp → Prop := fun i H => ∃ G2 ρ2 M2 acc us, Adv G1 ρ1 H1 G2 ρ2 H ∧ Core Γ G2 ρ2 M2 H ∧ H D = some (mk us) ∧ G2 D = none ∧ D ∉ ρ2 ∧ us.map (·.1) = acc.map (·.1) ∧ Reps Γ G2 ρ2 (us.map (·.2)) (acc.map (·.2)) ∧
      Post (XPf Γ E) (RepS Γ) Γ G1 ρ1 H1 ((dcompL key (step env0) (ds.drop i) acc M2).bind fun kvs M => .ok (.obj M.length) (M ++ [obk kvs])) Q
  refine ⟨fun i m H => m = ds.length - i ∧ i ≤ ds.length ∧ B i H, ⟨ds.length, by simp, Nat.zero_le _, G1, ρ1, M1, [], [], Adv.laid hD, c1.laid hD, by rw [upd_same, dk.void], (c1.fresh hD).2, (c1.fresh hD).1, rfl, .nil, q1⟩, ?_⟩
  rintro i m H ⟨rfl, hi, G2, ρ2, M2, acc, us, st2, c2, hHD, hGD, hρD, hkeys, racc, q2⟩
  by_cases hlt : i < ds.length
  · obtain ⟨go, yld⟩ := (itok G2 ρ2 M2 H i st2.gg st2.pp st2.fz c2).1 ds[i] (List.getElem?_eq_getElem hlt)
    refine .inr ⟨go, B (i + 1), fun H' hb => ⟨ds.length - (i + 1), by omega, rfl, hlt, hb⟩, fun xv H3 hy => ?_⟩
    obtain ⟨G3, st3, c3, r3⟩ := yld xv H3 hy
    rw [List.drop_eq_getElem_cons hlt] at q2
    simp only [dcompL] at q2
    have st13 := st2.trans c2 st3
    have relW : Rel Γ H0 G3 ρ2 M2 (L2.wipe σ (own.map (·.2))) (wipeE env0 own) H3 := (rel1.adv st13 c3).wipe own
    rw [hstep] at q2
    cases eb : bindG g ds[i] (wipeE env0 own) with
    | none => rw [eb] at q2; exact q2.elim
    | some env2 =>
      rw [eb] at q2
      simp only at q2
      have hH3D : H3 D = some (mk us) := st3.keep D _ hρD hHD
      have hG3D : G3 D = none := st3.gnew D hGD ⟨_, hHD, dk.nt _⟩
      refine ⟨H0, G3, ρ2, M2, wipeE env0 own, ds[i], env2, relW, r3, eb, fun σ' sb rel' => ⟨?_, ?_⟩⟩
      · refine wipe_wipe (fun j hj => sb.2 j fun hm => hj ?_) sb.1
        rw [List.all_eq_true] at sub
        have := sub j hm
        simpa using this
      · refine ⟨H0, G3, ρ2, M2, env2, rel', ?_⟩
        show Post (XPf Γ E0) (RepEq Bool) Γ G3 ρ2 H3 (evTs C t env2 M2) _
        cases e1 : evTs C t env2 M2 with
        | exc y M' => rw [e1] at q2; exact q2.elim
        | stk => rw [e1] at q2; exact q2.elim
        | ok b' M3 =>
          rw [e1, Res.bind_ok] at q2
          rintro G4 ρ4 H4 b'' st4 c4 rfl
          have hH4D : H4 D = some (mk us) := st4.keep D _ hρD hH3D
          have hG4D : G4 D = none := st4.gnew D hG3D ⟨_, hH3D, dk.nt _⟩
          have hρ4 : D ∉ ρ4 := fun hm => by
            have := st4.new D hm hρD
            rw [hH3D] at this; cases this
          have st14 := st13.trans c3 st4
          have racc4 := Reps.mono (st3.gg.trans st4.gg) st4.pp racc
          cases b'' with
          | false =>
            simp only [Bool.false_eq_true, if_false] at q2
            exact ⟨G4, ρ4, M3, acc, us, st14, c4, hH4D, hG4D, hρ4, hkeys, racc4, q2⟩
          | true =>
            simp only [if_true] at q2
            refine ⟨H0, G4, ρ4, M3, env2, rel'.adv st4 c4, ?_⟩
            show Post (XPf Γ E0) (RepS Γ) Γ G4 ρ4 H4 (evE C a env2 M3) _
            cases e2 : evE C a env2 M3 with
            | exc y M' => rw [e2] at q2; exact q2.elim
            | stk => rw [e2] at q2; exact q2.elim
            | ok y M5 =>
              rw [e2, Res.bind_ok] at q2
              intro G5 ρ5 H5 v5 st5 c5 r5
              have hH5D : H5 D = some (mk us) := st5.keep D _ hρ4 hH4D
              have hG5D : G5 D = none := st5.gnew D hG4D ⟨_, hH4D, dk.nt _⟩
              have hρ5 : D ∉ ρ5 := fun hm => by
                have := st5.new D hm hρ4
                rw [hH4D] at this; cases this
              have st15 := st14.trans c4 st5
              refine ⟨H0, G5, ρ5, M5, env2, (rel'.adv st4 c4).adv st5 c5, ?_⟩
              show Post (XPf Γ E0) (RepS Γ) Γ G5 ρ5 H5 (evE C b env2 M5) _
              cases e3 : evE C b env2 M5 with
              | exc y M' => rw [e3] at q2; exact q2.elim
              | stk => rw [e3] at q2; exact q2.elim
              | ok z M6 =>
                rw [e3, Res.bind_ok] at q2
                intro G6 ρ6 H6 v6 st6 c6 r6
                have hH6D : H6 D = some (mk us) := st6.keep D _ hρ5 hH5D
                have hG6D : G6 D = none := st6.gnew D hG5D ⟨_, hH5D, dk.nt _⟩
                have hρ6 : D ∉ ρ6 := fun hm => by
                  have := st6.new D hm hρ5
                  rw [hH5D] at this; cases this
                have st16 := st15.trans c5 st6
                simp only at q2
                cases ek : key y with
                | none => rw [ek] at q2; exact q2.elim
                | some k0 =>
                  rw [ek] at q2
                  simp only at q2
                  split at q2
                  · rename_i hl
                    have hul : us.length = acc.length := by simpa using congrArg List.length hkeys
                    obtain ⟨p1, p2⟩ := dput_rep (k := k0) r6 hkeys (Reps.mono (st5.gg.trans st6.gg) (st5.pp.trans st6.pp) racc4)
                    refine ⟨_, dk.put c6 hH6D (by rw [hul, sizeLine_eq]; unfold dline at hl; omega) (Rep.mono st6.gg st6.pp r5) ek, G6, ρ6, M6, dput acc k0 z, putK us k0 v6, ?_, ?_, upd_same, hG6D, hρ6, p1, p2, q2⟩
                    · refine ⟨st16.gg, st16.pp, st16.new, fun q o n e => ?_, st16.gnew⟩
                      rw [upd_ne (ne_of_none e hD)]
                      exact st16.kp q o n e
                    · refine ⟨fun q o e => ?_, c6.off, c6.nd, c6.len, fun i o ad e1 e2 => ?_⟩
                      · have : q ≠ D := fun z => by rw [z, hG6D] at e; cases e
                        rw [upd_ne this]; exact c6.gh q o e
                      · have : ad ≠ D := fun z => hρ6 (z ▸ List.mem_of_getElem? e2)
                        exact ObRel.mono (Same.refl _) (Pre.refl _) (upd_ne this) (c6.st i o ad e1 e2)
                  · exact q2.elim
  · have ei : i = ds.length := by omega
    refine .inl ⟨(itok G2 ρ2 M2 H i st2.gg st2.pp st2.fz c2).2 (by omega), ?_⟩
    rw [ei, List.drop_length] at q2
    simp only [dcompL, Res.bind_ok] at q2
    have pl : ρ2.length = M2.length := c2.len
    have pp : Pre ρ2 (ρ2 ++ [D]) := fun i ad e => by rw [List.getElem?_append_left (List.getElem?_eq_some_iff.mp e).1]; exact e
    refine q2 G2 (ρ2 ++ [D]) H (.ref D) ⟨st2.gg, st2.pp.trans pp, fun ad hm n => ?_, st2.kp, st2.gnew⟩ ⟨c2.gh, fun ad hm => ?_, ?_, by simp [pl], fun i o ad e1 e2 => ?_⟩ (.obj (by rw [← pl]; simp))
    · rcases List.mem_append.mp hm with hm | hm
      · exact st2.new ad hm n
      · rw [List.mem_singleton.mp hm]; exact hD
    · rcases List.mem_append.mp hm with hm | hm
      · exact c2.off ad hm
      · rw [List.mem_singleton.mp hm]; exact hGD
    · rw [List.nodup_append]
      refine ⟨c2.nd, by simp, fun ad hm bd hb => ?_⟩
      rw [List.mem_singleton.mp hb]
      exact fun z => hρD (z ▸ hm)
    · by_cases hi2 : i < ρ2.length
      · rw [List.getElem?_append_left (by rw [← pl]; exact hi2)] at e1
        rw [List.getElem?_append_left hi2] at e2
        exact ObRel.mono (Same.refl _) pp rfl (c2.st i o ad e1 e2)
      · have hi0 : i = ρ2.length := by
          have := (List.getElem?_eq_some_iff.mp e2).1
          simp at this; omega
        subst hi0
        simp [pl] at e1 e2
        subst e1 e2
        exact dk.ob hHD hkeys (Reps.mono (Same.refl _) pp racc)
end
end Mp
end

section
set_option Elab.async false
set_option linter.all false
set_option maxRecDepth 100000
/-! Iterators that lay pairs; ranges as lists; dict comprehensions. -/
namespace Mp
open PySem PySem.Spec L2
section
variable {Γ : Cfg} {S : Sta} {C : Cal} {CX : CXT} {k : Nat} {c : SC} {X : Cx} {E : XK} {x y z tg : Expr} {p : Pos} {a b d : Mp.E}
  {H0 G G' : Hp} {ρ ρ' : List Addr} {M M' : Sto} {σ σ' : L2.St} {env env' : Env} {H H' : Hp}

theorem enumD_len : ∀ (n : Nat) (ds : List Mp.D), (enumD n ds).length = ds.length
  | _, [] => rfl
  | n, d :: ds => by simp [enumD, enumD_len (n + 1) ds]
theorem enumD_get : ∀ (n : Nat) (ds : List Mp.D) (i : Nat) (d : Mp.D), (enumD n ds)[i]? = some d → ∃ e, ds[i]? = some e ∧ d = .tup [.int ((n + i : Nat) : Int), e]
  | _, [], _, _, h => by simp [enumD] at h
  | n, e :: ds, 0, d, h => by
    simp [enumD] at h; subst h
    exact ⟨e, rfl, by simp⟩
  | n, e :: ds, i + 1, d, h => by
    obtain ⟨f, h1, h2⟩ := enumD_get (n + 1) ds i d (by simpa [enumD] using h)
    refine ⟨f, by simpa using h1, ?_⟩
    rw [h2]
    have : n + 1 + i = n + (i + 1) := by omega
    rw [this]
theorem zipD_len : ∀ (ds es : List Mp.D), (zipD ds es).length = min ds.length es.length
  | [], _ => by simp [zipD]
  | _ :: _, [] => by simp [zipD]
  | d :: ds, e :: es => by simp [zipD, zipD_len ds es]
theorem zipD_get : ∀ (ds es : List Mp.D) (i : Nat) (d : Mp.D), (zipD ds es)[i]? = some d → ∃ u v, ds[i]? = some u ∧ es[i]? = some v ∧ d = .tup [u, v]
  | [], _, _, _, h => by simp [zipD] at h
  | _ :: _, [], _, _, h => by simp [zipD] at h
  | u :: ds, v :: es, 0, d, h => by
    simp [zipD] at h; subst h
    exact ⟨u, v, rfl, rfl, rfl⟩
  | u :: ds, v :: es, i + 1, d, h => by
    obtain ⟨u', v', h1, h2, h3⟩ := zipD_get ds es i d (by simpa [zipD] using h)
    exact ⟨u', v', by simpa using h1, by simpa using h2, h3⟩
/-- a pair that is laid now -/
theorem pair_ok {T : Addr} {u v : V} {du dv : Mp.D} (c1 : Core Γ G ρ M H) (hT : H T = none) (ru : Rep Γ G ρ u du) (rv : Rep Γ G ρ v dv) :
    ∃ G2, Adv G ρ H G2 ρ (upd H T (.tup [u, v])) ∧ Core Γ G2 ρ M (upd H T (.tup [u, v])) ∧ Rep Γ G2 ρ (.ref T) (.tup [du, dv]) := by
  have sg := sub_upd (o := HO.tup [u, v]) (c1.fresh hT).2
  exact ⟨_, Adv.alloc c1 hT, c1.alloc hT, .tup (.inl upd_same) (.cons (Rep.mono sg (Pre.refl _) ru) (.cons (Rep.mono sg (Pre.refl _) rv) .nil))⟩
theorem ite_ok {q : Addr} {vs : List V} {ds : List Mp.D} (rs : Reps Γ G ρ vs ds) (hz : vs.length ≤ sizeLine) (hs : ∀ H1, Sub G H1 → SqL X.K H1 q vs) : ItOk Γ G ρ H (Ite X.K q) (enumD 0 ds) := by
  refine ⟨by rw [enumD_len, ← rs.len]; exact hz, fun G1 ρ1 M1 H1 i sg pp fz c1 => ?_⟩
  have hs1 := hs H1 (sg.trans c1.gh)
  refine ⟨fun d hd => ?_, fun hi => ⟨vs, hs1, by rw [rs.len]; rw [enumD_len] at hi; exact hi⟩⟩
  obtain ⟨e, he, rfl⟩ := enumD_get 0 ds i d hd
  obtain ⟨x, hx, rx⟩ := rs.get he
  refine ⟨⟨vs, x, hs1, hx⟩, ?_⟩
  rintro y H2 ⟨T, x2, rfl, hT, rfl, hy⟩
  have e3 := hy vs hs1
  rw [hx] at e3
  cases e3
  rw [Nat.zero_add]
  exact pair_ok c1 hT (.int _) (Rep.mono sg pp rx)
theorem itet_ok {q : Addr} {vs : List V} {ds : List Mp.D} (rs : Reps Γ G ρ vs ds) (hz : vs.length ≤ sizeLine) (hs : ∀ H1, Sub G H1 → SqT X.K H1 q vs) : ItOk Γ G ρ H (IteT X.K q) (enumD 0 ds) := by
  refine ⟨by rw [enumD_len, ← rs.len]; exact hz, fun G1 ρ1 M1 H1 i sg pp fz c1 => ?_⟩
  have hs1 := hs H1 (sg.trans c1.gh)
  refine ⟨fun d hd => ?_, fun hi => ⟨vs, hs1, by rw [rs.len]; rw [enumD_len] at hi; exact hi⟩⟩
  obtain ⟨e, he, rfl⟩ := enumD_get 0 ds i d hd
  obtain ⟨x, hx, rx⟩ := rs.get he
  refine ⟨⟨vs, x, hs1, hx⟩, ?_⟩
  rintro y H2 ⟨T, x2, rfl, hT, rfl, hy⟩
  have e3 := hy vs hs1
  rw [hx] at e3
  cases e3
  rw [Nat.zero_add]
  exact pair_ok c1 hT (.int _) (Rep.mono sg pp rx)
theorem itz_ok {q q2 : Addr} {vs ws : List V} {ds es : List Mp.D} (rs : Reps Γ G ρ vs ds) (rt : Reps Γ G ρ ws es) (hz : ws.length ≤ sizeLine) (hs : ∀ H1, Sub G H1 → SqL X.K H1 q vs) (ht : ∀ H1, Sub G H1 → SqL X.K H1 q2 ws) : ItOk Γ G ρ H (Itz X.K q q2) (zipD ds es) := by
  refine ⟨by rw [zipD_len, ← rt.len]; omega, fun G1 ρ1 M1 H1 i sg pp fz c1 => ?_⟩
  have hs1 := hs H1 (sg.trans c1.gh)
  have ht1 := ht H1 (sg.trans c1.gh)
  refine ⟨fun d hd => ?_, fun hi => ⟨vs, ws, hs1, ht1, by rw [rs.len, rt.len]; rw [zipD_len] at hi; omega⟩⟩
  obtain ⟨u, v, hu, hv, rfl⟩ := zipD_get ds es i d hd
  obtain ⟨x, hx, rx⟩ := rs.get hu
  obtain ⟨y, hy, ry⟩ := rt.get hv
  refine ⟨⟨vs, ws, x, y, hs1, ht1, hx, hy⟩, ?_⟩
  rintro y0 H2 ⟨T, x2, y2, rfl, hT, rfl, hx2, hy2⟩
  have e3 := hx2 vs hs1
  have e4 := hy2 ws ht1
  rw [hx] at e3
  rw [hy] at e4
  cases e3
  cases e4
  exact pair_ok c1 hT (Rep.mono sg pp rx) (Rep.mono sg pp ry)
theorem itzt_ok {q q2 : Addr} {vs ws : List V} {ds es : List Mp.D} (rs : Reps Γ G ρ vs ds) (rt : Reps Γ G ρ ws es) (hz : ws.length ≤ sizeLine) (hs : ∀ H1, Sub G H1 → SqT X.K H1 q vs) (ht : ∀ H1, Sub G H1 → SqT X.K H1 q2 ws) : ItOk Γ G ρ H (RZ.ItzT X.K q q2) (zipD ds es) := by
  refine ⟨by rw [zipD_len, ← rt.len]; omega, fun G1 ρ1 M1 H1 i sg pp fz c1 => ?_⟩
  have hs1 := hs H1 (sg.trans c1.gh)
  have ht1 := ht H1 (sg.trans c1.gh)
  refine ⟨fun d hd => ?_, fun hi => ⟨vs, ws, hs1, ht1, by rw [rs.len, rt.len]; rw [zipD_len] at hi; omega⟩⟩
  obtain ⟨u, v, hu, hv, rfl⟩ := zipD_get ds es i d hd
  obtain ⟨x, hx, rx⟩ := rs.get hu
  obtain ⟨y, hy, ry⟩ := rt.get hv
  refine ⟨⟨vs, ws, x, y, hs1, ht1, hx, hy⟩, ?_⟩
  rintro y0 H2 ⟨T, x2, y2, rfl, hT, rfl, hx2, hy2⟩
  have e3 := hx2 vs hs1
  have e4 := hy2 ws ht1
  rw [hx] at e3
  rw [hy] at e4
  cases e3
  cases e4
  exact pair_ok c1 hT (Rep.mono sg pp rx) (Rep.mono sg pp ry)
theorem iti_ok {d : Addr} {od : Obj} {us : List (Key × V)} {kvs : List (Key × Mp.D)} (hk : us.map (·.1) = kvs.map (·.1)) (rr : Reps Γ G ρ (us.map (·.2)) (kvs.map (·.2))) (hz : us.length ≤ sizeLine) (e : H d = some (.frz od (.dK us))) :
    ItOk Γ G ρ H (Iti d od us) (kvs.map fun p => .tup [keyB p.1, p.2]) := by
  have hl : us.length = kvs.length := by simpa using congrArg List.length hk
  refine ⟨by rw [List.length_map, ← hl]; exact hz, fun G1 ρ1 M1 H1 i sg pp fz c1 => ⟨fun dd hd => ?_, fun hi => ⟨fz d _ trivial e, by rw [List.length_map] at hi; omega⟩⟩⟩
  have hi : i < us.length := by
    have := (List.getElem?_eq_some_iff.mp hd).1
    rw [List.length_map] at this; omega
  refine ⟨⟨fz d _ trivial e, hi⟩, ?_⟩
  rintro y H2 ⟨T, k, v, h1, rfl, hT, rfl⟩
  rw [List.getElem?_map, Option.map_eq_some_iff] at hd
  obtain ⟨p, h2, rfl⟩ := hd
  have ek : k = p.1 := map_get hk h1 h2
  subst ek
  obtain ⟨v', hv, rv⟩ := rr.get (i := i) (y := p.2) (by rw [List.getElem?_map, h2]; rfl)
  rw [List.getElem?_map, h1] at hv
  cases hv
  exact pair_ok c1 hT (keyB_rep _) (Rep.mono sg pp rv)
theorem itit_ok {d : Addr} {od : Obj} {us : List (List Key × V)} {kvs : List (List Key × Mp.D)} (hk : us.map (·.1) = kvs.map (·.1)) (rr : Reps Γ G ρ (us.map (·.2)) (kvs.map (·.2))) (hz : us.length ≤ sizeLine) (e : H d = some (.frz od (.dT us))) :
    ItOk Γ G ρ H (ItiT d od us) (kvs.map fun p => .tup [.tup (p.1.map keyB), p.2]) := by
  have hl : us.length = kvs.length := by simpa using congrArg List.length hk
  refine ⟨by rw [List.length_map, ← hl]; exact hz, fun G1 ρ1 M1 H1 i sg pp fz c1 => ⟨fun dd hd => ?_, fun hi => ⟨fz d _ trivial e, by rw [List.length_map] at hi; omega⟩⟩⟩
  have hi : i < us.length := by
    have := (List.getElem?_eq_some_iff.mp hd).1
    rw [List.length_map] at this; omega
  refine ⟨⟨fz d _ trivial e, hi⟩, ?_⟩
  rintro y H2 ⟨T, k, v, q, h1, rfl, hT, hq, rfl⟩
  rw [List.getElem?_map, Option.map_eq_some_iff] at hd
  obtain ⟨p, h2, rfl⟩ := hd
  have ek : k = p.1 := map_get hk h1 h2
  subst ek
  obtain ⟨v', hv, rv⟩ := rr.get (i := i) (y := p.2) (by rw [List.getElem?_map, h2]; rfl)
  rw [List.getElem?_map, h1] at hv
  cases hv
  obtain ⟨G', st, c', hg⟩ := Core.tups c1 [q] (fun b m => by rw [List.mem_singleton.mp m]; exact ⟨_, hq⟩)
  have rq : Rep Γ G' ρ1 (.ref q) (.tup (p.1.map keyB)) := .tup (.inl ((hg q (List.mem_singleton.mpr rfl)).trans hq)) (keysB_reps _)
  obtain ⟨G2, st2, c2, r2⟩ := pair_ok c' hT rq (Rep.mono (sg.trans st.gg) (pp.trans st.pp) rv)
  exact ⟨G2, st.trans c' st2, c2, r2⟩
theorem s_enum (TB : Tab Γ S C CX k) (h : XOk Γ S CX k c X E) {p' : Pos} (htg : isTup tg = true) (h3 : S.bn.contains "enumerate" = true) (h4 : glB c.sc "enumerate" = true) (hs : noStar x = true) (ha : PE X x (tE Γ E C a)) : PI X tg (.Call (.Name "enumerate" p') [x] [] p) (tI Γ E C (.enum a)) := by
  cases tg with
  | Tuple elts kk tpos =>
    have hg : Gl X "enumerate" := by show X.env.scope.names.lookup _ = _; rw [h.sc]; exact gl_ok h4
    have hm : X.mg "enumerate" = none := by rw [h.mg]; exact TB.blt _ (by simpa using h3)
    refine PI.imp (pi_enumA hg hm (pa_cons (PE.short ha) pa_nil (star_of hs)) (star_of hs)) ?_
    rintro σ H R q
    refine tG.mono (tG.bind (R1 := RepS Γ) (k := fun _ (x : D) M => (match x with | .tup ds => Res.ok (enumD 0 ds) M | .lst ds => .ok (enumD 0 ds) M | _ => .stk)) q) ?_
    rintro v H1 ⟨H0, G, ρ, M, env, d1, rel, r1, q2⟩ hsh
    cases r1 with
    | @tup ad vs ds hx rs =>
      have hx' : SqT X.K H1 ad vs := h.K ▸ SqT.sub rel.gh hx.sq
      exact ⟨ad, vs, rfl, .inr ⟨hx', Post.now rel.toCore q2 (itet_ok rs (hsh ad vs rfl (.inr hx')) fun H2 s2 => h.K ▸ SqT.sub s2 hx.sq)⟩⟩
    | @lst ad vs ds hx rs =>
      have hx' : SqL X.K H1 ad vs := h.K ▸ rel.gh.seq hx
      exact ⟨ad, vs, rfl, .inl ⟨hx', Post.now rel.toCore q2 (ite_ok rs (hsh ad vs rfl (.inl hx')) fun H2 s2 => h.K ▸ s2.seq hx)⟩⟩
    | _ => exact q2.elim
  | _ => cases htg
theorem s_zip (TB : Tab Γ S C CX k) (h : XOk Γ S CX k c X E) {p' : Pos} (htg : isTup tg = true) (h3 : S.bn.contains "zip" = true) (h4 : glB c.sc "zip" = true) (hs : noStar x = true) (hs2 : noStar y = true) (ha : PE X x (tE Γ E C a)) (hb : PE X y (tE Γ E C b)) :
    PI X tg (.Call (.Name "zip" p') [x, y] [] p) (tI Γ E C (.zip a b)) := by
  cases tg with
  | Tuple elts kk tpos =>
    have hg : Gl X "zip" := by show X.env.scope.names.lookup _ = _; rw [h.sc]; exact gl_ok h4
    have hm : X.mg "zip" = none := by rw [h.mg]; exact TB.blt _ (by simpa using h3)
    refine PI.imp (RZ.pi_zipA hg hm (pa_cons ha (pa_cons (PE.short hb) pa_nil (star_of hs2)) (star_of hs)) (star_of hs) (by rw [star_of hs2]; rfl)) ?_
    rintro σ H R q
    refine tG.mono (tG.bind2 (R1 := RepS Γ) (R2 := RepS Γ) (k := fun _ x y M => (match x, y with | .tup ds, .tup es => Res.ok (zipD ds es) M | .lst ds, .lst es => .ok (zipD ds es) M | _, _ => .stk)) persS q) fun v H1 q1 => tG.mono q1 ?_
    rintro u H2 ⟨H0, G, ρ, M, env, d1, d2, rel, r1, r2, q2⟩ hsh
    cases r1 with
    | @tup ad vs ds hx rs =>
      cases r2 with
      | @tup ad2 ws es hy rt =>
        have hx' : SqT X.K H2 ad vs := h.K ▸ SqT.sub rel.gh hx.sq
        have hy' : SqT X.K H2 ad2 ws := h.K ▸ SqT.sub rel.gh hy.sq
        exact ⟨ad, ad2, vs, ws, rfl, .inr ⟨hx', hy', Post.now rel.toCore q2 (itzt_ok rs rt (hsh ad2 ws rfl (.inr hy')) (fun H2 s2 => h.K ▸ SqT.sub s2 hx.sq) fun H2 s2 => h.K ▸ SqT.sub s2 hy.sq)⟩⟩
      | _ => exact q2.elim
    | @lst ad vs ds hx rs =>
      cases r2 with
      | @lst ad2 ws es hy rt =>
        have hx' : SqL X.K H2 ad vs := h.K ▸ rel.gh.seq hx
        have hy' : SqL X.K H2 ad2 ws := h.K ▸ rel.gh.seq hy
        exact ⟨ad, ad2, vs, ws, rfl, .inl ⟨hx', hy', Post.now rel.toCore q2 (itz_ok rs rt (hsh ad2 ws rfl (.inl hy')) (fun H2 s2 => h.K ▸ s2.seq hx) fun H2 s2 => h.K ▸ s2.seq hy)⟩⟩
      | _ => exact q2.elim
    | _ => exact q2.elim
  | _ => cases htg
theorem s_items (h : XOk Γ S CX k c X E) {apos : Pos} (htg : isTup tg = true) (h1 : (apos.endLine == p.line) = true) (h4 : baseOk x = true) (ha : PE X x (tE Γ E C a)) : PI X tg (.Call (.Attribute x "items" apos) [] [] p) (tI Γ E C (.items a)) := by
  cases tg with
  | Tuple elts kk tpos =>
    refine PI.imp (PI.or (pi_itemsA (PE.lk ha) (base_of h4) h1) (pi_itemsA (PE.dshort ha) (base_of h4) h1)) ?_
    rintro σ H R ⟨H0, G, ρ, M, env, rel, q⟩
    have q' : Post (XPf Γ E) (ItOk Γ) Γ G ρ H ((evE C a env M).bind fun x M => (match x with | .obj a => (match lockM M a with | some (o, M') => (match itemsO o with | some ds => .ok ds M' | none => .stk) | none => .stk) | _ => .stk)) R := q
    cases e : evE C a env M with
    | exc y M' =>
      refine .inl ⟨H0, G, ρ, M, env, rel, ?_⟩
      rw [e] at q'
      show Post _ _ _ _ _ _ (evE C a env M) _
      rw [e]
      exact q'
    | stk => rw [e] at q'; exact q'.elim
    | ok dd M' =>
      rw [e, Res.bind_ok] at q'
      cases dd with
      | obj n =>
        simp only at q'
        cases el : lockM M' n with
        | none => rw [el] at q'; exact q'.elim
        | some oM =>
          obtain ⟨o, M2⟩ := oM
          rw [el] at q'
          simp only at q'
          cases ew : itemsO o with
          | none => rw [ew] at q'; exact q'.elim
          | some ds =>
            rw [ew] at q'
            simp only at q'
            by_cases hlk : M'[n]? = some (.lk o)
            · have eM : M2 = M' := by
                unfold lockM at el
                rw [hlk] at el
                cases el; rfl
              subst eM
              refine .inr ⟨H0, G, ρ, M, env, rel, ?_⟩
              show Post _ _ _ _ _ _ (evE C a env M) _
              rw [e]
              intro G' ρ' H' v st c2 hr hsh
              cases hr with
              | @obj _ ad ea =>
                cases o with
                | dk kvs =>
                  cases ew
                  obtain ⟨od, us, e1, e2, rr⟩ := c2.st n _ ad hlk ea
                  exact ⟨ad, od, rfl, .inl ⟨us, e1, q' G' ρ' H' _ st c2 (iti_ok e2 rr (hsh ad (.dK us) rfl (.inr ⟨od, e1⟩)) e1)⟩⟩
                | dt kvs =>
                  cases ew
                  obtain ⟨od, us, e1, e2, rr⟩ := c2.st n _ ad hlk ea
                  exact ⟨ad, od, rfl, .inr ⟨us, e1, q' G' ρ' H' _ st c2 (itit_ok e2 rr (hsh ad (.dT us) rfl (.inr ⟨od, e1⟩)) e1)⟩⟩
                | ls _ => cases ew
                | lk _ => cases ew
            · refine .inl ⟨H0, G, ρ, M, env, rel, ?_⟩
              show Post _ _ _ _ _ _ (evE C a env M) _
              rw [e]
              intro G' ρ' H' v st c2 hr
              cases hr with
              | @obj _ ad ea =>
                rcases lock_of c2 ea el with ⟨_, z⟩ | ⟨rfl, hn, em, u, hu, mu, nf, nt, hl⟩
                · exact absurd z hlk
                · cases o with
                  | dk kvs =>
                    cases ew
                    obtain ⟨us, e1, e2, rr⟩ := c2.st n _ ad em ea
                    rw [hu] at e1; cases e1
                    refine ⟨ad, _, rfl, hu, mu, fun od hsh => ⟨ad, od, rfl, .inl ⟨us, upd_same, ?_⟩⟩⟩
                    have a2 : Adv G' ρ' H' G' ρ' (upd H' ad (.frz od (.dK us))) := Adv.put (List.mem_of_getElem? ea) hu nf
                    exact q' G' ρ' _ _ (st.trans c2 a2) (c2.put ea (hl od)) (iti_ok e2 rr hsh upd_same)
                  | dt kvs =>
                    cases ew
                    obtain ⟨us, e1, e2, rr⟩ := c2.st n _ ad em ea
                    rw [hu] at e1; cases e1
                    refine ⟨ad, _, rfl, hu, mu, fun od hsh => ⟨ad, od, rfl, .inr ⟨us, upd_same, ?_⟩⟩⟩
                    have a2 : Adv G' ρ' H' G' ρ' (upd H' ad (.frz od (.dT us))) := Adv.put (List.mem_of_getElem? ea) hu nf
                    exact q' G' ρ' _ _ (st.trans c2 a2) (c2.put ea (hl od)) (itit_ok e2 rr hsh upd_same)
                  | ls _ => cases ew
                  | lk _ => cases ew
      | _ => exact q'.elim
  | _ => cases htg

/-! ### list(range(..)), tuple(range(..)) -/
theorem rg_repsN : ∀ (n : Nat) (lo : Int), Reps Γ G ρ ((List.range n).map fun i => V.int (lo + (i : Nat))) (iota lo n)
  | 0, _ => .nil
  | n + 1, lo => by
    rw [List.range_succ_eq_map, List.map_cons, List.map_map]
    have e : ((fun i : Nat => V.int (lo + (i : Nat))) ∘ Nat.succ) = fun i : Nat => V.int (lo + 1 + (i : Nat)) := by
      funext i
      simp only [Function.comp]
      congr 1
      push_cast
      omega
    rw [e]
    have h0 : V.int (lo + ((0 : Nat) : Int)) = V.int lo := by simp
    rw [h0]
    exact .cons (.int _) (rg_repsN n (lo + 1))
theorem rg_reps (i j : Int) : Reps Γ G ρ (rgV i j) (iota i (j - i).toNat) := rg_repsN _ _
theorem line_24 {n : Nat} (h : n ≤ line) : n ≤ 2 ^ 24 := by unfold line at h; omega
theorem rg_end {t : Bool} {i j : Int} {Q : VK} (rel : Rel Γ H0 G ρ M σ env H) (hi : rngOk i = true) (hj : rngOk j = true) (hn : (j - i).toNat ≤ line)
    (q : Post (XPf Γ E) (RepS Γ) Γ G ρ H (.ok (if t = true then D.tup (iota i (j - i).toNat) else .lst (iota i (j - i).toNat)) M) Q) :
    RgOk i j ∧ ∀ q, H q = none → Q (.ref q) (upd H q (if t = true then .tup (rgV i j) else .lst (rgV i j))) := by
  refine ⟨⟨(rng_ok hi).1, (rng_ok hi).2, (rng_ok hj).1, (rng_ok hj).2, line_24 hn⟩, fun n hp => ?_⟩
  cases t with
  | true =>
    simp only [if_true] at q ⊢
    have sg := sub_upd (o := HO.tup (rgV i j)) (rel.toCore.fresh hp).2
    exact Post.new (a := D.tup _) rel.toCore q hp (.tup (.inl upd_same) (rg_reps _ _))
  | false =>
    simp only [Bool.false_eq_true, if_false] at q ⊢
    have sg := sub_upd (o := HO.lst (rgV i j)) (rel.toCore.fresh hp).2
    exact Post.new (a := D.lst _) rel.toCore q hp (.lst (.of upd_same) (rg_reps _ _))
theorem s_lrng1 (TB : Tab Γ S C CX k) (h : XOk Γ S CX k c X E) {t : Bool} {n : Str} {p1 p2 p3 : Pos} (hn : n = if t = true then "tuple" else "list") (n1 : S.bn.contains n = true) (n2 : glB c.sc n = true) (h3 : S.bn.contains "range" = true) (h4 : glB c.sc "range" = true) (hs : noStar x = true) (ha : PE X x (tE Γ E C a)) :
    PE X (.Call (.Name n p1) [.Call (.Name "range" p2) [x] [] p3] [] p) (tE Γ E C (.lrng t (.rng1 a))) := by
  have hg : Gl X "range" := by show X.env.scope.names.lookup _ = _; rw [h.sc]; exact gl_ok h4
  have hm : X.mg "range" = none := by rw [h.mg]; exact TB.blt _ (by simpa using h3)
  have hg1 : Gl X n := by show X.env.scope.names.lookup _ = _; rw [h.sc]; exact gl_ok n2
  have hm1 : X.mg n = none := by rw [h.mg]; exact TB.blt _ (by simpa using n1)
  have rd : ∀ {σ H Q}, tE Γ E C (.lrng t (.rng1 a)) σ H Q → tE Γ E C a σ H fun x H1 => ∃ n, x = .int n ∧ RgOk 0 n ∧ ∀ q, H1 q = none → Q (.ref q) (upd H1 q (if t = true then .tup (rgV 0 n) else .lst (rgV 0 n))) := by
    intro σ H Q q
    have e : (fun env M => evE C (.lrng t (.rng1 a)) env M) = fun env M => (evE C a env M).bind fun x M => ((match x with | .int n => if rngOk n && decide (n.toNat ≤ line) then Res.ok (iota 0 n.toNat) M else .stk | _ => .stk) : Res (List D)).bind fun ds M => .ok (if t = true then .tup ds else .lst ds) M := by
      funext env M
      simp only [evE, evI]
      cases evE C a env M <;> rfl
    have q' : tG (XPf Γ E) (RepS Γ) Γ (fun env M => evE C (.lrng t (.rng1 a)) env M) σ H Q := q
    rw [e] at q'
    refine tG.mono (tG.bind (R1 := RepS Γ) q') ?_
    rintro v H1 ⟨H0, G, ρ, M, env, d1, rel, r1, q2⟩
    cases r1 with
    | int n =>
      simp only at q2
      split at q2
      · rename_i hn
        simp only [Bool.and_eq_true, decide_eq_true_eq] at hn
        have e0 : (n - 0).toNat = n.toNat := by rw [Int.sub_zero]
        rw [Res.bind_ok, ← e0] at q2
        exact ⟨n, rfl, rg_end rel (by decide) hn.1 (by rw [e0]; exact hn.2) q2⟩
      · exact q2.elim
    | _ => exact q2.elim
  cases t with
  | true =>
    obtain rfl : n = "tuple" := hn
    exact PE.imp (pe_tupRg h.calm hg1 hm1 (prg_1 hg hm ha (star_of hs))) fun σ H Q q => rd q
  | false =>
    obtain rfl : n = "list" := hn
    exact PE.imp (pe_listRg h.calm hg1 hm1 (prg_1 hg hm ha (star_of hs))) fun σ H Q q => rd q
theorem s_lrng2 (TB : Tab Γ S C CX k) (h : XOk Γ S CX k c X E) {t : Bool} {n : Str} {p1 p2 p3 : Pos} (hn : n = if t = true then "tuple" else "list") (n1 : S.bn.contains n = true) (n2 : glB c.sc n = true) (h3 : S.bn.contains "range" = true) (h4 : glB c.sc "range" = true) (hs : noStar x = true) (hs2 : noStar y = true)
    (ha : PE X x (tE Γ E C a)) (hb : PE X y (tE Γ E C b)) : PE X (.Call (.Name n p1) [.Call (.Name "range" p2) [x, y] [] p3] [] p) (tE Γ E C (.lrng t (.rng2 a b))) := by
  have hg : Gl X "range" := by show X.env.scope.names.lookup _ = _; rw [h.sc]; exact gl_ok h4
  have hm : X.mg "range" = none := by rw [h.mg]; exact TB.blt _ (by simpa using h3)
  have hg1 : Gl X n := by show X.env.scope.names.lookup _ = _; rw [h.sc]; exact gl_ok n2
  have hm1 : X.mg n = none := by rw [h.mg]; exact TB.blt _ (by simpa using n1)
  have rd : ∀ {σ H Q}, tE Γ E C (.lrng t (.rng2 a b)) σ H Q → tE Γ E C a σ H fun x H1 => tE Γ E C b σ H1 fun y H2 => ∃ i j, x = .int i ∧ y = .int j ∧ RgOk i j ∧ ∀ q, H2 q = none → Q (.ref q) (upd H2 q (if t = true then .tup (rgV i j) else .lst (rgV i j))) := by
    intro σ H Q q
    have e : (fun env M => evE C (.lrng t (.rng2 a b)) env M) = fun env M => (evE C a env M).bind fun x M => (evE C b env M).bind fun y M => ((match x, y with | .int i, .int j => if rngOk i && rngOk j && decide ((j - i).toNat ≤ line) then Res.ok (iota i (j - i).toNat) M else .stk | _, _ => .stk) : Res (List D)).bind fun ds M => .ok (if t = true then .tup ds else .lst ds) M := by
      funext env M
      simp only [evE, evI]
      cases evE C a env M with
      | ok x M1 =>
        simp only [Res.bind_ok]
        cases evE C b env M1 <;> rfl
      | _ => rfl
    have q' : tG (XPf Γ E) (RepS Γ) Γ (fun env M => evE C (.lrng t (.rng2 a b)) env M) σ H Q := q
    rw [e] at q'
    refine tG.mono (tG.bind2 (R1 := RepS Γ) (R2 := RepS Γ) persS q') fun v H1 q1 => tG.mono q1 ?_
    rintro u H2 ⟨H0, G, ρ, M, env, d1, d2, rel, r1, r2, q2⟩
    cases r1 with
    | int i =>
      cases r2 with
      | int j =>
        simp only at q2
        split at q2
        · rename_i hn
          simp only [Bool.and_eq_true, decide_eq_true_eq] at hn
          rw [Res.bind_ok] at q2
          exact ⟨i, j, rfl, rfl, rg_end rel hn.1.1 hn.1.2 hn.2 q2⟩
        · exact q2.elim
      | _ => exact q2.elim
    | _ => exact q2.elim
  cases t with
  | true =>
    obtain rfl : n = "tuple" := hn
    exact PE.imp (pe_tupRg h.calm hg1 hm1 (prg_2 hg hm ha hb (star_of hs) (star_of hs2) (by rw [star_of hs2]; rfl))) fun σ H Q q => rd q
  | false =>
    obtain rfl : n = "list" := hn
    exact PE.imp (pe_listRg h.calm hg1 hm1 (prg_2 hg hm ha hb (star_of hs) (star_of hs2) (by rw [star_of hs2]; rfl))) fun σ H Q q => rd q

/-! ### dict comprehensions -/
theorem dc_read (nm : NoMix Γ.K) {tk : Bool} {g : Mp.G} {own : List (Str × Nat)} {it : Mp.It} {t : Ts} {Q : VK} (sub : (slots g).all (fun i => (own.map (·.2)).contains i) = true) (q : tE Γ E C (.dcomp tk g own it t a b) σ H Q) :
    tDcG tk (tI Γ E C it) (tGt Γ g) (tTs Γ E0 C t) (tE Γ E0 C a) (tE Γ E0 C b) (own.map (·.2)) σ H Q := by
  cases tk with
  | true =>
    refine dc_read0 (dkd_t nm) (fun _ _ _ => rfl) sub ?_
    obtain ⟨H0, G, ρ, M, env, rel, q⟩ := q
    refine ⟨H0, G, ρ, M, env, rel, ?_⟩
    simp only [evE, if_true] at q
    exact q
  | false =>
    refine dc_read0 dkd_k (fun _ _ _ => rfl) sub ?_
    obtain ⟨H0, G, ρ, M, env, rel, q⟩ := q
    refine ⟨H0, G, ρ, M, env, rel, ?_⟩
    simp only [evE, Bool.false_eq_true, if_false] at q
    exact q
theorem s_dcomp (TB : Tab Γ S C CX k) (h : XOk Γ S CX k c X E) {tk : Bool} {g : Mp.G} {own : List (Str × Nat)} {it : Mp.It} {t : Ts} {kx vx iter : Expr} {ifs : List Expr} {scope : Scope} (ok : blkC S.N c.sc scope own = true)
    (sub : (slots g).all (fun i => (own.map (·.2)).contains i) = true) (hset : noSet iter = true) (hit : PI X tg iter (tI Γ E C it))
    (hg : ∀ X', XOk Γ S CX k ⟨scope, relS scope c.sc⟩ X' E0 → PG X' tg (tGt Γ g)) (ht : ∀ X', XOk Γ S CX k ⟨scope, relS scope c.sc⟩ X' E0 → PTs X' ifs (tTs Γ E0 C t))
    (hk : ∀ X', XOk Γ S CX k ⟨scope, relS scope c.sc⟩ X' E0 → PE X' kx (tE Γ E0 C a)) (he : ∀ X', XOk Γ S CX k ⟨scope, relS scope c.sc⟩ X' E0 → PE X' vx (tE Γ E0 C b)) : PE X (.DictComp kx vx [⟨tg, iter, ifs, 0⟩] scope p) (tE Γ E C (.dcomp tk g own it t a b)) := by
  have bo : BlkOk X.N X.env.scope scope own := by rw [h.N, h.sc]; exact blkOk_by ok
  exact PE.imp (pe_dcG (Nat.lt_of_le_of_lt (Nat.le_add_right _ _) h.room.units) h.calm (by rw [h.N]; exact TB.nd) hit bo (fun s H Cc cl fp => hg _ (blk_ok TB h s H Cc cl fp bo.uniq)) (fun s H Cc cl fp => ht _ (blk_ok TB h s H Cc cl fp bo.uniq)) (fun s H Cc cl fp => hk _ (blk_ok TB h s H Cc cl fp bo.uniq)) (fun s H Cc cl fp => he _ (blk_ok TB h s H Cc cl fp bo.uniq)) (set_plain hset)) fun σ H Q q => dc_read h.nm sub q
/-- x = {..}, x a local -/
theorem s_dcompSet (TB : Tab Γ S C CX k) (h : XOk Γ S CX k c X E) {tk : Bool} {g : Mp.G} {own : List (Str × Nat)} {it : Mp.It} {t : Ts} {kx vx iter : Expr} {ifs : List Expr} {scope : Scope} {i : Nat} {n : Str} {py spos : Pos} (hn : at? S.N i n = true) (hl : c.sc.names.lookup n = some .local) (hf : c.sc.kind = .function)
    (h1 : (py.line == p.line) = true) (h2 : (scope.names.any fun (m, k) => m == n && (k == .local || k == .cell)) = false) (ok : blkC S.N c.sc scope own = true)
    (sub : (slots g).all (fun i => (own.map (·.2)).contains i) = true) (hset : noSet iter = true) (hit : PI X tg iter (tI Γ E C it))
    (hg : ∀ X', XOk Γ S CX k ⟨scope, relS scope c.sc⟩ X' E0 → PG X' tg (tGt Γ g)) (ht : ∀ X', XOk Γ S CX k ⟨scope, relS scope c.sc⟩ X' E0 → PTs X' ifs (tTs Γ E0 C t))
    (hk : ∀ X', XOk Γ S CX k ⟨scope, relS scope c.sc⟩ X' E0 → PE X' kx (tE Γ E0 C a)) (he : ∀ X', XOk Γ S CX k ⟨scope, relS scope c.sc⟩ X' E0 → PE X' vx (tE Γ E0 C b)) : PS X (.Assign [.Name n py] (.DictComp kx vx [⟨tg, iter, ifs, 0⟩] scope p) spos) (tAsg (tE Γ E C (.dcomp tk g own it t a b)) (gName i)) := by
  have bo : BlkOk X.N X.env.scope scope own := by rw [h.N, h.sc]; exact blkOk_by ok
  obtain ⟨e1, e2⟩ := at_ok hn
  exact PS.imp (ps_setDcG (i := i) (Nat.lt_of_le_of_lt (Nat.le_add_right _ _) h.room.units) h.calm (by rw [h.N]; exact TB.nd) (by rw [h.N]; exact e1) (by rw [h.sc]; exact hl) (swd_true (by rw [h.sc]; exact hf) (by rw [h.sc]; exact hl) h1 h2) hit bo (fun s H Cc cl fp => hg _ (blk_ok TB h s H Cc cl fp bo.uniq)) (fun s H Cc cl fp => ht _ (blk_ok TB h s H Cc cl fp bo.uniq)) (fun s H Cc cl fp => hk _ (blk_ok TB h s H Cc cl fp bo.uniq)) (fun s H Cc cl fp => he _ (blk_ok TB h s H Cc cl fp bo.uniq)) (set_plain hset)) fun D σ H q => dc_read h.nm sub q
end
end Mp
end

section
set_option Elab.async false
set_option linter.all false
set_option maxRecDepth 100000
/-! Dict displays; all expressions. -/
namespace Mp
open PySem PySem.Spec L2
section
variable {Γ : Cfg} {S : Sta} {C : Cal} {CX : CXT} {k : Nat} {c : SC} {X : Cx} {E : XK} {x y z tg : Expr} {p : Pos} {a b d : Mp.E}
  {H0 G G' : Hp} {ρ ρ' : List Addr} {M M' : Sto} {σ σ' : L2.St} {env env' : Env} {H H' : Hp}

theorem putK_new {k : Key} {v : V} : ∀ {us : List (Key × V)}, k ∉ us.map (·.1) → putK us k v = us ++ [(k, v)] := by
  intro us h
  unfold putK
  rw [if_neg]
  intro e
  rw [List.any_eq_true] at e
  obtain ⟨q, hq, e⟩ := e
  exact h (List.mem_map.mpr ⟨q, hq, of_decide_eq_true e⟩)
theorem merge_nodup : ∀ (more acc : List (Key × V)), (more.map (·.1)).Nodup → (∀ q ∈ more, q.1 ∉ acc.map (·.1)) → mergeK acc more = acc ++ more
  | [], acc, _, _ => by simp [mergeK]
  | q :: more, acc, nd, h => by
    simp only [List.map_cons, List.nodup_cons] at nd
    have e : mergeK acc (q :: more) = mergeK (acc ++ [q]) more := by
      show more.foldl _ (putK acc q.1 q.2) = more.foldl _ (acc ++ [q])
      rw [putK_new (h q (by simp))]
    rw [e, merge_nodup more (acc ++ [q]) nd.2 fun r hr hm => ?_]
    · simp
    · rw [List.map_append, List.mem_append] at hm
      rcases hm with hm | hm
      · exact h r (by simp [hr]) hm
      · simp only [List.map_cons, List.map_nil, List.mem_singleton] at hm
        exact nd.1 (hm ▸ List.mem_map.mpr ⟨r, hr, rfl⟩)
/-- the pairs of a display -/
def trsOf (Γ : Cfg) (E : XK) (C : Cal) : List Str → Es → List (TE × TE)
  | n :: ns, .cons e r => (tC (.str n), tE Γ E C e) :: trsOf Γ E C ns r
  | _, _ => []
theorem tPairs_of : ∀ {ns : List Str} {es : Es} {σ : L2.St} {H : Hp} {Q : List (V × V) → Hp → Prop}, ns.length = esLen es → tEs Γ E C es σ H (fun vs H1 => Q ((ns.map V.str).zip vs) H1) → tPairs (trsOf Γ E C ns es) σ H Q
  | [], .nil, σ, H, Q, _, h => by
    obtain ⟨H0, G, ρ, M, env, rel, q⟩ := h
    exact Post.now (b := ([] : List V)) rel.toCore q Reps.nil
  | n :: ns, .cons e r, σ, H, Q, hl, h => by
    refine tG.mono (tG.bind2 (R1 := RepS Γ) (R2 := RepLS Γ) (k := fun _ x xs M => Res.ok (x :: xs) M) persS h) fun v H1 q1 => ?_
    refine tPairs_of (by simpa [esLen] using hl) (tG.mono q1 ?_)
    rintro u H2 ⟨H0, G, ρ, M, env, d1, d2, rel, r1, r2, q2⟩
    exact Post.now (b := v :: u) rel.toCore q2 (.cons r1 r2)
  | [], .cons _ _, _, _, _, hl, _ => by simp [esLen] at hl
  | _ :: _, .nil, _, _, _, hl, _ => by simp [esLen] at hl
theorem zip_kv : ∀ (ns : List Str) (vs : List V), (ns.map V.str).zip vs = ((ns.map fun n => (Sum.inr n : Key)).zip vs).map (fun kv => (kV kv.1, kv.2))
  | [], _ => rfl
  | _ :: _, [] => rfl
  | n :: ns, v :: vs => by simp [zip_kv ns vs, kV]
theorem zip_fst {α β : Type} : ∀ {as : List α} {bs : List β}, as.length = bs.length → (as.zip bs).map (·.1) = as
  | [], [], _ => rfl
  | [], _ :: _, h => by simp at h
  | _ :: _, [], h => by simp at h
  | a :: as, b :: bs, h => by simp [zip_fst (as := as) (bs := bs) (by simpa using h)]
theorem zip_snd {α β : Type} : ∀ {as : List α} {bs : List β}, as.length = bs.length → (as.zip bs).map (·.2) = bs
  | [], [], _ => rfl
  | [], _ :: _, h => by simp at h
  | _ :: _, [], h => by simp at h
  | a :: as, b :: bs, h => by simp [zip_snd (as := as) (bs := bs) (by simpa using h)]
theorem chkStrs_some : ∀ {ns : List Str} {keys : List (Option Expr)}, chkStrs ns keys = true → keys.all (·.isSome) = true ∧ keys.length = ns.length
  | [], [], _ => ⟨rfl, rfl⟩
  | [], _ :: _, h => by simp [chkStrs] at h
  | _ :: _, [], h => by simp [chkStrs] at h
  | n :: ns, none :: r, h => by simp [chkStrs] at h
  | n :: ns, some e :: r, h => by
    cases e with
    | Constant cc j q =>
      cases cc with
      | str s =>
        simp only [chkStrs, Bool.and_eq_true] at h
        obtain ⟨h1, h2⟩ := chkStrs_some h.2
        simp [h1, h2]
      | _ => simp [chkStrs] at h
    | _ => simp [chkStrs] at h
theorem s_dsp (h : XOk Γ S CX k c X E) {ns : List Str} {es : Es} {keys : List (Option Expr)} {vals : List Expr} (h1 : ns.length ≤ 15) (h2 : ns ≠ []) (h3 : ns.Nodup) (h4 : keys.length = vals.length) (h5 : chkStrs ns keys = true) (h6 : esLen es = vals.length)
    (hp : PPs X p keys vals (trsOf Γ E C ns es)) : PE X (.Dict keys vals p) (tE Γ E C (.dsp ns es)) := by
  obtain ⟨k1, k2⟩ := chkStrs_some h5
  refine PE.imp (pe_disp hp k1 h4 (fun z => h2 (by rw [z] at k2; exact List.length_eq_zero_iff.mp k2.symm)) (by omega)) fun σ H Q q => ?_
  obtain ⟨H0, G, ρ, M, env, rel, q⟩ := q
  intro D hD
  have c1 : Core Γ G ρ M (upd H D (.dK [])) := rel.toCore.laid hD
  have st1 : Adv G ρ H G ρ (upd H D (.dK [])) := Adv.laid hD
  refine tPairs_of (by omega) ⟨H0, G, ρ, M, env, rel.adv st1 c1, ?_⟩
  have q' : Post (XPf Γ E) (RepS Γ) Γ G ρ H ((evEs C es env M).bind fun ys M => .ok (.obj M.length) (M ++ [.dk ((ns.map Sum.inr).zip ys)])) Q := q
  show Post (XPf Γ E) (RepLS Γ) Γ G ρ (upd H D (.dK [])) (evEs C es env M) _
  cases e : evEs C es env M with
  | exc y M' =>
    rw [e] at q'
    exact fun G' ρ' H' st c2 => q' G' ρ' H' (st1.trans c1 st) c2
  | stk => rw [e] at q'; exact q'
  | ok ys M2 =>
    rw [e, Res.bind_ok] at q'
    intro G2 ρ2 H2 vs st2 c2 r2
    have hDρ : D ∉ ρ := (rel.toCore.fresh hD).1
    have hH2 : H2 D = some (.dK []) := st2.keep D _ hDρ upd_same
    have hG2 : G2 D = none := st2.gnew D (rel.toCore.fresh hD).2 ⟨_, upd_same, fun _ z => by cases z⟩
    have hρ2 : D ∉ ρ2 := fun hm => by
      have := st2.new D hm hDρ
      rw [upd_same] at this; cases this
    have st12 := st1.trans c1 st2
    have lv := r2.len
    have hlen : ns.length = ys.length := by rw [evEs_len es e]; omega
    have hlen2 : ns.length = vs.length := by rw [lv]; exact hlen
    have hkeys : ((ns.map fun n => (Sum.inr n : Key)).zip vs).map (·.1) = ns.map fun n => (Sum.inr n : Key) := zip_fst (by simpa using hlen2)
    refine ⟨hH2, (ns.map fun n => (Sum.inr n : Key)).zip vs, zip_kv ns vs, by simp; omega, ?_⟩
    have nd : (((ns.map fun n => (Sum.inr n : Key)).zip vs).map (·.1)).Nodup := by
      rw [hkeys]
      exact List.pairwise_map.mpr (h3.imp fun hne e => hne (Sum.inr.inj e))
    rw [merge_nodup _ [] nd (by simp), List.nil_append]
    have pl : ρ2.length = M2.length := c2.len
    have pp : Pre ρ2 (ρ2 ++ [D]) := fun i ad e => by rw [List.getElem?_append_left (List.getElem?_eq_some_iff.mp e).1]; exact e
    refine q' G2 (ρ2 ++ [D]) _ (.ref D) ⟨st12.gg, st12.pp.trans pp, fun ad hm n => ?_, fun qa o n e => ?_, st12.gnew⟩ ⟨fun qa o e => ?_, fun ad hm => ?_, ?_, by simp [pl], fun i o ad e1 e2 => ?_⟩ (.obj (by rw [← pl]; simp))
    · rcases List.mem_append.mp hm with hm | hm
      · exact st12.new ad hm n
      · have : ad = D := by simpa using hm
        rw [this]; exact hD
    · rw [upd_ne (ne_of_none e hD)]; exact st12.kp qa o n e
    · have : qa ≠ D := fun z => by rw [z, hG2] at e; cases e
      rw [upd_ne this]; exact c2.gh qa o e
    · rcases List.mem_append.mp hm with hm | hm
      · exact c2.off ad hm
      · have : ad = D := by simpa using hm
        rw [this]; exact hG2
    · rw [List.nodup_append]
      refine ⟨c2.nd, by simp, fun ad hm bd hb => ?_⟩
      have : bd = D := by simpa using hb
      rw [this]
      exact fun z => hρ2 (z ▸ hm)
    · by_cases hi : i < ρ2.length
      · rw [List.getElem?_append_left (by rw [← pl]; exact hi)] at e1
        rw [List.getElem?_append_left hi] at e2
        have : ad ≠ D := fun z => hρ2 (z ▸ List.mem_of_getElem? e2)
        exact ObRel.mono (Same.refl _) pp (upd_ne this) (c2.st i o ad e1 e2)
      · rw [List.getElem?_append_right (by omega)] at e1 e2
        have hi0 : i = ρ2.length := by
          have := (List.getElem?_eq_some_iff.mp e2).1
          simp at this; omega
        rw [hi0] at e1 e2
        simp [pl] at e1 e2
        subst e1 e2
        refine ⟨_, upd_same, ?_, ?_⟩
        · rw [hkeys]
          exact (zip_fst (as := ns.map fun n => (Sum.inr n : Key)) (bs := ys) (by simpa using hlen)).symm
        · rw [zip_snd (by simpa using hlen2), zip_snd (by simpa using hlen)]
          exact Reps.mono (Same.refl _) pp r2

mutual
theorem sndE (TB : Tab Γ S C CX k) : ∀ (ir : Mp.E) {c : SC} {X : Cx} {E : XK}, XOk Γ S CX k c X E → ∀ (e : Expr), chkE S c ir e = true → PE X e (tE Γ E C ir)
  | .cint i, c, X, E, h, e, hc => by
    cases e with
    | Constant cc j q => cases cc with
      | int m => simp only [chkE, decide_eq_true_eq] at hc; subst hc; exact s_cint
      | _ => simp [chkE] at hc
    | _ => simp [chkE] at hc
  | .cstr i, c, X, E, h, e, hc => by
    cases e with
    | Constant cc j q => cases cc with
      | str m => simp only [chkE, decide_eq_true_eq] at hc; subst hc; exact s_cstr
      | _ => simp [chkE] at hc
    | _ => simp [chkE] at hc
  | .cbl i, c, X, E, h, e, hc => by
    cases e with
    | Constant cc j q => cases cc with
      | bool m => simp only [chkE, decide_eq_true_eq] at hc; subst hc; exact s_cbl
      | _ => simp [chkE] at hc
    | _ => simp [chkE] at hc
  | .cnon, c, X, E, h, e, hc => by
    cases e with
    | Constant cc j q => cases cc with
      | none => exact s_cnon
      | _ => simp [chkE] at hc
    | _ => simp [chkE] at hc
  | .var i, c, X, E, h, e, hc => by
    cases e with
    | Name n q => simp only [chkE, Bool.and_eq_true] at hc; exact s_var h hc.1 hc.2
    | _ => simp [chkE] at hc
  | .own i, c, X, E, h, e, hc => by
    cases e with
    | Name n q => simp only [chkE, Bool.and_eq_true] at hc; exact s_own h hc.1 hc.2
    | _ => simp [chkE] at hc
  | .glob i, c, X, E, h, e, hc => by
    cases e with
    | Name n q => simp only [chkE, Bool.and_eq_true] at hc; exact s_glob TB h hc.1 hc.2
    | _ => simp [chkE] at hc
  | .fnv i, c, X, E, h, e, hc => by
    cases e with
    | Name n q => simp only [chkE, Bool.and_eq_true] at hc; exact s_fnv TB h hc.1 hc.2
    | _ => simp [chkE] at hc
  | .tup es, c, X, E, h, e, hc => by
    cases e with
    | Tuple xs n q => simp only [chkE, Bool.and_eq_true, decide_eq_true_eq] at hc; exact s_tup (by rw [chkEs_len hc.2]; exact hc.1) (sndEs TB es h xs hc.2)
    | _ => simp [chkE] at hc
  | .lst es, c, X, E, h, e, hc => by
    cases e with
    | List xs q => simp only [chkE, Bool.and_eq_true, decide_eq_true_eq] at hc; exact s_lst (by rw [chkEs_len hc.2]; exact hc.1) (sndEs TB es h xs hc.2)
    | _ => simp [chkE] at hc
  | .bin o a b, c, X, E, h, e, hc => by
    cases e with
    | BinOp x op y q => simp only [chkE, Bool.and_eq_true, decide_eq_true_eq] at hc; obtain ⟨⟨rfl, h1⟩, h2⟩ := hc; exact s_bin h (sndE TB a h x h1) (sndE TB b h y h2)
    | _ => simp [chkE] at hc
  | .neg a, c, X, E, h, e, hc => by
    cases e with
    | UnaryOp op x q => cases op with
      | USub => simp only [chkE] at hc; exact s_neg (sndE TB a h x hc)
      | _ => simp [chkE] at hc
    | _ => simp [chkE] at hc
  | .cmp o a b, c, X, E, h, e, hc => by
    cases e with
    | Compare x ops ys q =>
      match ops, ys, hc with
      | [op], [y], hc =>
        simp only [chkE, Bool.and_eq_true, decide_eq_true_eq] at hc
        obtain ⟨⟨⟨rfl, h1⟩, h2⟩, h3⟩ := hc
        exact s_cmp h (sndP h h1 (sndE TB a h x h1)) (sndP h h2 (sndE TB b h y h2)) h3
      | [], _, hc => simp [chkE] at hc
      | [_], [], hc => simp [chkE] at hc
      | [_], _ :: _ :: _, hc => simp [chkE] at hc
      | _ :: _ :: _, _, hc => simp [chkE] at hc
    | _ => simp [chkE] at hc
  | .chn o pp a b dd, c, X, E, h, e, hc => by
    cases e with
    | Compare x ops ys q =>
      match ops, ys, hc with
      | [op, op2], [y, z], hc =>
        simp only [chkE, Bool.and_eq_true, decide_eq_true_eq] at hc
        obtain ⟨⟨⟨⟨⟨rfl, rfl⟩, h1⟩, h2⟩, h3⟩, h4⟩ := hc
        exact s_chn h (sndE TB a h x h1) (sndE TB b h y h2) (sndE TB dd h z h3) h4
      | [], _, hc => simp [chkE] at hc
      | [_], _, hc => simp [chkE] at hc
      | [_, _], [], hc => simp [chkE] at hc
      | [_, _], [_], hc => simp [chkE] at hc
      | [_, _], _ :: _ :: _ :: _, hc => simp [chkE] at hc
      | _ :: _ :: _ :: _, _, hc => simp [chkE] at hc
    | _ => simp [chkE] at hc
  | .andv a b, c, X, E, h, e, hc => by
    cases e with
    | BoolOp op vs q =>
      match op, vs, hc with
      | .And, x :: y :: r, hc => simp only [chkE, Bool.and_eq_true] at hc; exact s_andv h (sndE TB a h x hc.1) (sndE TB b h _ hc.2)
      | .And, [], hc => simp [chkE] at hc
      | .And, [_], hc => simp [chkE] at hc
      | .Or, _, hc => simp [chkE] at hc
    | _ => simp [chkE] at hc
  | .orv a b, c, X, E, h, e, hc => by
    cases e with
    | BoolOp op vs q =>
      match op, vs, hc with
      | .Or, x :: y :: r, hc => simp only [chkE, Bool.and_eq_true] at hc; exact s_orv h (sndE TB a h x hc.1) (sndE TB b h _ hc.2)
      | .Or, [], hc => simp [chkE] at hc
      | .Or, [_], hc => simp [chkE] at hc
      | .And, _, hc => simp [chkE] at hc
    | _ => simp [chkE] at hc
  | .one a, c, X, E, h, e, hc => by
    cases e with
    | BoolOp op vs q =>
      match vs, hc with
      | [x], hc => simp only [chkE] at hc; exact PE.imp (pe_one (sndE TB a h x hc)) fun σ H Q q => q
      | [], hc => simp [chkE] at hc
      | _ :: _ :: _, hc => simp [chkE] at hc
    | _ => simp [chkE] at hc
  | .notv a, c, X, E, h, e, hc => by
    cases e with
    | UnaryOp op x q => cases op with
      | Not => simp only [chkE] at hc; exact s_notv h (sndE TB a h x hc)
      | _ => simp [chkE] at hc
    | _ => simp [chkE] at hc
  | .ife t a b, c, X, E, h, e, hc => by
    cases e with
    | IfExp z x y q => simp only [chkE, Bool.and_eq_true] at hc; exact s_ife (sndT TB t h z hc.1.1) (sndE TB a h x hc.1.2) (sndE TB b h y hc.2)
    | _ => simp [chkE] at hc
  | .idx a b, c, X, E, h, e, hc => by
    cases e with
    | Subscript x y q => simp only [chkE, Bool.and_eq_true] at hc; exact s_idx h (sndP h hc.1.1 (sndE TB a h x hc.1.1)) (sndE TB b h y hc.1.2) hc.2
    | _ => simp [chkE] at hc
  | .dgt a b, c, X, E, h, e, hc => by
    cases e with
    | Subscript x y q => simp only [chkE, Bool.and_eq_true] at hc; exact s_dgt h (sndE TB a h x hc.1.1) (sndE TB b h y hc.1.2) hc.2
    | _ => simp [chkE] at hc
  | .slc a lo hi, c, X, E, h, e, hc => by
    cases e with
    | Subscript x y q =>
      cases y with
      | Slice l u st q2 =>
        cases st with
        | none => simp only [chkE, Bool.and_eq_true] at hc; exact s_slc h (sndP h hc.1.1 (sndE TB a h x hc.1.1)) (sndO TB lo h l hc.1.2) (sndO TB hi h u hc.2)
        | some _ => simp [chkE] at hc
      | _ => simp [chkE] at hc
    | _ => simp [chkE] at hc
  | .call f sh es ks, c, X, E, h, e, hc => by
    cases e with
    | Call fe args kws q =>
      cases fe with
      | Name n q2 =>
        simp only [chkE, Bool.and_eq_true] at hc
        obtain ⟨⟨⟨h1, h2⟩, h3⟩, h4⟩ := hc
        cases hk : S.kw f sh with
        | none => rw [hk] at h4; cases h4
        | some ns =>
          rw [hk] at h4
          exact s_call TB h h1 h2 hk h3 h4 (sndEs TB es h args h3) (sndKs TB ks h ns kws h4)
      | _ => simp [chkE] at hc
    | _ => simp [chkE] at hc
  | .callv i es, c, X, E, h, e, hc => by cases e <;> simp [chkE] at hc
  | .blt b es, c, X, E, h, e, hc => by
    cases e with
    | Call fe args kws q =>
      cases fe with
      | Name n q2 =>
        cases kws with
        | nil =>
          cases args with
          | nil => simp [chkE] at hc
          | cons x xs =>
            simp only [chkE, Bool.and_eq_true, decide_eq_true_eq] at hc
            obtain ⟨⟨⟨⟨⟨rfl, h1⟩, h2⟩, h3⟩, _⟩, h5⟩ := hc
            exact s_blt TB h h1 h2 h3 (chkEs_star h5) (sndPs TB es h (x :: xs) h5)
        | cons _ _ => simp [chkE] at hc
      | _ => simp [chkE] at hc
    | _ => simp [chkE] at hc
  | .isi a t, c, X, E, h, e, hc => by
    cases e with
    | Call fe args kws q =>
      cases fe with
      | Name n q2 =>
        match args, kws, hc with
        | [x, .Name m q3], [], hc =>
          simp only [chkE, Bool.and_eq_true, decide_eq_true_eq] at hc
          obtain ⟨⟨⟨⟨⟨⟨⟨rfl, h1⟩, h2⟩, rfl⟩, h3⟩, h4⟩, h5⟩, h6⟩ := hc
          exact s_isi TB h h1 h2 h3 h4 h6 (sndP h h5 (sndE TB a h x h5))
        | [], _, hc => simp [chkE] at hc
        | [_], _, hc => simp [chkE] at hc
        | _ :: _ :: _ :: _, _, hc => simp [chkE] at hc
        | [x, y], _ :: _, hc => cases y <;> simp [chkE] at hc
        | [x, y], [], hc => cases y <;> first | (exfalso; simp [chkE] at hc; done) | skip
                            rename_i m q3
                            simp only [chkE, Bool.and_eq_true, decide_eq_true_eq] at hc
                            obtain ⟨⟨⟨⟨⟨⟨⟨rfl, h1⟩, h2⟩, rfl⟩, h3⟩, h4⟩, h5⟩, h6⟩ := hc
                            exact s_isi TB h h1 h2 h3 h4 h6 (sndP h h5 (sndE TB a h x h5))
      | _ => simp [chkE] at hc
    | _ => simp [chkE] at hc
  | .comp g own it t a, c, X, E, h, e, hc => by
    cases e with
    | ListComp x gens scope q =>
      match gens, hc with
      | [⟨tg, iter, ifs, as⟩], hc =>
        simp only [chkE, Bool.and_eq_true, decide_eq_true_eq] at hc
        obtain ⟨⟨⟨⟨⟨⟨⟨rfl, h1⟩, h2⟩, h3⟩, h4⟩, h5⟩, h6⟩, h7⟩ := hc
        exact s_comp TB h h1 h2 h3 (sndI TB it h iter h4) (fun X' h' => sndG h' TB.nd g tg h5) (fun X' h' => sndTs TB t h' ifs h6) (fun X' h' => sndE TB a h' x h7)
      | [], hc => simp [chkE] at hc
      | _ :: _ :: _, hc => simp [chkE] at hc
    | _ => simp [chkE] at hc
  | .dsp ns es, c, X, E, h, e, hc => by
    cases e with
    | Dict keys vals q =>
      simp only [chkE, Bool.and_eq_true, decide_eq_true_eq] at hc
      obtain ⟨⟨⟨⟨⟨h1, h2⟩, h3⟩, h4⟩, h5⟩, h6⟩ := hc
      exact s_dsp h h1 h2 h3 h4 h5 (chkEs_len h6) (sndPP TB es h ns keys vals q h4 h5 h6)
    | _ => simp [chkE] at hc
  | .dnew t, c, X, E, h, e, hc => by
    unfold chkE at hc
    split at hc <;> first | (rename_i hh; cases hh; done) | (cases hc; done) | skip
    rename_i hh
    cases hh
    exact s_dnew
  | .get2 a b d, c, X, E, h, e, hc => by
    unfold chkE at hc
    split at hc <;> first | (rename_i hh; cases hh; done) | (cases hc; done) | skip
    rename_i hh
    cases hh
    simp only [Bool.and_eq_true, decide_eq_true_eq] at hc
    obtain ⟨⟨⟨⟨⟨⟨⟨rfl, h1⟩, h2⟩, h3⟩, h4⟩, h5⟩, h6⟩, h7⟩ := hc
    exact s_get2 h (sndE TB a h _ h5) (sndE TB b h _ h6) (sndE TB d h _ h7) h1 h2 h3 h4
  | .get1 a b, c, X, E, h, e, hc => by
    unfold chkE at hc
    split at hc <;> first | (rename_i hh; cases hh; done) | (cases hc; done) | skip
    rename_i hh
    cases hh
    simp only [Bool.and_eq_true, decide_eq_true_eq] at hc
    obtain ⟨⟨⟨⟨⟨rfl, h1⟩, h2⟩, h4⟩, h5⟩, h6⟩ := hc
    exact s_get1 h (sndE TB a h _ h5) (sndE TB b h _ h6) h1 h2 h4
  | .lnew es, c, X, E, h, e, hc => by
    cases e with
    | List xs q => simp only [chkE, Bool.and_eq_true, decide_eq_true_eq] at hc; exact s_lnew (by rw [chkEs_len hc.2]; exact hc.1) (sndEs TB es h xs hc.2)
    | _ => simp [chkE] at hc
  | .stp a d, c, X, E, h, e, hc => by
    unfold chkE at hc
    split at hc <;> first | (rename_i hh; cases hh; done) | (cases hc; done) | skip
    rename_i hh
    cases hh
    simp only [Bool.and_eq_true] at hc
    exact s_stp h (sndP h hc.1 (sndE TB a h _ hc.1)) (sndE TB d h _ hc.2)
  | .lrng t it, c, X, E, h, e, hc => by
    cases it with
    | rng1 a =>
      unfold chkE at hc
      split at hc <;> first | (rename_i hh; cases hh; done) | (cases hc; done) | skip
      rename_i hh
      cases hh
      simp only [Bool.and_eq_true, decide_eq_true_eq] at hc
      obtain ⟨⟨⟨⟨⟨⟨⟨h1, h2⟩, h3⟩, rfl⟩, h4⟩, h5⟩, h6⟩, h7⟩ := hc
      exact s_lrng1 TB h h1 h2 h3 h4 h5 h6 (sndE TB a h _ h7)
    | rng2 a b =>
      unfold chkE at hc
      split at hc <;> first | (rename_i hh; cases hh; done) | (cases hc; done) | skip
      rename_i hh
      cases hh
      simp only [Bool.and_eq_true, decide_eq_true_eq] at hc
      obtain ⟨⟨⟨⟨⟨⟨⟨⟨⟨h1, h2⟩, h3⟩, rfl⟩, h4⟩, h5⟩, h6⟩, h7⟩, h8⟩, h9⟩ := hc
      exact s_lrng2 TB h h1 h2 h3 h4 h5 h6 h7 (sndE TB a h _ h8) (sndE TB b h _ h9)
    | _ => unfold chkE at hc; exact absurd hc Bool.noConfusion
  | .dcomp tk g own it t a b, c, X, E, h, e, hc => by
    unfold chkE at hc
    split at hc <;> first | (rename_i hh; cases hh; done) | (cases hc; done) | skip
    rename_i hh
    cases hh
    simp only [Bool.and_eq_true, decide_eq_true_eq] at hc
    obtain ⟨⟨⟨⟨⟨⟨⟨⟨rfl, h1⟩, h2⟩, h3⟩, h4⟩, h5⟩, h6⟩, h7⟩, h8⟩ := hc
    exact s_dcomp TB h h1 h2 h3 (sndI TB it h _ h4) (fun X' h' => sndG h' TB.nd g _ h5) (fun X' h' => sndTs TB t h' _ h6) (fun X' h' => sndE TB a h' _ h7) (fun X' h' => sndE TB b h' _ h8)
theorem sndEs (TB : Tab Γ S C CX k) : ∀ (es : Es) {c : SC} {X : Cx} {E : XK}, XOk Γ S CX k c X E → ∀ (xs : List Expr), chkEs S c es xs = true → PA X xs (tEs Γ E C es)
  | .nil, c, X, E, h, [], hc => a_nil
  | .nil, c, X, E, h, _ :: _, hc => by simp [chkEs] at hc
  | .cons e r, c, X, E, h, [], hc => by simp [chkEs] at hc
  | .cons e r, c, X, E, h, x :: xs, hc => by
    simp only [chkEs, Bool.and_eq_true] at hc
    exact a_cons (sndE TB e h x hc.1.2) (sndEs TB r h xs hc.2) hc.1.1
theorem sndPs (TB : Tab Γ S C CX k) : ∀ (es : Es) {c : SC} {X : Cx} {E : XK}, XOk Γ S CX k c X E → ∀ (xs : List Expr), chkEs S c es xs = true → PA X xs (tPs Γ E C es)
  | .nil, c, X, E, h, [], hc => b_nil
  | .nil, c, X, E, h, _ :: _, hc => by simp [chkEs] at hc
  | .cons e r, c, X, E, h, [], hc => by simp [chkEs] at hc
  | .cons e r, c, X, E, h, x :: xs, hc => by
    simp only [chkEs, Bool.and_eq_true] at hc
    exact b_cons (sndP h hc.1.2 (sndE TB e h x hc.1.2)) (sndPs TB r h xs hc.2) hc.1.1
theorem sndKs (TB : Tab Γ S C CX k) : ∀ (es : Es) {c : SC} {X : Cx} {E : XK}, XOk Γ S CX k c X E → ∀ (ns : List Str) (xs : List Keyword), chkKs S c ns es xs = true → PK X xs (tEs Γ E C es)
  | .nil, c, X, E, h, [], [], hc => k_nil
  | .nil, c, X, E, h, [], _ :: _, hc => by simp [chkKs] at hc
  | .nil, c, X, E, h, _ :: _, _, hc => by simp [chkKs] at hc
  | .cons e r, c, X, E, h, [], _, hc => by simp [chkKs] at hc
  | .cons e r, c, X, E, h, _ :: _, [], hc => by simp [chkKs] at hc
  | .cons e r, c, X, E, h, n :: ns, ⟨none, x, q⟩ :: xs, hc => by simp [chkKs] at hc
  | .cons e r, c, X, E, h, n :: ns, ⟨some m, x, q⟩ :: xs, hc => by
    simp only [chkKs, Bool.and_eq_true] at hc
    exact k_cons (sndE TB e h x hc.1.2) (sndKs TB r h ns xs hc.2)
theorem sndPP (TB : Tab Γ S C CX k) : ∀ (es : Es) {c : SC} {X : Cx} {E : XK}, XOk Γ S CX k c X E → ∀ (ns : List Str) (keys : List (Option Expr)) (xs : List Expr) (q : Pos), keys.length = xs.length → chkStrs ns keys = true → chkEs S c es xs = true → PPs X q keys xs (trsOf Γ E C ns es)
  | .nil, c, X, E, h, ns, keys, [], q, hl, hs, hc => by
    cases keys with
    | nil => cases ns with
      | nil => exact pps_nil
      | cons _ _ => simp [chkStrs] at hs
    | cons _ _ => simp at hl
  | .nil, c, X, E, h, ns, keys, _ :: _, q, hl, hs, hc => by simp [chkEs] at hc
  | .cons e r, c, X, E, h, ns, keys, [], q, hl, hs, hc => by simp [chkEs] at hc
  | .cons e r, c, X, E, h, ns, keys, x :: xs, q, hl, hs, hc => by
    simp only [chkEs, Bool.and_eq_true] at hc
    match ns, keys, hl, hs with
    | n :: ns, some kx :: keys, hl, hs =>
      cases kx with
      | Constant cc j q2 =>
        cases cc with
        | str s =>
          simp only [chkStrs, Bool.and_eq_true, decide_eq_true_eq] at hs
          obtain ⟨rfl, hs⟩ := hs
          exact pps_cons pe_str (sndE TB e h x hc.1.2) (sndPP TB r h ns keys xs q (by simpa using hl) hs hc.2)
        | _ => simp [chkStrs] at hs
      | _ => simp [chkStrs] at hs
    | _, [], hl, _ => simp at hl
    | [], _ :: _, _, hs => simp [chkStrs] at hs
    | _ :: _, none :: _, _, hs => simp [chkStrs] at hs
theorem sndO (TB : Tab Γ S C CX k) : ∀ (o : O) {c : SC} {X : Cx} {E : XK}, XOk Γ S CX k c X E → ∀ (x : Option Expr), chkO S c o x = true → PO X x (tO Γ E C o)
  | .non, c, X, E, h, none, hc => o_non
  | .non, c, X, E, h, some _, hc => by simp [chkO] at hc
  | .som e, c, X, E, h, none, hc => by simp [chkO] at hc
  | .som e, c, X, E, h, some x, hc => by simp only [chkO] at hc; exact o_som (sndE TB e h x hc)
theorem sndW (TB : Tab Γ S C CX k) : ∀ (t : T) {c : SC} {X : Cx} {E : XK}, XOk Γ S CX k c X E → ∀ (op : BoolOp) (vs : List Expr) (q : Pos), chkT S c t (.BoolOp op vs q) = true → PW X (.BoolOp op vs q) (tT Γ E C t)
  | .val e, c, X, E, h, op, vs, q, hc => by simp [chkT, plainT] at hc
  | .cmp o a b, c, X, E, h, op, vs, q, hc => by simp [chkT] at hc
  | .chn o pp a b dd, c, X, E, h, op, vs, q, hc => by simp [chkT] at hc
  | .not t, c, X, E, h, op, vs, q, hc => by simp [chkT] at hc
  | .and a b, c, X, E, h, op, vs, q, hc => by
    match op, vs, hc with
    | .And, x :: y :: r, hc => simp only [chkT, Bool.and_eq_true] at hc; exact w_and (sndT TB a h x hc.1) (sndW TB b h _ _ _ hc.2)
    | .And, [], hc => simp [chkT] at hc
    | .And, [_], hc => simp [chkT] at hc
    | .Or, _, hc => simp [chkT] at hc
  | .or a b, c, X, E, h, op, vs, q, hc => by
    match op, vs, hc with
    | .Or, x :: y :: r, hc => simp only [chkT, Bool.and_eq_true] at hc; exact w_or (sndT TB a h x hc.1) (sndW TB b h _ _ _ hc.2)
    | .Or, [], hc => simp [chkT] at hc
    | .Or, [_], hc => simp [chkT] at hc
    | .And, _, hc => simp [chkT] at hc
  | .one a, c, X, E, h, op, vs, q, hc => by
    match vs, hc with
    | [x], hc => simp only [chkT] at hc; exact w_one (sndT TB a h x hc)
    | [], hc => simp [chkT] at hc
    | _ :: _ :: _, hc => simp [chkT] at hc
theorem sndT (TB : Tab Γ S C CX k) : ∀ (t : T) {c : SC} {X : Cx} {E : XK}, XOk Γ S CX k c X E → ∀ (e : Expr), chkT S c t e = true → PT X e (tT Γ E C t)
  | .val a, c, X, E, h, e, hc => by
    simp only [chkT, Bool.and_eq_true] at hc
    exact t_val h (sndP h hc.2 (sndE TB a h e hc.2)) hc.1
  | .cmp o a b, c, X, E, h, e, hc => by
    cases e with
    | Compare x ops ys q =>
      match ops, ys, hc with
      | [op], [y], hc =>
        simp only [chkT, Bool.and_eq_true, decide_eq_true_eq] at hc
        obtain ⟨⟨⟨rfl, h1⟩, h2⟩, h3⟩ := hc
        exact t_cmp h (sndP h h1 (sndE TB a h x h1)) (sndP h h2 (sndE TB b h y h2)) h3
      | [], _, hc => simp [chkT] at hc
      | [_], [], hc => simp [chkT] at hc
      | [_], _ :: _ :: _, hc => simp [chkT] at hc
      | _ :: _ :: _, _, hc => simp [chkT] at hc
    | _ => simp [chkT] at hc
  | .chn o pp a b dd, c, X, E, h, e, hc => by
    cases e with
    | Compare x ops ys q =>
      match ops, ys, hc with
      | [op, op2], [y, z], hc =>
        simp only [chkT, Bool.and_eq_true, decide_eq_true_eq] at hc
        obtain ⟨⟨⟨⟨⟨rfl, rfl⟩, h1⟩, h2⟩, h3⟩, h4⟩ := hc
        exact t_chn h (sndE TB a h x h1) (sndE TB b h y h2) (sndE TB dd h z h3) h4
      | [], _, hc => simp [chkT] at hc
      | [_], _, hc => simp [chkT] at hc
      | [_, _], [], hc => simp [chkT] at hc
      | [_, _], [_], hc => simp [chkT] at hc
      | [_, _], _ :: _ :: _ :: _, hc => simp [chkT] at hc
      | _ :: _ :: _ :: _, _, hc => simp [chkT] at hc
    | _ => simp [chkT] at hc
  | .not t, c, X, E, h, e, hc => by
    cases e with
    | UnaryOp op x q => cases op with
      | Not => simp only [chkT] at hc; exact t_not (sndT TB t h x hc)
      | _ => simp [chkT] at hc
    | _ => simp [chkT] at hc
  | .and a b, c, X, E, h, e, hc => by
    cases e with
    | BoolOp op vs q =>
      match op, vs, hc with
      | .And, x :: y :: r, hc => simp only [chkT, Bool.and_eq_true] at hc; exact (w_and (sndT TB a h x hc.1) (sndW TB b h _ _ _ hc.2)).pt
      | .And, [], hc => simp [chkT] at hc
      | .And, [_], hc => simp [chkT] at hc
      | .Or, _, hc => simp [chkT] at hc
    | _ => simp [chkT] at hc
  | .or a b, c, X, E, h, e, hc => by
    cases e with
    | BoolOp op vs q =>
      match op, vs, hc with
      | .Or, x :: y :: r, hc => simp only [chkT, Bool.and_eq_true] at hc; exact (w_or (sndT TB a h x hc.1) (sndW TB b h _ _ _ hc.2)).pt
      | .Or, [], hc => simp [chkT] at hc
      | .Or, [_], hc => simp [chkT] at hc
      | .And, _, hc => simp [chkT] at hc
    | _ => simp [chkT] at hc
  | .one a, c, X, E, h, e, hc => by
    cases e with
    | BoolOp op vs q =>
      match vs, hc with
      | [x], hc => simp only [chkT] at hc; exact (w_one (sndT TB a h x hc)).pt
      | [], hc => simp [chkT] at hc
      | _ :: _ :: _, hc => simp [chkT] at hc
    | _ => simp [chkT] at hc
theorem sndTs (TB : Tab Γ S C CX k) : ∀ (t : Ts) {c : SC} {X : Cx} {E : XK}, XOk Γ S CX k c X E → ∀ (es : List Expr), chkTs S c t es = true → PTs X es (tTs Γ E C t)
  | .nil, c, X, E, h, [], hc => ⟨fun pins s σ H Q I ⟨H0, G, ρ, M, env, rel, q⟩ => pts_nil.run pins s σ H Q I (Post.now rel.toCore q rfl)⟩
  | .nil, c, X, E, h, _ :: _, hc => by simp [chkTs] at hc
  | .one t, c, X, E, h, [], hc => by simp [chkTs] at hc
  | .one t, c, X, E, h, [x], hc => by
    simp only [chkTs] at hc
    exact ⟨fun pins s σ H Q I q => (pts_one (sndT TB t h x hc)).run pins s σ H Q I q⟩
  | .one t, c, X, E, h, _ :: _ :: _, hc => by simp [chkTs] at hc
theorem sndI (TB : Tab Γ S C CX k) : ∀ (it : Mp.It) {c : SC} {X : Cx} {E : XK} {tg : Expr}, XOk Γ S CX k c X E → ∀ (e : Expr), chkI S c (isTup tg) it e = true → PI X tg e (tI Γ E C it)
  | .seq a, c, X, E, tg, h, e, hc => by
    simp only [chkI, Bool.and_eq_true] at hc
    exact s_seq h (sndE TB a h e hc.2)
  | .rng1 a, c, X, E, tg, h, e, hc => by
    unfold chkI at hc
    split at hc <;> first | (rename_i hh; cases hh; done) | (cases hc; done) | skip
    rename_i hh
    cases hh
    simp only [Bool.and_eq_true, decide_eq_true_eq] at hc
    obtain ⟨⟨⟨⟨rfl, h1⟩, h2⟩, h3⟩, h4⟩ := hc
    exact s_rng1 TB h h1 h2 h3 (sndE TB a h _ h4)
  | .rng2 a b, c, X, E, tg, h, e, hc => by
    unfold chkI at hc
    split at hc <;> first | (rename_i hh; cases hh; done) | (cases hc; done) | skip
    rename_i hh
    cases hh
    simp only [Bool.and_eq_true, decide_eq_true_eq] at hc
    obtain ⟨⟨⟨⟨⟨⟨rfl, h1⟩, h2⟩, h3⟩, h4⟩, h5⟩, h6⟩ := hc
    exact s_rng2 TB h h1 h2 h3 h4 (sndE TB a h _ h5) (sndE TB b h _ h6)
  | .enum a, c, X, E, tg, h, e, hc => by
    unfold chkI at hc
    split at hc <;> first | (rename_i hh; cases hh; done) | (cases hc; done) | skip
    rename_i hh
    cases hh
    simp only [Bool.and_eq_true, decide_eq_true_eq] at hc
    obtain ⟨⟨⟨⟨⟨h0, rfl⟩, h1⟩, h2⟩, h3⟩, h4⟩ := hc
    exact s_enum TB h h0 h1 h2 h3 (sndE TB a h _ h4)
  | .zip a b, c, X, E, tg, h, e, hc => by
    unfold chkI at hc
    split at hc <;> first | (rename_i hh; cases hh; done) | (cases hc; done) | skip
    rename_i hh
    cases hh
    simp only [Bool.and_eq_true, decide_eq_true_eq] at hc
    obtain ⟨⟨⟨⟨⟨⟨⟨h0, rfl⟩, h1⟩, h2⟩, h3⟩, h4⟩, h5⟩, h6⟩ := hc
    exact s_zip TB h h0 h1 h2 h3 h4 (sndE TB a h _ h5) (sndE TB b h _ h6)
  | .items a, c, X, E, tg, h, e, hc => by
    unfold chkI at hc
    split at hc <;> first | (rename_i hh; cases hh; done) | (cases hc; done) | skip
    rename_i hh
    cases hh
    simp only [Bool.and_eq_true, decide_eq_true_eq] at hc
    obtain ⟨⟨⟨⟨h0, rfl⟩, h1⟩, h2⟩, h3⟩ := hc
    exact s_items h h0 h1 h2 (sndE TB a h _ h3)
end
end
end Mp
end

section
set_option Elab.async false
set_option linter.all false
set_option maxRecDepth 100000
/-! Statements. -/
namespace Mp
open PySem PySem.Spec L2

/-- where a def began, and a place on the way -/
structure Anc where
  G0 : Hp
  ρ0 : List Addr
  H0 : Hp
  GA : Hp
  ρA : List Addr
  HA : Hp
structure At (A : Anc) (G : Hp) (ρ : List Addr) (H : Hp) : Prop where
  adv : Adv A.G0 A.ρ0 A.H0 G ρ H
  ga : Sub A.GA G
  pa : Pre A.ρA ρ
  fz : Fz A.HA H

def PostS (XE : XW) (Γ : Cfg) (A : Anc) (r : SRes) (D : Ends) : Prop := match r with
  | .next env' M' => ∀ G' ρ' σ' H', At A G' ρ' H' → Rel Γ A.H0 G' ρ' M' σ' env' H' → D.nx σ' H'
  | .ret d M' => ∀ G' ρ' H' v, At A G' ρ' H' → Core Γ G' ρ' M' H' → Rep Γ G' ρ' v d → D.rt v H'
  | .brk env' M' => ∀ G' ρ' σ' H', At A G' ρ' H' → Rel Γ A.H0 G' ρ' M' σ' env' H' → D.bk σ' H'
  | .cnt env' M' => ∀ G' ρ' σ' H', At A G' ρ' H' → Rel Γ A.H0 G' ρ' M' σ' env' H' → D.ct σ' H'
  | .exc x M' => ∀ G' ρ' H', At A G' ρ' H' → Core Γ G' ρ' M' H' → XE x G' ρ' H'
  | .stk => False
def tSt (XE : XW) (Γ : Cfg) (ev : Env → Sto → SRes) : TS := fun D σ H => ∃ A G ρ M env, At A G ρ H ∧ Rel Γ A.H0 G ρ M σ env H ∧ PostS XE Γ A (ev env M) D

section
variable {Γ : Cfg} {S : Sta} {C : Cal} {CX : CXT} {k : Nat} {c : SC} {X : Cx} {E : XK} {x y z tg : Expr} {p : Pos} {a b d : Mp.E}
  {A : Anc} {G G' : Hp} {ρ ρ' : List Addr} {M M' : Sto} {σ σ' : L2.St} {env env' : Env} {H H' : Hp} {D : Ends} {XE : XW}
theorem At.step (a : At A G ρ H) (c : Core Γ G ρ M H) (b : Adv G ρ H G' ρ' H') : At A G' ρ' H' := ⟨a.adv.trans c b, a.ga.trans b.gg, a.pa.trans b.pp, a.fz.trans b.fz⟩
theorem PostS.of {α β : Type} {R : RR β α} {r : Res α} {kk : α → Sto → SRes} (at_ : At A G ρ H) (rel : Rel Γ A.H0 G ρ M σ env H) (q : PostS XE Γ A (SRes.of r kk) D) :
    Post XE R Γ G ρ H r (fun v H1 => ∃ G1 ρ1 M1 a, At A G1 ρ1 H1 ∧ Rel Γ A.H0 G1 ρ1 M1 σ env H1 ∧ R G1 ρ1 H1 v a ∧ PostS XE Γ A (kk a M1) D) := by
  cases r with
  | ok a M' => exact fun G' ρ' H' b st c2 hr => ⟨G', ρ', M', a, at_.step rel.toCore st, rel.adv st c2, hr, q⟩
  | exc x M' => exact fun G' ρ' H' st c2 => q G' ρ' H' (at_.step rel.toCore st) c2
  | stk => exact q
/-- an expression at the head of a statement -/
theorem tS_of {α β : Type} {R : RR β α} {ev : Env → Sto → Res α} {kk : Env → α → Sto → SRes} (q : tSt XE Γ (fun env M => SRes.of (ev env M) (kk env)) D σ H) :
    tG XE R Γ ev σ H (fun v H1 => ∃ A G1 ρ1 M1 env a, At A G1 ρ1 H1 ∧ Rel Γ A.H0 G1 ρ1 M1 σ env H1 ∧ R G1 ρ1 H1 v a ∧ PostS XE Γ A (kk env a M1) D) := by
  obtain ⟨A, G, ρ, M, env, at_, rel, q⟩ := q
  refine ⟨A.H0, G, ρ, M, env, rel, Post.mono (PostS.of (R := R) at_ rel q) ?_⟩
  rintro v H1 ⟨G1, ρ1, M1, a, h1, h2, h3, h4⟩
  exact ⟨A, G1, ρ1, M1, env, a, h1, h2, h3, h4⟩

abbrev tSs (Γ : Cfg) (E : XK) (C : Cal) (s : List Mp.S) : TS := tSt (XPf Γ E) Γ (fun env M => evSs C s env M)
abbrev tS1 (Γ : Cfg) (E : XK) (C : Cal) (s : Mp.S) : TS := tSt (XPf Γ E) Γ (fun env M => evS C s env M)

theorem ss_nil : PSs X [] (tSs Γ E C []) := PSs.imp pss_nil fun D σ H ⟨A, G, ρ, M, env, at_, rel, q⟩ => by
  simp only [evSs] at q
  exact q G ρ σ H at_ rel
theorem ss_cons {st : Stmt} {r : List Stmt} {s : Mp.S} {rs : List Mp.S} (h1 : PS X st (tS1 Γ E C s)) (h2 : PSs X r (tSs Γ E C rs)) : PSs X (st :: r) (tSs Γ E C (s :: rs)) := by
  refine PSs.imp (pss_cons h1 h2) fun D σ H ⟨A, G, ρ, M, env, at_, rel, q⟩ => ⟨A, G, ρ, M, env, at_, rel, ?_⟩
  simp only [evSs] at q
  show PostS _ _ _ (evS C s env M) _
  cases e : evS C s env M with
  | next env' M' =>
    rw [e] at q
    intro G' ρ' σ' H' a2 r2
    exact ⟨A, G', ρ', M', env', a2, r2, q⟩
  | ret d M' => rw [e] at q; exact q
  | brk env' M' => rw [e] at q; exact q
  | cnt env' M' => rw [e] at q; exact q
  | exc x M' => rw [e] at q; exact q
  | stk => rw [e] at q; exact q

/-! ### simple statements -/
theorem st_pas : PS X (.Pass p) (tS1 Γ E C .pas) := PS.imp ps_pass fun D σ H ⟨A, G, ρ, M, env, at_, rel, q⟩ => by
  simp only [evS] at q
  exact q G ρ σ H at_ rel
theorem st_brk : PS X (.Break p) (tS1 Γ E C .brk) := PS.imp ps_break fun D σ H ⟨A, G, ρ, M, env, at_, rel, q⟩ => by
  simp only [evS] at q
  exact q G ρ σ H at_ rel
theorem st_cnt : PS X (.Continue p) (tS1 Γ E C .cnt) := PS.imp ps_continue fun D σ H ⟨A, G, ρ, M, env, at_, rel, q⟩ => by
  simp only [evS] at q
  exact q G ρ σ H at_ rel
theorem st_retn : PS X (.Return none p) (tS1 Γ E C .retn) := PS.imp ps_retN fun D σ H ⟨A, G, ρ, M, env, at_, rel, q⟩ => by
  simp only [evS] at q
  exact q G ρ H .non at_ rel.toCore .non
theorem st_ret (ha : PE X x (tE Γ E C a)) : PS X (.Return (some x) p) (tS1 Γ E C (.ret a)) := PS.imp (ps_ret ha) fun D σ H q => by
  have q' : tSt (XPf Γ E) Γ (fun env M => .of (evE C a env M) fun x M => .ret x M) D σ H := by
    obtain ⟨A, G, ρ, M, env, at_, rel, q⟩ := q
    simp only [evS] at q
    exact ⟨A, G, ρ, M, env, at_, rel, q⟩
  refine tG.mono (tS_of (R := RepS Γ) (kk := fun _ x M => .ret x M) q') ?_
  rintro v H1 ⟨A, G1, ρ1, M1, env, dd, at1, rel1, r1, q1⟩
  exact q1 G1 ρ1 H1 v at1 rel1.toCore r1
theorem st_expr (hn : noComp x = true) (ha : PE X x (tE Γ E C a)) : PS X (.Expr x p) (tS1 Γ E C (.expr a)) := PS.imp (ps_expr ha (swap_plain hn)) fun D σ H q => by
  have q' : tSt (XPf Γ E) Γ (fun env M => .of (evE C a env M) fun _ M => .next env M) D σ H := by
    obtain ⟨A, G, ρ, M, env, at_, rel, q⟩ := q
    simp only [evS] at q
    exact ⟨A, G, ρ, M, env, at_, rel, q⟩
  refine tG.mono (tS_of (R := RepS Γ) (kk := fun env _ M => .next env M) q') ?_
  rintro v H1 ⟨A, G1, ρ1, M1, env, dd, at1, rel1, r1, q1⟩
  exact q1 G1 ρ1 σ H1 at1 rel1
theorem asg_end {i : Nat} (q : tS1 Γ E C (.asg (.nm i) a) D σ H) : tE Γ E C a σ H (fun v H1 => D.nx (σ.set i (some v)) H1) := by
  have q' : tSt (XPf Γ E) Γ (fun env M => .of (evE C a env M) fun x M => (match bindM M (.nm i) x env with | some env' => .next env' M | none => .stk)) D σ H := by
    obtain ⟨A, G, ρ, M, env, at_, rel, q⟩ := q
    simp only [evS] at q
    exact ⟨A, G, ρ, M, env, at_, rel, q⟩
  refine tG.mono (tS_of (R := RepS Γ) (kk := fun env x M => (match bindM M (.nm i) x env with | some env' => .next env' M | none => .stk)) q') ?_
  rintro v H1 ⟨A, G1, ρ1, M1, env, dd, at1, rel1, r1, q1⟩
  simp only [bindM, bindG] at q1
  split at q1
  · rename_i hi
    split at hi
    · cases hi
      exact q1 G1 ρ1 _ H1 at1 (rel1.setVal r1)
    · cases hi
  · exact q1.elim
theorem st_asg (TB : Tab Γ S C CX k) (h : XOk Γ S CX k c X E) {i : Nat} {n : Str} {p' : Pos} (h1 : at? S.N i n = true) (h2 : stB c.o n = true) (hn : noComp x = true) (ha : PE X x (tE Γ E C a)) : PS X (.Assign [.Name n p'] x p) (tS1 Γ E C (.asg (.nm i) a)) := by
  obtain ⟨e1, e2⟩ := at_ok h1
  obtain ⟨l1, l2⟩ := h.sto n h2
  exact PS.imp (ps_set (i := i) (by rw [h.N]; exact TB.nd) (by rw [h.N]; exact e1) l1 ha (swap_plain hn) l2) fun D σ H q => asg_end q
theorem st_asgC (TB : Tab Γ S C CX k) (h : XOk Γ S CX k c X E) {i : Nat} {n : Str} {p' : Pos} (h1 : at? S.N i n = true) (h2 : stB c.o n = true) (hn : c.sc.names.lookup n = some .cell) (ha : PE X x (tE Γ E C a)) : PS X (.Assign [.Name n p'] x p) (tS1 Γ E C (.asg (.nm i) a)) := by
  obtain ⟨e1, e2⟩ := at_ok h1
  obtain ⟨l1, l2⟩ := h.sto n h2
  exact PS.imp (ps_set (i := i) (by rw [h.N]; exact TB.nd) (by rw [h.N]; exact e1) l1 ha (swap_cell (by rw [h.sc]; exact hn)) l2) fun D σ H q => asg_end q
theorem bindGs_ln : ∀ {gs : List Mp.G} {ds : List Mp.D} {env env' : Env}, bindGs gs ds env = some env' → ds.length = gs.length
  | [], [], _, _, _ => rfl
  | [], _ :: _, _, _, h => by simp [bindGs] at h
  | _ :: _, [], _, _, h => by simp [bindGs] at h
  | g :: gs, d :: ds, env, env', h => by
    simp only [bindGs] at h
    cases e1 : bindG g d env with
    | none => rw [e1] at h; cases h
    | some env1 =>
      rw [e1] at h
      simp [bindGs_ln h]
/-- a row of targets takes it apart -/
theorem row_of (h : XOk Γ S CX k c X E) {gs : List Mp.G} {H0 : Hp} {v : V} {dd : Mp.D} {Q : L2.St → Hp → Prop} (rel : Rel Γ H0 G ρ M σ env H) (r : Rep Γ G ρ v dd) (e : bindM M (.tp gs) dd env = some env') (q : ∀ σ', Rel Γ H0 G ρ M σ' env' H → Q σ' H) :
    gTup X.K gs.length (tGts Γ gs) v σ H Q ∨ gUnl X.K gs.length (tGts Γ gs) v σ H Q := by
  unfold bindM at e
  cases r with
  | @tup ad xs ds hx rs =>
    simp only [unO, bindG] at e
    exact .inl ⟨ad, xs, rfl, by rw [h.K]; exact SqT.sub rel.gh hx.sq, by rw [rs.len]; exact bindGs_ln e, H0, G, ρ, M, env, ds, env', rel, rs, e, fun σ' _ rel' => q σ' rel'⟩
  | @lst ad xs ds hx rs =>
    simp only [unO, bindG] at e
    exact .inr ⟨ad, xs, rfl, by rw [h.K]; exact rel.gh.seq hx, by rw [rs.len]; exact bindGs_ln e, H0, G, ρ, M, env, ds, env', rel, rs, e, fun σ' _ rel' => q σ' rel'⟩
  | @obj n ad ea =>
    simp only [unO] at e
    split at e
    · rename_i ds em
      simp only [bindG] at e
      obtain ⟨us, hs, rs⟩ := lsAt rel.toCore X.K ea em
      exact .inr ⟨ad, us, rfl, hs, by rw [rs.len]; exact bindGs_ln e, H0, G, ρ, M, env, ds, env', rel, rs, e, fun σ' _ rel' => q σ' rel'⟩
    · simp [bindG] at e
  | _ => simp [unO, bindG] at e
theorem st_asgT (TB : Tab Γ S C CX k) (h : XOk Γ S CX k c X E) {gs : List Mp.G} {ts : List Expr} {n : Nat} {p' : Pos} (hc : chkGs S c gs ts = true) (hg : PGs X ts (tGts Γ gs)) (hn : noComp x = true) (hw : swappedStores [.Tuple ts n p'] x X.env = pure none) (ha : PE X x (tE Γ E C a)) :
    PS X (.Assign [.Tuple ts n p'] x p) (tS1 Γ E C (.asg (.tp gs) a)) := by
  refine PS.imp (ps_asg ha (pg_row h hc hg) (by unfold swapsWithSole; exact swap_plain hn) hw rfl) fun D σ H q => ?_
  have q' : tSt (XPf Γ E) Γ (fun env M => .of (evE C a env M) fun x M => (match bindM M (.tp gs) x env with | some env' => .next env' M | none => .stk)) D σ H := by
    obtain ⟨A, G, ρ, M, env, at_, rel, q⟩ := q
    simp only [evS] at q
    exact ⟨A, G, ρ, M, env, at_, rel, q⟩
  refine tG.mono (tS_of (R := RepS Γ) (kk := fun env x M => (match bindM M (.tp gs) x env with | some env' => .next env' M | none => .stk)) q') ?_
  rintro v H1 ⟨A, G1, ρ1, M1, env, dd, at1, rel1, r1, q1⟩
  cases e : bindM M1 (.tp gs) dd env with
  | none => rw [e] at q1; exact q1.elim
  | some env' =>
    rw [e] at q1
    exact row_of h rel1 r1 e fun σ' rel' => q1 G1 ρ1 σ' H1 at1 rel'
theorem st_star (TB : Tab Γ S C CX k) (h : XOk Γ S CX k c X E) {gs : List Mp.G} {i : Nat} {ts es : List Expr} {n : Nat} {p' : Pos} (hg : chkGs S c (gs ++ [.nm i]) es = true) (hu : unstar ts = some es) (hn : noComp x = true) (hw : swappedStores [.Tuple ts n p'] x X.env = pure none) (ha : PE X x (tE Γ E C a)) :
    PS X (.Assign [.Tuple ts n p'] x p) (tS1 Γ E C (.star gs i a)) := by
  obtain ⟨hne, hk⟩ := unstar_ok hu
  obtain ⟨k1, k2, k3⟩ := hk X.env
  have hl := (chkGs_star hg).2
  rw [List.length_append] at hl
  have hl1 : es.length = gs.length + 1 := by simpa using hl
  have hpg : PG X (.Tuple ts n p') (gStar X.K gs.length (tGts Γ (gs ++ [.nm i]))) := pg_star h.calm (sndGs h TB.nd _ _ hg) (by rw [k1, hl1]) k2 (by rw [k3, hl1]; rfl)
  refine PS.imp (ps_asg ha hpg (by unfold swapsWithSole; exact swap_plain hn) hw rfl) fun D σ H q => ?_
  have q' : tSt (XPf Γ E) Γ (fun env M => .of (evE C a env M) fun x M => (match starD gs i x env with | some env' => .next env' M | none => .stk)) D σ H := by
    obtain ⟨A, G, ρ, M, env, at_, rel, q⟩ := q
    simp only [evS] at q
    exact ⟨A, G, ρ, M, env, at_, rel, q⟩
  refine tG.mono (tS_of (R := RepS Γ) (kk := fun env x M => (match starD gs i x env with | some env' => .next env' M | none => .stk)) q') ?_
  rintro v H1 ⟨A, G1, ρ1, M1, env, dd, at1, rel1, r1, q1⟩
  cases r1 with
  | @tup b xs ds hx rs =>
    simp only [starD] at q1
    split at q1
    · rename_i env' e
      split at e
      · rename_i hle
        refine ⟨b, xs, rfl, h.K ▸ SqT.sub rel1.gh hx.sq, by rw [rs.len]; exact hle, fun L hL => ?_⟩
        have sg := sub_upd (o := HO.lst (xs.drop gs.length)) (rel1.toCore.fresh hL).2
        have st := Adv.alloc (o := HO.lst (xs.drop gs.length)) rel1.toCore hL
        have c2 := rel1.toCore.alloc (o := HO.lst (xs.drop gs.length)) hL
        have rel2 := rel1.adv st c2
        have rs2 := Reps.mono sg (Pre.refl _) rs
        exact ⟨A.H0, _, ρ1, M1, env, _, env', rel2, (rs2.take gs.length).append (.cons (.lst (.of upd_same) (rs2.drop gs.length)) .nil), e, fun σ' _ rel' => q1 _ ρ1 σ' _ (at1.step rel1.toCore st) rel'⟩
      · cases e
    · exact q1.elim
  | _ => exact q1.elim
theorem st_ifs {t : T} {as bs : List Mp.S} {xs ys : List Stmt} (ht : PT X z (tT Γ E C t)) (ha : PSs X xs (tSs Γ E C as)) (hb : PSs X ys (tSs Γ E C bs)) : PS X (.If z xs ys p) (tS1 Γ E C (.ifs t as bs)) := by
  refine PS.imp (ps_if ht ha hb) fun D σ H q => ?_
  have q' : tSt (XPf Γ E) Γ (fun env M => .of (evT C t env M) fun t M => if t = true then evSs C as env M else evSs C bs env M) D σ H := by
    obtain ⟨A, G, ρ, M, env, at_, rel, q⟩ := q
    simp only [evS] at q
    exact ⟨A, G, ρ, M, env, at_, rel, q⟩
  refine tG.mono (tS_of (R := RepEq Bool) (kk := fun env t M => if t = true then evSs C as env M else evSs C bs env M) q') ?_
  rintro v H1 ⟨A, G1, ρ1, M1, env, dd, at1, rel1, rfl, q1⟩
  cases v with
  | true => exact ⟨A, G1, ρ1, M1, env, at1, rel1, q1⟩
  | false => exact ⟨A, G1, ρ1, M1, env, at1, rel1, q1⟩

/-! ### lists of the frame's own -/
theorem Rel.setOwn {H0 : Hp} (r : Rel Γ H0 G ρ M σ env H) {i : Nat} {q : Addr} {vs : List V} {ds : List Mp.D} (hi : i < env.length) (h0 : H0 q = none) (hq : H q = none) (rs : Reps Γ G ρ vs ds) :
    Rel Γ H0 G ρ M (σ.set i (some (V.ref q))) (env.set i (Slot.own ds)) (upd H q (.lst vs)) := by
  have hf := r.toCore.fresh hq
  have r' := r.adv (Adv.laid (G := G) (ρ := ρ) (o := .lst vs) hq) (r.toCore.laid hq)
  have old : ∀ (j : Nat) (ad : Addr) (es : List Mp.D), env[j]? = some (Slot.own es) → σ[j]? = some (some (V.ref ad)) → ad ≠ q := by
    intro j ad es e1 e2 z
    obtain ⟨a', vs', f1, _, _, _, f2, _⟩ := r.sl j _ e1
    rw [e2] at f1
    cases f1
    rw [z, hq] at f2; cases f2
  refine ⟨r'.toCore, by simpa using r.slen, fun j s e => ?_, fun j l ad ds' es e1 e2 e3 e4 => ?_⟩
  · by_cases hj : i = j
    · subst hj
      rw [List.getElem?_set_self hi] at e
      cases e
      exact ⟨q, vs, List.getElem?_set_self (by rw [r.slen]; exact hi), hf.2, hf.1, h0, upd_same, rs⟩
    · rw [List.getElem?_set_ne hj] at e ⊢
      exact r'.sl j s e
  · by_cases h1 : i = j
    · by_cases h2 : i = l
      · exact h1.symm.trans h2
      · subst h1
        rw [List.getElem?_set_ne h2] at e2 e4
        rw [List.getElem?_set_self (by rw [r.slen]; exact hi)] at e3
        cases e3
        exact absurd rfl (old l _ es e2 e4)
    · by_cases h2 : i = l
      · subst h2
        rw [List.getElem?_set_ne h1] at e1 e3
        rw [List.getElem?_set_self (by rw [r.slen]; exact hi)] at e4
        cases e4
        exact absurd rfl (old j _ ds' e1 e3)
      · rw [List.getElem?_set_ne h1] at e1 e3
        rw [List.getElem?_set_ne h2] at e2 e4
        exact r.dis j l ad ds' es e1 e2 e3 e4
theorem At.fresh (a : At A G ρ H) (c : Core Γ G ρ M H) {q : Addr} (h : H q = none) : A.H0 q = none := by
  cases e : A.H0 q with
  | none => rfl
  | some o =>
    by_cases hq : q ∈ A.ρ0
    · obtain ⟨o', e'⟩ := c.there (a.adv.pp.mem hq)
      rw [h] at e'; cases e'
    · rw [a.adv.keep q o hq e] at h; cases h
theorem st_ownL (TB : Tab Γ S C CX k) (h : XOk Γ S CX k c X E) {i : Nat} {n : Str} {p' p2 : Pos} {es : Es} {xs : List Expr} (h1 : at? S.N i n = true) (h2 : stB c.o n = true) (hl : esLen es ≤ 1000) (ha : PA X xs (tEs Γ E C es)) :
    PS X (.Assign [.Name n p'] (.List xs p2) p) (tS1 Γ E C (.ownL i es)) := by
  obtain ⟨e1, e2⟩ := at_ok h1
  obtain ⟨l1, l2⟩ := h.sto n h2
  refine PS.imp (ps_set (i := i) (by rw [h.N]; exact TB.nd) (by rw [h.N]; exact e1) l1 (pe_lst ha) (swap_plain rfl) l2) fun D σ H q => ?_
  have q' : tSt (XPf Γ E) Γ (fun env M => .of (evEs C es env M) fun xs M => if i < env.length then .next (env.set i (.own xs)) M else .stk) D σ H := by
    obtain ⟨A, G, ρ, M, env, at_, rel, q⟩ := q
    simp only [evS] at q
    exact ⟨A, G, ρ, M, env, at_, rel, q⟩
  obtain ⟨A, G, ρ, M, env, at_, rel, q2⟩ := q'
  have q3 := PostS.of (R := RepLS Γ) at_ rel q2
  refine ⟨A.H0, G, ρ, M, env, rel, ?_⟩
  show Post _ _ _ _ _ _ (evEs C es env M) _
  cases e : evEs C es env M with
  | exc y M' => rw [e] at q3; exact q3
  | stk => rw [e] at q3; exact q3
  | ok ys M' =>
    rw [e] at q3
    intro G' ρ' H' vs st c2 hr
    obtain ⟨G1, ρ1, M1, ds, at1, rel1, r1, q4⟩ := q3 G' ρ' H' vs st c2 hr
    have hvl : vs.length = esLen es := by rw [Reps.len hr]; exact evEs_len es e
    refine ⟨small_line (by omega), fun ad hd => ?_⟩
    split at q4
    · rename_i hi
      exact q4 G1 ρ1 _ _ (at1.step rel1.toCore (Adv.laid hd)) (rel1.setOwn hi (at1.fresh rel1.toCore hd) hd r1)
    · exact q4.elim

theorem Rel.writeOwn {H0 : Hp} (r : Rel Γ H0 G ρ M σ env H) {i : Nat} {q : Addr} {vs : List V} {ds ds' : List Mp.D} (e : env[i]? = some (.own ds)) (eq : σ[i]? = some (some (V.ref q))) (rs : Reps Γ G ρ vs ds') :
    Rel Γ H0 G ρ M σ (env.set i (Slot.own ds')) (upd H q (.lst vs)) := by
  have hi : i < env.length := (List.getElem?_eq_some_iff.mp e).1
  obtain ⟨ad, vs0, e1, g, n, h0, l, _⟩ := r.sl i _ e
  rw [eq] at e1
  cases e1
  refine ⟨⟨fun b o eb => ?_, r.off, r.nd, r.len, fun j o ad e1 e2 => ?_⟩, by simpa using r.slen, fun j s es => ?_, fun j l' ad ds1 ds2 e1 e2 e3 e4 => ?_⟩
  · have : b ≠ q := fun z => by rw [z, g] at eb; cases eb
    rw [upd_ne this]; exact r.gh b o eb
  · have : ad ≠ q := fun z => n (z ▸ List.mem_of_getElem? e2)
    exact ObRel.mono (Same.refl _) (Pre.refl _) (upd_ne this) (r.st j o ad e1 e2)
  · by_cases hj : i = j
    · subst hj
      rw [List.getElem?_set_self hi] at es
      cases es
      exact ⟨q, vs, eq, g, n, h0, upd_same, rs⟩
    · rw [List.getElem?_set_ne hj] at es
      have rj := r.sl j s es
      cases s with
      | non => trivial
      | val d => exact rj
      | own es' =>
        obtain ⟨ad, vs1, f1, f2, f3, f4, f5, f6⟩ := rj
        refine ⟨ad, vs1, f1, f2, f3, f4, ?_, f6⟩
        have : ad ≠ q := fun z => hj (r.dis i j q ds es' e es eq (z ▸ f1))
        rw [upd_ne this]; exact f5
  · have old : ∀ (m : Nat) (es : List Mp.D), (env.set i (Slot.own ds'))[m]? = some (.own es) → ∃ es', env[m]? = some (.own es') := by
      intro m es em
      by_cases hm : i = m
      · subst hm; exact ⟨_, e⟩
      · rw [List.getElem?_set_ne hm] at em; exact ⟨_, em⟩
    obtain ⟨x1, y1⟩ := old j ds1 e1
    obtain ⟨x2, y2⟩ := old l' ds2 e2
    exact r.dis j l' ad x1 x2 y1 y2 e3 e4
theorem Fz.upd {K0 : Hp} (f : Fz K0 H) {q : Addr} {u o : HO} (e : H q = some u) (n : ¬ isFrz u) : Fz K0 (upd H q o) := fun b o' fo eb => by
  have e1 := f b o' fo eb
  have : b ≠ q := fun z => by
    subst z
    rw [e] at e1; cases e1
    exact n fo
  rw [upd_ne this]; exact e1
theorem At.write (a : At A G ρ H) {q : Addr} {o u : HO} (h : A.H0 q = none) (e : H q = some u) (n : ¬ isFrz u) : At A G ρ (upd H q o) :=
  ⟨⟨a.adv.gg, a.adv.pp, a.adv.new, fun b o' n e => by rw [upd_ne (ne_of_none e h)]; exact a.adv.kp b o' n e, a.adv.gnew⟩, a.ga, a.pa, a.fz.upd e n⟩
theorem st_app (h : XOk Γ S CX k c X E) {i : Nat} {n : Str} {p1 p2 p3 : Pos} (h1 : at? S.N i n = true) (h2 : visB c.sc n = true) (hp : (p2.endLine == p3.line) = true) (hs : noStar x = true) (ha : PE X x (tE Γ E C a)) :
    PS X (.Expr (.Call (.Attribute (.Name n p1) "append" p2) [x] [] p3) p) (tS1 Γ E C (.app i a)) := by
  refine PS.imp (ps_expr (pe_bm PySem.F.plainAttrs_list PySem.F.slot_list_append PySem.F.type_list_append mt_append (pe_slot h h1 h2) (pa_cons ha pa_nil (star_of hs)) rfl (by rw [star_of hs]; rfl) hp (star_of hs) rfl) (swap_plain rfl)) fun D σ H q => ?_
  obtain ⟨A, G, ρ, M, env, at_, rel, q2⟩ := q
  simp only [evS] at q2
  cases es : env[i]? with
  | none => rw [es] at q2; exact q2.elim
  | some s =>
    rw [es] at q2
    cases s with
    | own ds =>
      have q3 := PostS.of (R := RepS Γ) at_ rel q2
      obtain ⟨ad, vs, e1, g, nn, h0, l, r⟩ := rel.sl i _ es
      refine ⟨.ref ad, e1, .inl ⟨rfl, vs, .of l⟩, A.H0, G, ρ, M, env, rel, Post.mono q3 ?_⟩
      rintro v1 H1 ⟨G1, ρ1, M1, dd, at1, rel1, r1, q4⟩
      obtain ⟨ad', vs', e1', g', nn', h0', l', r'⟩ := rel1.sl i _ es
      rw [e1] at e1'
      cases e1'
      split at q4
      · rename_i hlt
        refine ⟨ad, vs', v1, rfl, rfl, l', ?_, ?_⟩
        · rw [r'.len, sizeLine_eq]; unfold line at hlt; omega
        · exact q4 G1 ρ1 σ _ (at1.write h0' l' fun z => z) (rel1.writeOwn es e1 (r'.append (.cons r1 .nil)))
      · exact q4.elim
    | _ => exact q2.elim

theorem st_ext (h : XOk Γ S CX k c X E) {i : Nat} {n : Str} {p1 p2 p3 : Pos} (h1 : at? S.N i n = true) (h2 : visB c.sc n = true) (hp : (p2.endLine == p3.line) = true) (hs : noStar x = true) (ha : PE X x (tE Γ E C a)) :
    PS X (.Expr (.Call (.Attribute (.Name n p1) "extend" p2) [x] [] p3) p) (tS1 Γ E C (.ext i a)) := by
  refine PS.imp (ps_expr (pe_bm PySem.F.plainAttrs_list PySem.F.slot_list_extend PySem.F.type_list_extend mt_extA (pe_slot h h1 h2) (pa_cons ha pa_nil (star_of hs)) rfl (by rw [star_of hs]; rfl) hp (star_of hs) rfl) (swap_plain rfl)) fun D σ H q => ?_
  obtain ⟨A, G, ρ, M, env, at_, rel, q2⟩ := q
  simp only [evS] at q2
  cases es : env[i]? with
  | none => rw [es] at q2; exact q2.elim
  | some s =>
    rw [es] at q2
    cases s with
    | own ds =>
      have q3 := PostS.of (R := RepS Γ) at_ rel q2
      obtain ⟨ad, vs, e1, g, nn, h0, l, r⟩ := rel.sl i _ es
      refine ⟨.ref ad, e1, .inl ⟨rfl, vs, .of l⟩, A.H0, G, ρ, M, env, rel, Post.mono q3 ?_⟩
      rintro v1 H1 ⟨G1, ρ1, M1, dd, at1, rel1, r1, q4⟩
      obtain ⟨ad', vs', e1', g', nn', h0', l', r'⟩ := rel1.sl i _ es
      rw [e1] at e1'
      cases e1'
      have sq : ∀ ls, seqO dd = some ls → ∃ b zs, v1 = .ref b ∧ (SqL X.K H1 b zs ∨ SqT X.K H1 b zs) ∧ Reps Γ G1 ρ1 zs ls := by
        intro ls e
        cases r1 with
        | @tup b zs dz hz rz => cases e; exact ⟨b, zs, rfl, .inr (h.K ▸ SqT.sub rel1.gh hz.sq), rz⟩
        | @lst b zs dz hz rz => cases e; exact ⟨b, zs, rfl, .inl (h.K ▸ rel1.gh.seq hz), rz⟩
        | _ => cases e
      cases e2 : seqO dd with
      | none => rw [e2] at q4; exact q4.elim
      | some ls =>
        rw [e2] at q4
        simp only at q4
        obtain ⟨b, zs, rfl, hb, rz⟩ := sq ls e2
        split at q4
        · rename_i hlt
          refine ⟨ad, b, vs', zs, rfl, rfl, l', hb, ?_, ?_⟩
          · rw [r'.len, rz.len, sizeLine_eq]; unfold line at hlt; omega
          · exact q4 G1 ρ1 σ _ (at1.write h0' l' fun z => z) (rel1.writeOwn es e1 (r'.append rz))
        · exact q4.elim
    | _ => exact q2.elim

/-! ### x op= e -/
/-- t op= u of two tuples: nothing in place, the sum -/
theorem icat_road {M : Model} {A : Around} {E : Value → Shared → Prop} {s : Shared} {u v : Value} {Q : Value → Shared → Prop} (h1 : s.TypeIs u "tuple") (h2 : s.TypeIs v "tuple") (hc : wpAny M A (call (.builtin "tuple.__add__") [u, v]) Q E s) : wpAny M A (inplaceOp .Add u v) Q E s :=
  wpAny_inplaceOp_concat h1 h2 (am_miss_of_fast (by decide +kernel)) noFill_tuple_add seq_tuple_add hc
theorem iop_catA : OpR X (inplaceOp .Add) (rCatA X.K) := by
  intro pins s σ' H x y v u Q I rx ry ⟨a, b, xs, ys, ex, ey, ha, hb, hz, q0, q1, q2⟩
  subst ex ey
  cases rx
  cases ry
  obtain ⟨its, r1, ⟨⟨c1, d1, t1, l1⟩, o1, k1, n1, f1⟩, _⟩ := I.tuple ha
  obtain ⟨its2, r2, ⟨⟨c2, d2, t2, l2⟩, o2, k2, n2, f2⟩, _⟩ := I.tuple hb
  simp only at k1 f1 k2 f2
  subst k1 f1 k2 f2
  have road := fun Q E => @icat_road (model X.prog X.w) X.A E s (.ref a) (.ref b) Q ⟨_, o1, rfl⟩ ⟨_, o2, rfl⟩
  have e1 := r1.length
  have e2 := r2.length
  by_cases hx : its = []
  · refine road _ _ (call_meets PySem.F.slot_tuple_add ⟨_, o1, rfl⟩ PySem.F.entry_tuple_add (PySem.F.args_tuple_add_2 _ _) (PyProof.Rows.tuple_addW0 a b its.toArray its2.toArray n1 n2 d1 d2 l1 l2 (by simp [hx])) ⟨o1, o2, ?_⟩)
    exact ⟨.ref b, H, I, rfl, q0 (List.length_eq_zero_iff.mp (by rw [e1, hx]; rfl))⟩
  · have hx' : xs ≠ [] := fun z => hx (List.length_eq_zero_iff.mp (by rw [← e1, z]; rfl))
    by_cases hy : its2 = []
    · refine road _ _ (call_meets PySem.F.slot_tuple_add ⟨_, o1, rfl⟩ PySem.F.entry_tuple_add (PySem.F.args_tuple_add_2 _ _) (PyProof.Rows.tuple_addW1 a b its.toArray its2.toArray n1 n2 d1 d2 l1 l2 (by simpa using hx) (by simp [hy])) ⟨o1, o2, ?_⟩)
      exact ⟨.ref a, H, I, rfl, q1 hx' (List.length_eq_zero_iff.mp (by rw [e2, hy]; rfl))⟩
    · have hy' : ys ≠ [] := fun z => hy (List.length_eq_zero_iff.mp (by rw [← e2, z]; rfl))
      refine road _ _ (call_meets PySem.F.slot_tuple_add ⟨_, o1, rfl⟩ PySem.F.entry_tuple_add (PySem.F.args_tuple_add_2 _ _) (PyProof.Rows.tuple_addW2 a b its.toArray its2.toArray n1 n2 d1 d2 l1 l2 (by simpa using hx) (by simpa using hy) (by rw [List.size_toArray, List.size_toArray]; omega)) ⟨o1, o2, ?_⟩)
      have ea : its.toArray ++ its2.toArray = (its ++ its2).toArray := by simp
      rw [ea]
      refine ⟨.ref s.heap.objs.size, _, I.laid (t' := s.toks) (o := .tup (xs ++ ys)) (fun b o z => Heap.get?_push_of_some _ z) (Nat.le_refl _) ?_, rfl, q2 hx' hy' _ (I.hok.fresh (Nat.le_refl _))⟩
      exact ⟨by rw [List.length_append]; exact hz, _, r1.append r2, PyProof.Rows.IsTup.new _ _⟩
theorem ip_bin {G : Hp} {ρ : List Addr} {M : Sto} (o : Bop) : PIp X (opB o) (fun x y H Q => ∃ G ρ M a b, Core Γ G ρ M H ∧ Γ.K = X.K ∧ Rep Γ G ρ x a ∧ Rep Γ G ρ y b ∧ (((∃ i j, a = .int i ∧ b = .int j) ∧ AugOk o = true) ∨ ((∃ i j, a = .tup i ∧ b = .tup j) ∧ AugT o = true)) ∧ Post XE (RepS Γ) Γ G ρ H (binD o a b M) Q) := by
  intro pins s σ' H x y v u Q I rx ry h
  obtain ⟨G, ρ, M, a, b, rel, hK, ra, rb, hh, p⟩ := h
  rcases hh with ⟨⟨i, j, rfl, rfl⟩, ho⟩ | ⟨⟨ds, es, rfl, rfl⟩, ho⟩
  · cases ra
    cases rb
    cases o with
    | add => exact iop_add pins s σ' H _ _ v u Q I rx ry ⟨i, j, rfl, rfl, Post.now rel p (.int _)⟩
    | sub => exact iop_sub pins s σ' H _ _ v u Q I rx ry ⟨i, j, rfl, rfl, Post.now rel p (.int _)⟩
    | _ => cases ho
  · cases ra with
    | @tup ta xs _ hx rds => cases rb with
      | @tup tb ys _ hy res => cases o with
        | add =>
          simp only [binD] at p
          by_cases hl : ds.length + es.length ≤ line
          · rw [if_pos hl] at p
            refine iop_catA pins s σ' H _ _ v u Q I rx ry ⟨ta, tb, xs, ys, rfl, rfl, hK ▸ SqT.sub rel.gh hx.sq, hK ▸ SqT.sub rel.gh hy.sq, by rw [rds.len, res.len]; exact line_le hl, fun e => ?_, fun e e2 => ?_, fun e e2 q hq => ?_⟩
            · subst e
              have := rds.nilL; subst this
              exact Post.now rel p (.tup hy res)
            · subst e2
              have := res.nilL; subst this
              rw [List.append_nil] at p
              exact Post.now rel p (.tup hx rds)
            · have sg := sub_upd (o := HO.tup (xs ++ ys)) (rel.fresh hq).2
              exact Post.new rel p hq (.tup (.inl upd_same) ((Reps.mono sg (Pre.refl _) rds).append (Reps.mono sg (Pre.refl _) res)))
          · rw [if_neg hl] at p; exact p.elim
        | _ => cases ho
theorem st_aug (TB : Tab Γ S C CX k) (h : XOk Γ S CX k c X E) {i : Nat} {n : Str} {o : Bop} {p' : Pos} (h1 : at? S.N i n = true) (h2 : stB c.o n = true) (ha : PE X x (tE Γ E C a)) : PS X (.AugAssign (.Name n p') (opB o) x p) (tS1 Γ E C (.aug i o a)) := by
  obtain ⟨e1, e2⟩ := at_ok h1
  obtain ⟨l1, l2⟩ := h.sto n h2
  refine PS.imp (ps_aug (i := i) (by rw [h.N]; exact TB.nd) (by rw [h.N]; exact e1) l1 ha (ip_bin (Γ := Γ) (XE := XPf Γ E) (G := fun _ => none) (ρ := []) (M := []) o) l2) fun D σ H q => ?_
  obtain ⟨A, G, ρ, M, env, at_, rel, q2⟩ := q
  simp only [evS] at q2
  cases es : env[i]? with
  | none => rw [es] at q2; exact q2.elim
  | some s =>
    rw [es] at q2
    cases s with
    | val d0 =>
      obtain ⟨v0, f1, f2⟩ := rel.sl i _ es
      refine ⟨v0, f1, A.H0, G, ρ, M, env, rel, Post.mono (PostS.of (R := RepS Γ) at_ rel q2) ?_⟩
      rintro v1 H1 ⟨G1, ρ1, M1, dd, at1, rel1, r1, q4⟩
      obtain ⟨v0', f1', f2'⟩ := rel1.sl i _ es
      rw [f1] at f1'
      cases f1'
      cases d0 with
      | int i0 =>
        cases dd with
        | int j0 =>
          by_cases ho : AugOk o = true
          · simp only [if_pos ho] at q4
            refine ⟨G1, ρ1, M1, _, _, rel1.toCore, h.K.symm, f2', r1, .inl ⟨⟨i0, j0, rfl, rfl⟩, ho⟩, Post.mono (PostS.of (R := RepS Γ) at1 rel1 q4) ?_⟩
            rintro v2 H2 ⟨G2, ρ2, M2, d2, at2, rel2, r2, q5⟩
            exact q5 G2 ρ2 _ H2 at2 (rel2.setVal r2)
          · simp only [if_neg ho] at q4; exact q4.elim
        | _ => exact q4.elim
      | tup i0 =>
        cases dd with
        | tup j0 =>
          by_cases ho : AugT o = true
          · simp only [if_pos ho] at q4
            have eo : o = .add := by cases o <;> first | rfl | cases ho
            subst eo
            refine ⟨G1, ρ1, M1, _, _, rel1.toCore, h.K.symm, f2', r1, .inr ⟨⟨i0, j0, rfl, rfl⟩, ho⟩, Post.mono (PostS.of (R := RepS Γ) at1 rel1 q4) ?_⟩
            rintro v2 H2 ⟨G2, ρ2, M2, d2, at2, rel2, r2, q5⟩
            exact q5 G2 ρ2 _ H2 at2 (rel2.setVal r2)
          · simp only [if_neg ho] at q4; exact q4.elim
        | _ => exact q4.elim
      | _ => exact q4.elim
    | _ => exact q2.elim

/-! ### a list of the frame's own made of a new one -/
theorem of_bind {α β : Type} (r : Res α) (f : α → Sto → Res β) (g : β → Sto → SRes) : SRes.of (r.bind f) g = SRes.of r fun x M => SRes.of (f x M) g := by
  cases r <;> rfl
/-- what stands behind the new list -/
theorem own_new {i : Nat} {q : Addr} {vs : List V} {ds : List Mp.D} (at1 : At A G ρ H) (rel : Rel Γ A.H0 G ρ M σ env H) (hq : H q = none) (rs : Reps Γ G ρ vs ds)
    (q4 : PostS XE Γ A (if i < env.length then .next (env.set i (.own ds)) M else .stk) D) : D.nx (σ.set i (some (V.ref q))) (upd H q (.lst vs)) := by
  split at q4
  · rename_i hi
    exact q4 G ρ _ _ (at1.step rel.toCore (Adv.laid hq)) (rel.setOwn hi (at1.fresh rel.toCore hq) hq rs)
  · exact q4.elim
theorem st_ownFA (TB : Tab Γ S C CX k) (h : XOk Γ S CX k c X E) {i : Nat} {n : Str} {p' p2 : Pos} (h1 : at? S.N i n = true) (h2 : stB c.o n = true) (ha : PE X x (tE Γ E C a)) (hb : PE X y (tE Γ E C b)) :
    PS X (.Assign [.Name n p'] (.BinOp x .Add y p2) p) (tS1 Γ E C (.ownF i (.bin .add a b))) := by
  obtain ⟨e1, e2⟩ := at_ok h1
  obtain ⟨l1, l2⟩ := h.sto n h2
  refine PS.imp (ps_set (i := i) (by rw [h.N]; exact TB.nd) (by rw [h.N]; exact e1) l1 (pe_op op_catL ha hb) (swap_plain rfl) l2) fun D σ H q => ?_
  obtain ⟨A, G, ρ, M, env, at_, rel, q⟩ := q
  simp only [evS, evE] at q
  rw [of_bind] at q
  refine ⟨A.H0, G, ρ, M, env, rel, Post.mono (PostS.of (R := RepS Γ) at_ rel q) ?_⟩
  rintro v1 H1 ⟨G1, ρ1, M1, d1, at1, rel1, r1, q3⟩
  rw [of_bind] at q3
  have q3' := PostS.of (R := RepS Γ) at1 rel1 q3
  refine ⟨A.H0, G1, ρ1, M1, env, rel1, ?_⟩
  show Post _ _ _ _ _ _ (evE C b env M1) _
  cases e : evE C b env M1 with
  | exc z M' => rw [e] at q3'; exact q3'
  | stk => rw [e] at q3'; exact q3'
  | ok d2 M' =>
    rw [e] at q3'
    rw [e] at q3
    simp only [SRes.of_ok] at q3
    intro G' ρ' H' v2 st c2 hr
    have rel2 := rel1.adv st c2
    have at2 := at1.step rel1.toCore st
    have r1' := Rep.mono st.gg st.pp r1
    cases r1' with
    | @lst ta xs ds hx rds => cases hr with
      | @lst tb ys es hy res =>
        simp only [binD] at q3
        by_cases hl : ds.length + es.length ≤ line
        · rw [if_pos hl] at q3
          simp only [SRes.of_ok] at q3
          refine ⟨ta, tb, xs, ys, rfl, rfl, h.K ▸ rel2.gh.seq hx, h.K ▸ rel2.gh.seq hy, by rw [rds.len, res.len]; exact line_le hl, fun ad hd => ?_⟩
          exact own_new at2 rel2 hd (rds.append res) q3
        · rw [if_neg hl] at q3; exact q3.elim
      | int _ =>
        simp only [binD] at q3
        exact q3.elim
      | _ => exact q3.elim
    | int _ => cases hr with
      | int _ =>
        simp only [binD, binI] at q3
        exact q3.elim
      | _ => exact q3.elim
    | tup _ _ => cases hr with
      | tup _ _ =>
        simp only [binD] at q3
        split at q3 <;> exact q3.elim
      | int _ =>
        simp only [binD] at q3
        exact q3.elim
      | _ => exact q3.elim
    | str _ => cases hr with
      | str _ =>
        simp only [binD] at q3
        split at q3 <;> exact q3.elim
      | int _ =>
        simp only [binD] at q3
        exact q3.elim
      | _ => exact q3.elim
    | _ => exact q3.elim
/-- x = list(y): a copy that is the frame's own -/
theorem st_ownC (TB : Tab Γ S C CX k) (h : XOk Γ S CX k c X E) {i : Nat} {n : Str} {p' p2 p3 : Pos} (h1 : at? S.N i n = true) (h2 : stB c.o n = true) (h3 : S.bn.contains "list" = true) (h4 : glB c.sc "list" = true) (hs : noStar y = true) (ha : PE X y (tP Γ E C a)) :
    PS X (.Assign [.Name n p'] (.Call (.Name "list" p2) [y] [] p3) p) (tS1 Γ E C (.ownC i a)) := by
  obtain ⟨e1, e2⟩ := at_ok h1
  obtain ⟨l1, l2⟩ := h.sto n h2
  have hg : Gl X "list" := by show X.env.scope.names.lookup _ = _; rw [h.sc]; exact gl_ok h4
  have hm : X.mg "list" = none := by rw [h.mg]; exact TB.blt _ (by simpa using h3)
  refine PS.imp (ps_set (i := i) (by rw [h.N]; exact TB.nd) (by rw [h.N]; exact e1) l1 (pe_callTy call_list_of hg hm (by decide +kernel) (pa_cons ha pa_nil (star_of hs)) (by decide) (by decide) (star_of hs) (by rfl)) (swap_plain rfl) l2) fun D σ H q => ?_
  obtain ⟨A, G, ρ, M, env, at_, rel, q⟩ := q
  simp only [evS] at q
  refine ⟨A.H0, G, ρ, M, env, rel, Post.mono (PostS.of (R := RepP Γ) at_ rel q) ?_⟩
  rintro v1 H1 ⟨G1, ρ1, M1, d1, at1, rel1, r1, q3⟩
  cases d1 with
  | tup ds =>
    obtain ⟨b, vs, rfl, hs, rs⟩ := r1.tup rel1.gh
    exact ⟨b, vs, rfl, .inr (h.K ▸ hs), fun ad hd => own_new at1 rel1 hd rs q3⟩
  | lst ds =>
    obtain ⟨b, vs, rfl, hs, rs⟩ := r1.lst rel1.gh
    exact ⟨b, vs, rfl, .inl (h.K ▸ hs), fun ad hd => own_new at1 rel1 hd rs q3⟩
  | _ => exact q3.elim
end
end Mp
end

section
set_option Elab.async false
set_option linter.all false
set_option maxRecDepth 100000
/-! Statements: pairs, stores into dicts, loops. -/
namespace Mp
open PySem PySem.Spec L2
section
variable {Γ : Cfg} {S : Sta} {C : Cal} {CX : CXT} {k : Nat} {c : SC} {X : Cx} {E : XK} {x y z tg : Expr} {p : Pos} {a b d : Mp.E}
  {A : Anc} {G G' : Hp} {ρ ρ' : List Addr} {M M' : Sto} {σ σ' : L2.St} {env env' : Env} {H H' : Hp} {D : Ends} {XE : XW}

/-! ### a, b = x, y -/
theorem swap_two {n1 n2 : Str} {p1 p2 pt pt2 : Pos} {kt k2 : Nat} {env : PySem.Env} (hk : env.scope.kind = .function) (h1 : env.scope.names.lookup n1 = some .local) (h2 : env.scope.names.lookup n2 = some .local) (hp : p1.line = p2.line) (hn : n1 ≠ n2)
    (hs : noStar x = true) (hs2 : noStar y = true) (hf : (foldedForSure 8 x && foldedForSure 8 y) = false) (hc : (constantsAlone 8 x && constantsAlone 8 y) = false) :
    swappedStores [.Tuple [.Name n1 p1, .Name n2 p2] kt pt] (.Tuple [x, y] k2 pt2) env = pure (some [n1, n2]) := by
  have ka : env.kindOf n1 = some .local := h1
  have kb : env.kindOf n2 = some .local := h2
  have kk : env.blockKind = .function := by unfold Env.blockKind; rw [hk]; rfl
  have st : ([x, y].any fun | .Starred .. => true | _ => false) = false := by
    have e1 : ∀ {w : Expr}, noStar w = true → (match w with | .Starred .. => true | _ => false) = false := by intro w h; cases w <;> first | rfl | cases h
    simp only [List.any_cons, List.any_nil, Bool.or_false]
    rw [Bool.or_eq_false_iff]
    exact ⟨e1 hs, e1 hs2⟩
  unfold swappedStores
  have hl : (p1.line == ((some (Expr.Name n1 p1)).map (·.pos.line)).getD 0) = true := by simp [Expr.pos]
  simp [kk, st, ka, kb, Expr.pos, hp, hn, hf, hc]
  have e2 : [n1, n2].eraseDups.length = 2 := by
    have hb : (n2 == n1) = false := beq_eq_false_iff_ne.mpr fun e => hn e.symm
    simp [List.eraseDups_cons, hb]
  rw [if_neg (by
    rintro (h | h)
    · cases x <;> first | exact Bool.noConfusion hs | exact Bool.noConfusion h
    · cases y <;> first | exact Bool.noConfusion hs2 | exact Bool.noConfusion h), if_pos e2]
theorem st_par (TB : Tab Γ S C CX k) (h : XOk Γ S CX k c X E) {i j : Nat} {n1 n2 : Str} {p1 p2 pt pt2 : Pos} {kt k2 : Nat} (g1 : at? S.N i n1 = true) (g2 : at? S.N j n2 = true) (hij : i ≠ j) (hk : c.sc.kind = .function) (h1 : c.sc.names.lookup n1 = some .local)
    (h2 : c.sc.names.lookup n2 = some .local) (hp : p1.line = p2.line) (hn : n1 ≠ n2) (hs : noStar x = true) (hs2 : noStar y = true) (hf : (foldedForSure 8 x && foldedForSure 8 y) = false) (hc : (constantsAlone 8 x && constantsAlone 8 y) = false)
    (ha : PE X x (tE Γ E C a)) (hb : PE X y (tE Γ E C b)) : PS X (.Assign [.Tuple [.Name n1 p1, .Name n2 p2] kt pt] (.Tuple [x, y] k2 pt2) p) (tS1 Γ E C (.par i j a b)) := by
  obtain ⟨e1, _⟩ := at_ok g1
  obtain ⟨e2, _⟩ := at_ok g2
  refine PS.imp (ps_par (i := i) (j := j) h.calm (by rw [h.N]; exact TB.nd) (by rw [h.N]; exact e1) (by rw [h.N]; exact e2) hij (by rw [h.sc]; exact h1) (by rw [h.sc]; exact h2) (pa_cons ha (pa_cons hb pa_nil (star_of hs2)) (star_of hs))
    (swap_two (by rw [h.sc]; exact hk) (by rw [h.sc]; exact h1) (by rw [h.sc]; exact h2) hp hn hs hs2 hf hc) (by unfold swapsWithSole; exact swap_plain rfl)) fun D σ H q => ?_
  obtain ⟨A, G, ρ, M, env, at_, rel, q2⟩ := q
  simp only [evS] at q2
  refine ⟨A.H0, G, ρ, M, env, rel, Post.mono (PostS.of (R := RepS Γ) at_ rel q2) ?_⟩
  rintro v1 H1 ⟨G1, ρ1, M1, d1, at1, rel1, r1, q3⟩
  refine ⟨A.H0, G1, ρ1, M1, env, rel1, ?_⟩
  show Post _ _ _ _ _ _ (evE C b env M1) _
  cases e : evE C b env M1 with
  | exc y M' => rw [e] at q3; exact fun G' ρ' H' st c2 => q3 G' ρ' H' (at1.step rel1.toCore st) c2
  | stk => rw [e] at q3; exact q3
  | ok dd M' =>
    rw [e] at q3
    intro G' ρ' H' v2 st c2 hr
    have rel2 := rel1.adv st c2
    refine ⟨v1, v2, rfl, ?_⟩
    exact q3 G' ρ' _ H' (at1.step rel1.toCore st) ((rel2.setVal (i := i) (Rep.mono st.gg st.pp r1)).setVal (i := j) hr)

/-! ### d[k] = e -/
theorem Rel.setOb {H0 : Hp} (r : Rel Γ H0 G ρ M σ env H) {n : Nat} {q : Addr} {o' : Ob} {ho : HO} (eq : ρ[n]? = some q) (hn : n < M.length) (e1 : ObRel Γ G ρ (upd H q ho) q o') : Rel Γ H0 G ρ (M.set n o') σ env (upd H q ho) := by
  have hq : q ∈ ρ := List.mem_of_getElem? eq
  refine ⟨⟨fun b o eb => ?_, r.off, r.nd, by simpa using r.len, fun j o ad f1 f2 => ?_⟩, r.slen, fun j s es => ?_, r.dis⟩
  · have : b ≠ q := fun z => by rw [z, r.off q hq] at eb; cases eb
    rw [upd_ne this]; exact r.gh b o eb
  · by_cases hj : n = j
    · subst hj
      rw [List.getElem?_set_self hn] at f1
      cases f1
      rw [eq] at f2
      cases f2
      exact e1
    · rw [List.getElem?_set_ne hj] at f1
      have : ad ≠ q := fun z => by
        subst z
        exact hj ((List.getElem?_inj (List.getElem?_eq_some_iff.mp eq).1 r.nd).mp (eq.trans f2.symm))
      exact ObRel.mono (Same.refl _) (Pre.refl _) (upd_ne this) (r.st j o ad f1 f2)
  · have rj := r.sl j s es
    cases s with
    | non => trivial
    | val d => exact rj
    | own ds =>
      obtain ⟨ad, vs1, g1, g2, g3, g4, g5, g6⟩ := rj
      have : ad ≠ q := fun z => g3 (z ▸ hq)
      exact ⟨ad, vs1, g1, g2, g3, g4, by rw [upd_ne this]; exact g5, g6⟩
theorem At.store (a : At A G ρ H) (c : Core Γ G ρ M H) {q : Addr} {o u : HO} (hq : q ∈ ρ) (hu : H q = some u) (nf : ¬ isFrz u) : At A G ρ (upd H q o) := by
  refine ⟨⟨a.adv.gg, a.adv.pp, a.adv.new, fun b o' n e => ?_, a.adv.gnew⟩, a.ga, a.pa, a.fz.upd hu nf⟩
  have : b ≠ q := fun z => by
    subst z
    rcases n with n | n
    · rw [a.adv.new b hq n] at e; cases e
    · have e1 := a.adv.kp b o' (.inr n) e
      rw [hu] at e1; cases e1
      exact nf n
  rw [upd_ne this]; exact a.adv.kp b o' n e
def rDPut : V → V → V → Hp → (Hp → Prop) → Prop := fun o i v H Q => ∃ q H4, o = .ref q ∧ DPut H q i v H4 ∧ Q H4
theorem set_dict (hu : X.A.units + 1 < cLine) : PSet X rDPut := by
  intro pins s σ H o i v ov iv u Q I ro ri rv h
  obtain ⟨q, H4, rfl, g, q⟩ := h
  obtain rfl : ov = Value.ref _ := ro
  exact d_setItem hu I g ri rv fun s4 I4 => ⟨H4, I4, q⟩
theorem PSet.or {t t' : TSet} (h : PSet X t) (h' : PSet X t') : PSet X (fun o i v H Q => t o i v H Q ∨ t' o i v H Q) := by
  intro pins s σ H o i v ov iv u Q I ro ri rv hw
  exact hw.elim (h pins s σ H o i v ov iv u Q I ro ri rv) (h' pins s σ H o i v ov iv u Q I ro ri rv)
theorem sub_ix {i : Expr} {p' : Pos} (h : noSlc y = true) : ∀ v, assign (.Subscript x y p') X.env v = (do
      let ov ← holding [v] (eval x X.env)
      let iv ← holding [v, ov] (eval y X.env)
      standAt p'
      holding [v, ov, iv] (setItem ov iv v)
      release [v, ov, iv] []) := by
  intro v
  cases y <;> first | rfl | cases h
theorem st_setd (h : XOk Γ S CX k c X E) {p' : Pos} (hn : noComp z = true) (hs : noSlc y = true) (hz : PE X z (tE Γ E C d)) (hx : PE X x (tE Γ E C a)) (hy : PE X y (tE Γ E C b)) :
    PS X (.Assign [.Subscript x y p'] z p) (tS1 Γ E C (.setd a b d)) := by
  refine PS.imp (ps_asg hz (pg_sub hx hy (PSet.or (set_dict (hu_of h.room)) set_list) (sub_ix (i := y) hs)) (by unfold swapsWithSole; exact swap_plain hn) rfl rfl) fun D σ H q => ?_
  obtain ⟨A, G, ρ, M, env, at_, rel, q2⟩ := q
  simp only [evS] at q2
  refine ⟨A.H0, G, ρ, M, env, rel, ?_⟩
  show Post _ _ _ _ _ _ (evE C d env M) _
  cases e : evE C d env M with
  | exc y M' => rw [e] at q2; exact fun G' ρ' H' st c2 => q2 G' ρ' H' (at_.step rel.toCore st) c2
  | stk => rw [e] at q2; exact q2
  | ok dv M1 =>
    rw [e, SRes.of_ok] at q2
    intro G1 ρ1 H1 v st c1 rv
    have rel1 := rel.adv st c1
    have at1 := at_.step rel.toCore st
    refine ⟨A.H0, G1, ρ1, M1, env, rel1, ?_⟩
    show Post _ _ _ _ _ _ (evE C a env M1) _
    cases e2 : evE C a env M1 with
    | exc y M' => rw [e2] at q2; exact fun G' ρ' H' st c2 => q2 G' ρ' H' (at1.step rel1.toCore st) c2
    | stk => rw [e2] at q2; exact q2
    | ok da M2 =>
      rw [e2, SRes.of_ok] at q2
      intro G2 ρ2 H2 va st2 c2 ra
      have rel2 := rel1.adv st2 c2
      have at2 := at1.step rel1.toCore st2
      refine ⟨A.H0, G2, ρ2, M2, env, rel2, ?_⟩
      show Post _ _ _ _ _ _ (evE C b env M2) _
      cases e3 : evE C b env M2 with
      | exc y M' => rw [e3] at q2; exact fun G' ρ' H' st c2 => q2 G' ρ' H' (at2.step rel2.toCore st) c2
      | stk => rw [e3] at q2; exact q2
      | ok db M3 =>
        rw [e3, SRes.of_ok] at q2
        intro G3 ρ3 H3 vb st3 c3 rb
        have rel3 := rel2.adv st3 c3
        have at3 := at2.step rel2.toCore st3
        cases ra with
        | @obj n q eq =>
          simp only at q2
          have eq3 := st3.pp _ _ eq
          have rv3 : Rep Γ G3 ρ3 v dv := Rep.mono (st2.gg.trans st3.gg) (st2.pp.trans st3.pp) rv
          cases es : stor M3 n db dv with
          | none => rw [es] at q2; exact q2.elim
          | some M' =>
            rw [es] at q2
            obtain ⟨o', ho, dp, em, hn3, ⟨u0, hu0, nf0⟩, ob⟩ := stor_of h.nm rel3.toCore eq3 rb rv3 es
            subst em
            have fin := q2 G3 ρ3 σ _ (at3.store c3 (List.mem_of_getElem? eq3) hu0 nf0) (rel3.setOb eq3 hn3 (ob _ upd_same))
            rcases dp with dp | ⟨xs, kk, j, rfl, e1, e2, rfl⟩
            · exact .inl ⟨q, _, rfl, dp, fin⟩
            · exact .inr ⟨q, xs, kk, j, rfl, rfl, e1, e2, fin⟩
        | _ => exact q2.elim

theorem st_appo (h : XOk Γ S CX k c X E) {p2 p3 : Pos} (hp : (p2.endLine == p3.line) = true) (hs : noStar y = true) (h4 : baseOk x = true) (ha : PE X x (tE Γ E C a)) (hb : PE X y (tE Γ E C b)) :
    PS X (.Expr (.Call (.Attribute x "append" p2) [y] [] p3) p) (tS1 Γ E C (.appo a b)) := by
  refine PS.imp (ps_expr (pe_bm PySem.F.plainAttrs_list PySem.F.slot_list_append PySem.F.type_list_append mt_append ha (pa_cons hb pa_nil (star_of hs)) (base_of h4) (by rw [star_of hs]; rfl) hp (star_of hs) rfl) (swap_plain rfl)) fun D σ H q => ?_
  have q' : tSt (XPf Γ E) Γ (fun env M => .of (evE C a env M) fun o M => (match o with
      | .obj n => if isLst M n = true then .of (evE C b env M) fun x M => (match apnd M n x with | some M' => .next env M' | none => .stk) else .stk
      | _ => .stk)) D σ H := by
    obtain ⟨A, G, ρ, M, env, at_, rel, q⟩ := q
    simp only [evS] at q
    exact ⟨A, G, ρ, M, env, at_, rel, q⟩
  refine tG.mono (tS_of (R := RepS Γ) (kk := fun env o M => (match o with
      | .obj n => if isLst M n = true then .of (evE C b env M) fun x M => (match apnd M n x with | some M' => .next env M' | none => .stk) else .stk
      | _ => .stk)) q') ?_
  rintro v H1 ⟨A, G1, ρ1, M1, env, dd, at1, rel1, r1, q1⟩
  cases r1 with
  | @obj n ad ea =>
    simp only at q1
    split at q1
    · rename_i hl
      have ty : tyV X.K "list" (.ref ad) H1 := by
        unfold isLst at hl
        split at hl
        · rename_i ds em
          obtain ⟨us, hs, _⟩ := lsAt rel1.toCore X.K ea em
          exact .inl ⟨rfl, us, hs⟩
        · cases hl
      refine ⟨ty, A.H0, G1, ρ1, M1, env, rel1, ?_⟩
      show Post _ _ _ _ _ _ (evE C b env M1) _
      cases e : evE C b env M1 with
      | exc y M' => rw [e] at q1; exact fun G' ρ' H' st c2 => q1 G' ρ' H' (at1.step rel1.toCore st) c2
      | stk => rw [e] at q1; exact q1
      | ok dv M2 =>
        rw [e, SRes.of_ok] at q1
        intro G2 ρ2 H2 v2 st c2 r2
        have rel2 := rel1.adv st c2
        have at2 := at1.step rel1.toCore st
        cases es : apnd M2 n dv with
        | none => rw [es] at q1; exact q1.elim
        | some M' =>
          rw [es] at q1
          have ea2 := st.pp _ _ ea
          obtain ⟨ds, us, hu, hz, em, hn, ob⟩ := apnd_of c2 ea2 r2 es
          subst em
          exact ⟨ad, us, v2, rfl, rfl, hu, hz, q1 G2 ρ2 σ _ (at2.store c2 (List.mem_of_getElem? ea2) hu fun z => z) (rel2.setOb ea2 hn (ob _ upd_same))⟩
    · exact q1.elim
  | _ => exact q1.elim

/-! ### loops -/
def dropBk (D : Ends) (N : L2.St → Hp → Prop) : Ends := { D with nx := N, ct := N, bk := D.nx }
theorem forL_turn {N : L2.St → Hp → Prop} {step : Mp.D → Env → Sto → SRes} {dd : Mp.D} {ds : List Mp.D} {env : Env} {M : Sto} (q : PostS XE Γ A (forL step (dd :: ds) env M) D)
    (hN : ∀ G' ρ' σ' H' env' M', At A G' ρ' H' → Rel Γ A.H0 G' ρ' M' σ' env' H' → PostS XE Γ A (forL step ds env' M') D → N σ' H') : PostS XE Γ A (step dd env M) { D with nx := N, ct := N, bk := D.nx } := by
  simp only [forL] at q
  cases e : step dd env M with
  | next env' M' => rw [e] at q; exact fun G' ρ' σ' H' a r => hN G' ρ' σ' H' env' M' a r q
  | cnt env' M' => rw [e] at q; exact fun G' ρ' σ' H' a r => hN G' ρ' σ' H' env' M' a r q
  | brk env' M' => rw [e] at q; exact q
  | ret d M' => rw [e] at q; exact q
  | exc x M' => rw [e] at q; exact q
  | stk => rw [e] at q; exact q
noncomputable def stepF (C : Cal) (g : Mp.G) (bs : List Mp.S) : Mp.D → Env → Sto → SRes := fun d env M => match bindG g d env with | some env' => evSs C bs env' M | none => .stk
theorem PostS.anc {A A' : Anc} {r : SRes} (mv : ∀ {G' ρ' H'}, At A' G' ρ' H' → At A G' ρ' H') (h0 : A'.H0 = A.H0) (q : PostS XE Γ A r D) : PostS XE Γ A' r D := by
  cases r with
  | next env' M' => exact fun G' ρ' σ' H' a r => q G' ρ' σ' H' (mv a) (h0 ▸ r)
  | cnt env' M' => exact fun G' ρ' σ' H' a r => q G' ρ' σ' H' (mv a) (h0 ▸ r)
  | brk env' M' => exact fun G' ρ' σ' H' a r => q G' ρ' σ' H' (mv a) (h0 ▸ r)
  | ret d M' => exact fun G' ρ' H' v a => q G' ρ' H' v (mv a)
  | exc x M' => exact fun G' ρ' H' a => q G' ρ' H' (mv a)
  | stk => exact q
theorem st_forr (h : XOk Γ S CX k c X E) (hP : PassesOwn (model X.prog X.w) X.A X.env X.xe) {g : Mp.G} {it : Mp.It} {bs : List Mp.S} {iter : Expr} {body : List Stmt} (hset : noSet iter = true) (hi : PI X tg iter (tI Γ E C it)) (hg : PG X tg (tGt Γ g))
    (hb : PSs X body (tSs Γ E C bs)) : PS X (.For tg iter body [] p) (tS1 Γ E C (.forr g it bs)) := by
  refine PS.imp (ps_for hP h.calm hi hg hb (set_plain hset)) fun D σ H q => ?_
  obtain ⟨A, G, ρ, M, env, at_, rel, q2⟩ := q
  simp only [evS] at q2
  refine ⟨A.H0, G, ρ, M, env, rel, ?_⟩
  show Post _ _ _ _ _ _ (evI C it env M) _
  cases e : evI C it env M with
  | exc y M' => rw [e] at q2; exact fun G' ρ' H' st c2 => q2 G' ρ' H' (at_.step rel.toCore st) c2
  | stk => rw [e] at q2; exact q2
  | ok ds M1 =>
    rw [e, SRes.of_ok] at q2
    intro G1 ρ1 H1 J st c1 hJ
    obtain ⟨hlen, itok⟩ := hJ
    have rel1 := rel.adv st c1
    have at1 := at_.step rel.toCore st
    -- the anchor moves to the loop's head
    let A' : Anc := ⟨A.G0, A.ρ0, A.H0, G1, ρ1, H1⟩
    have q3 : PostS (XPf Γ E) Γ A' (forL (stepF C g bs) ds env M1) D := PostS.anc (A := A) (fun a => ⟨a.adv, at1.ga.trans a.ga, at1.pa.trans a.pa, at1.fz.trans a.fz⟩) rfl q2
    let B : Nat → L2.St → Hp → Prop := fun i σ H => ∃ G2 ρ2 M2 env2, At A' G2 ρ2 H ∧ Rel Γ A.H0 G2 ρ2 M2 σ env2 H ∧ PostS (XPf Γ E) Γ A' (forL (stepF C g bs) (ds.drop i) env2 M2) D
    refine ⟨fun i m σ H => m = ds.length - i ∧ i ≤ ds.length ∧ B i σ H, ⟨ds.length, by simp, Nat.zero_le _, G1, ρ1, M1, env, ⟨at1.adv, Same.refl _, Pre.refl _, Fz.refl _⟩, rel1, q3⟩, ?_⟩
    rintro i m σ2 H2 ⟨rfl, hi2, G2, ρ2, M2, env2, at2, rel2, q4⟩
    by_cases hlt : i < ds.length
    · obtain ⟨go, yld⟩ := (itok G2 ρ2 M2 H2 i at2.ga at2.pa at2.fz rel2.toCore).1 ds[i] (List.getElem?_eq_getElem hlt)
      refine .inr ⟨go, B (i + 1), fun σ' H' hb => ⟨ds.length - (i + 1), by omega, rfl, hlt, hb⟩, fun xv H3 hy => ?_⟩
      obtain ⟨G3, st3, c3, r3⟩ := yld xv H3 hy
      rw [List.drop_eq_getElem_cons hlt] at q4
      have q5 := forL_turn (N := B (i + 1)) q4 fun G' ρ' σ' H' env' M' a r q => ⟨G', ρ', M', env', a, r, q⟩
      simp only [stepF] at q5
      cases eb : bindG g ds[i] env2 with
      | none => rw [eb] at q5; exact q5.elim
      | some env3 =>
        rw [eb] at q5
        refine ⟨A.H0, G3, ρ2, M2, env2, ds[i], env3, rel2.adv st3 c3, r3, eb, fun σ' _ rel' => ?_⟩
        exact ⟨A', G3, ρ2, M2, env3, at2.step rel2.toCore st3, rel', q5⟩
    · have ei : i = ds.length := by omega
      refine .inl ⟨(itok G2 ρ2 M2 H2 i at2.ga at2.pa at2.fz rel2.toCore).2 (by omega), ?_⟩
      rw [ei, List.drop_length] at q4
      simp only [forL] at q4
      exact q4 G2 ρ2 σ2 H2 at2 rel2
theorem st_whil (h : XOk Γ S CX k c X E) (hP : PassesOwn (model X.prog X.w) X.A X.env X.xe) {t : T} {bs : List Mp.S} {body : List Stmt} (ht : PT X z (tT Γ E C t)) (hb : PSs X body (tSs Γ E C bs)) : PS X (.While z body [] p) (tS1 Γ E C (.whil t bs)) := by
  refine PS.imp (ps_while hP ht hb) fun D σ H q => ?_
  obtain ⟨A, G, ρ, M, env, at_, rel, q2⟩ := q
  simp only [evS] at q2
  unfold whileD at q2
  split at q2
  · rename_i hex
    obtain ⟨n, hn⟩ := hex.choose_spec
    generalize hex.choose = r at q2 hn
    refine ⟨fun m σ H => ∃ G ρ M env, At A G ρ H ∧ Rel Γ A.H0 G ρ M σ env H ∧ whileN (fun env M => evT C t env M) (fun env M => evSs C bs env M) m env M = some r, ⟨n, G, ρ, M, env, at_, rel, hn⟩, ?_⟩
    rintro m σ2 H2 ⟨G2, ρ2, M2, env2, at2, rel2, hm⟩
    cases m with
    | zero => simp [whileN] at hm
    | succ m =>
      simp only [whileN] at hm
      refine ⟨A.H0, G2, ρ2, M2, env2, rel2, ?_⟩
      show Post _ _ _ _ _ _ (evT C t env2 M2) _
      cases e : evT C t env2 M2 with
      | exc x M' =>
        rw [e] at hm
        cases hm
        exact fun G' ρ' H' st c2 => q2 G' ρ' H' (at2.step rel2.toCore st) c2
      | stk => rw [e] at hm; cases hm; exact q2
      | ok b M3 =>
        rw [e] at hm
        rintro G3 ρ3 H3 b' st c3 rfl
        have rel3 := rel2.adv st c3
        have at3 := at2.step rel2.toCore st
        cases b' with
        | false =>
          cases hm
          exact q2 G3 ρ3 σ2 H3 at3 rel3
        | true =>
          refine ⟨_, fun σ' H' hw => ⟨m, Nat.lt_succ_self m, hw⟩, A, G3, ρ3, M3, env2, at3, rel3, ?_⟩
          simp only at hm
          show PostS _ _ _ (evSs C bs env2 M3) _
          cases e2 : evSs C bs env2 M3 with
          | next env' M' => rw [e2] at hm; exact fun G' ρ' σ' H' a r' => ⟨G', ρ', M', env', a, r', hm⟩
          | cnt env' M' => rw [e2] at hm; exact fun G' ρ' σ' H' a r' => ⟨G', ρ', M', env', a, r', hm⟩
          | brk env' M' => rw [e2] at hm; cases hm; exact q2
          | ret d M' => rw [e2] at hm; cases hm; exact q2
          | exc x M' => rw [e2] at hm; cases hm; exact q2
          | stk => rw [e2] at hm; cases hm; exact q2
  · exact q2.elim
/-- a list of the frame's own from now on stands for good -/
theorem st_frz {st : Stmt} {i : Nat} {s : Mp.S} (hs : PS X st (tS1 Γ E C s)) : PS X st (tS1 Γ E C (.frz i s)) := by
  refine PS.imp hs fun D σ H q => ?_
  obtain ⟨A, G, ρ, M, env, at_, rel, q2⟩ := q
  simp only [evS] at q2
  cases es : env[i]? with
  | none => rw [es] at q2; exact q2.elim
  | some sl =>
    rw [es] at q2
    cases sl with
    | own ds =>
      obtain ⟨ad, vs, e1, g, nn, h0, l, r⟩ := rel.sl i _ es
      have hi : i < env.length := (List.getElem?_eq_some_iff.mp es).1
      have sg := sub_upd (o := HO.lst vs) g
      refine ⟨A, upd G ad (.lst vs), ρ, M, env.set i (.val (.lst ds)), ⟨⟨at_.adv.gg.trans sg, at_.adv.pp, at_.adv.new, at_.adv.kp, fun b e n => ?_⟩, at_.ga.trans sg, at_.pa, at_.fz⟩, ?_, q2⟩
      · have : b ≠ ad := fun z => by
          obtain ⟨o, ho, _⟩ := n
          rw [z, h0] at ho; cases ho
        rw [upd_ne this]; exact at_.adv.gnew b e n
      · refine ⟨⟨fun b o eb => ?_, fun q hq => ?_, rel.nd, rel.len, fun j o q f1 f2 => ObRel.mono sg (Pre.refl _) rfl (rel.st j o q f1 f2)⟩, by simpa using rel.slen, fun j s ej => ?_, fun j l' q ds1 ds2 f1 f2 f3 f4 => ?_⟩
        · by_cases hb : b = ad
          · subst hb; rw [upd_same] at eb; cases eb; exact l
          · rw [upd_ne hb] at eb; exact rel.gh b o eb
        · have : q ≠ ad := fun z => nn (z ▸ hq)
          rw [upd_ne this]; exact rel.off q hq
        · by_cases hj : i = j
          · subst hj
            rw [List.getElem?_set_self hi] at ej
            cases ej
            exact ⟨_, e1, .lst (.of upd_same) (Reps.mono sg (Pre.refl _) r)⟩
          · rw [List.getElem?_set_ne hj] at ej
            have rj := rel.sl j s ej
            cases s with
            | non => trivial
            | val d =>
              obtain ⟨v, f1, f2⟩ := rj
              exact ⟨v, f1, Rep.mono sg (Pre.refl _) f2⟩
            | own es' =>
              obtain ⟨a2, vs1, f1, f2, f3, f4, f5, f6⟩ := rj
              have : a2 ≠ ad := fun z => hj (rel.dis i j ad ds es' es ej e1 (z ▸ f1))
              exact ⟨a2, vs1, f1, by rw [upd_ne this]; exact f2, f3, f4, f5, Reps.mono sg (Pre.refl _) f6⟩
        · have h1 : i ≠ j := fun z => by subst z; rw [List.getElem?_set_self hi] at f1; cases f1
          have h2 : i ≠ l' := fun z => by subst z; rw [List.getElem?_set_self hi] at f2; cases f2
          rw [List.getElem?_set_ne h1] at f1
          rw [List.getElem?_set_ne h2] at f2
          exact rel.dis j l' q ds1 ds2 f1 f2 f3 f4
    | _ => exact q2.elim
end
end Mp
end

section
set_option Elab.async false
set_option linter.all false
set_option maxRecDepth 100000
/-! a, b, c = x, [], y -/
namespace Mp
open PySem PySem.Spec L2
section
variable {Γ : Cfg} {H0 Hs G G1 G' : Hp} {ρ ρ1 ρ' : List Addr} {σ : L2.St} {env : Env} {H H1 H' : Hp} {M M' : Sto}
structure SlotOk (Γ : Cfg) (H0 Hs G : Hp) (ρ : List Addr) (H : Hp) (v : V) (s : Slot) : Prop where
  sl : SlotRel Γ H0 G ρ H (some (some v)) s
  new : ∀ ds a, s = .own ds → v = .ref a → Hs a = none
structure RowOk (Γ : Cfg) (H0 Hs G : Hp) (ρ : List Addr) (H : Hp) (vs : List V) (ss : List Slot) : Prop where
  len : vs.length = ss.length
  sl : ∀ (i : Nat) (s : Slot) (v : V), ss[i]? = some s → vs[i]? = some v → SlotOk Γ H0 Hs G ρ H v s
  dis : ∀ (i j : Nat) (a : Addr) (ds es : List D), ss[i]? = some (.own ds) → ss[j]? = some (.own es) → vs[i]? = some (.ref a) → vs[j]? = some (.ref a) → i = j
theorem SlotOk.adv {v : V} {s : Slot} (a : Adv G ρ H G' ρ' H') (h : SlotOk Γ H0 Hs G ρ H v s) : SlotOk Γ H0 Hs G' ρ' H' v s := ⟨h.sl.adv a, h.new⟩
theorem back {b : Addr} (c : Core Γ G ρ M H) (a : Adv G ρ H G' ρ' H') (c' : Core Γ G' ρ' M' H') (h : H' b = none) : H b = none := by
  cases e : H b with
  | none => rfl
  | some o =>
    by_cases hb : b ∈ ρ
    · obtain ⟨o', e'⟩ := c'.there (a.pp.mem hb)
      rw [h] at e'; cases e'
    · rw [a.keep b o hb e] at h; cases h
theorem RowOk.nil : RowOk Γ H0 Hs G ρ H [] [] := ⟨rfl, fun i s v h => by simp at h, fun i j a ds es h => by simp at h⟩
/-- one more in front; the tail began at H1, where the head stood -/
theorem RowOk.cons {v : V} {s : Slot} {vs : List V} {ss : List Slot} (c : Core Γ G ρ M Hs) (a1 : Adv G ρ Hs G1 ρ1 H1) (c1 : Core Γ G1 ρ1 M' H1) (a2 : Adv G1 ρ1 H1 G' ρ' H') (h : SlotOk Γ H0 Hs G1 ρ1 H1 v s) (t : RowOk Γ H0 H1 G' ρ' H' vs ss) :
    RowOk Γ H0 Hs G' ρ' H' (v :: vs) (s :: ss) := by
  have hd : ∀ (j : Nat) (a : Addr) (ds es : List D), s = .own ds → v = .ref a → ss[j]? = some (.own es) → vs[j]? = some (.ref a) → False := by
    intro j a ds es e1 e2 e3 e4
    subst e1 e2
    obtain ⟨b, us, f1, _, _, _, f2, _⟩ := h.sl
    cases f1
    rw [(t.sl j _ _ e3 e4).new es a rfl rfl] at f2
    cases f2
  refine ⟨congrArg Nat.succ t.len, fun i s' v' e1 e2 => ?_, fun i j a ds es e1 e2 e3 e4 => ?_⟩
  · cases i with
    | zero => simp at e1 e2; subst e1 e2; exact h.adv a2
    | succ i =>
      have k := t.sl i s' v' (by simpa using e1) (by simpa using e2)
      exact ⟨k.sl, fun ds a f1 f2 => back c a1 c1 (k.new ds a f1 f2)⟩
  · cases i with
    | zero =>
      cases j with
      | zero => rfl
      | succ j => simp at e1 e2 e3 e4; exact (hd j a ds es e1 e3 e2 e4).elim
    | succ i =>
      cases j with
      | zero => simp at e1 e2 e3 e4; exact (hd i a es ds e2 e4 e1 e3).elim
      | succ j => exact congrArg Nat.succ (t.dis i j a ds es (by simpa using e1) (by simpa using e2) (by simpa using e3) (by simpa using e4))
theorem Rel.setSlot (r : Rel Γ H0 G ρ M σ env H) {i : Nat} {v : V} {s : Slot} (hi : i < env.length) (hs : SlotRel Γ H0 G ρ H (some (some v)) s)
    (hd : ∀ ds a, s = .own ds → v = .ref a → ∀ k es, k ≠ i → env[k]? = some (.own es) → σ[k]? ≠ some (some (.ref a))) : Rel Γ H0 G ρ M (σ.set i (some v)) (env.set i s) H := by
  refine ⟨r.toCore, by simpa using r.slen, fun j s' e => ?_, fun j l a ds es e1 e2 e3 e4 => ?_⟩
  · by_cases hj : i = j
    · subst hj
      rw [List.getElem?_set_self hi] at e
      cases e
      rw [List.getElem?_set_self (by rw [r.slen]; exact hi)]
      exact hs
    · rw [List.getElem?_set_ne hj] at e ⊢
      exact r.sl j s' e
  · by_cases h1 : i = j
    · by_cases h2 : i = l
      · exact h1.symm.trans h2
      · subst h1
        rw [List.getElem?_set_ne h2] at e2 e4
        rw [List.getElem?_set_self hi] at e1
        rw [List.getElem?_set_self (by rw [r.slen]; exact hi)] at e3
        cases e1
        cases e3
        exact absurd e4 (hd ds a rfl rfl l es (fun z => h2 z.symm) e2)
    · by_cases h2 : i = l
      · subst h2
        rw [List.getElem?_set_ne h1] at e1 e3
        rw [List.getElem?_set_self hi] at e2
        rw [List.getElem?_set_self (by rw [r.slen]; exact hi)] at e4
        cases e2
        cases e4
        exact absurd e3 (hd es a rfl rfl j ds (fun z => h1 z.symm) e1)
      · rw [List.getElem?_set_ne h1] at e1 e3
        rw [List.getElem?_set_ne h2] at e2 e4
        exact r.dis j l a ds es e1 e2 e3 e4
def setsV : List Nat → List V → L2.St → L2.St
  | t :: ts, v :: vs, σ => setsV ts vs (σ.set t (some v))
  | _, _, σ => σ
theorem Rel.setRow : ∀ {ts : List Nat} {vs : List V} {ss : List Slot} {σ : L2.St} {env : Env}, Rel Γ H0 G ρ M σ env H → (∀ (k : Nat) (es : List D) (a : Addr), env[k]? = some (Slot.own es) → σ[k]? = some (some (V.ref a)) → ∀ (i : Nat) (ds : List D), ss[i]? = some (Slot.own ds) → vs[i]? ≠ some (V.ref a)) →
    RowOk Γ H0 Hs G ρ H vs ss → ts.Nodup → (ts.all fun t => decide (t < env.length)) = true → Rel Γ H0 G ρ M (setsV ts vs σ) (setsE ts ss env) H
  | [], _, _, _, _, r, _, _, _, _ => by unfold setsV setsE; exact r
  | t :: ts, [], [], _, _, r, _, _, _, _ => by unfold setsV setsE; exact r
  | t :: ts, [], _ :: _, _, _, _, _, o, _, _ => by have := o.len; simp at this
  | t :: ts, _ :: _, [], _, _, _, _, o, _, _ => by have := o.len; simp at this
  | t :: ts, v :: vs, s :: ss, σ, env, r, ho, o, nd, hl => by
    rw [List.all_cons, Bool.and_eq_true, decide_eq_true_eq] at hl
    rw [List.nodup_cons] at nd
    have r1 := r.setSlot (i := t) (v := v) (s := s) hl.1 (o.sl 0 s v rfl rfl).sl fun ds a e1 e2 k es hk e3 e4 => ho k es a e3 e4 0 ds (by rw [e1]; rfl) (by rw [e2]; rfl)
    show Rel Γ H0 G ρ M (setsV ts vs (σ.set t (some v))) (setsE ts ss (env.set t s)) H
    refine Rel.setRow r1 (fun k es a e1 e2 i ds e3 e4 => ?_) ⟨Nat.succ.inj o.len, fun i s' v' e1 e2 => o.sl (i + 1) s' v' (by simpa using e1) (by simpa using e2), fun i j a ds es e1 e2 e3 e4 => Nat.succ.inj (o.dis (i + 1) (j + 1) a ds es (by simpa using e1) (by simpa using e2) (by simpa using e3) (by simpa using e4))⟩ nd.2 (by simpa using hl.2)
    by_cases hk : t = k
    · subst hk
      rw [List.getElem?_set_self hl.1] at e1
      rw [List.getElem?_set_self (by rw [r.slen]; exact hl.1)] at e2
      cases e1
      cases e2
      have := o.dis 0 (i + 1) a es ds rfl (by simpa using e3) rfl (by simpa using e4)
      cases this
    · rw [List.getElem?_set_ne hk] at e1 e2
      exact ho k es a e1 e2 (i + 1) ds (by simpa using e3) (by simpa using e4)
end
section
variable {Γ : Cfg} {S : Sta} {C : Cal} {CX : CXT} {k : Nat} {c : SC} {X : Cx} {E : XK}
def tR1 (Γ : Cfg) (E : XK) (C : Cal) (r : RX) : TE := fun σ H Q => ∃ H0 G ρ M env, Rel Γ H0 G ρ M σ env H ∧ (∀ a, H a = none → H0 a = none) ∧ Post (XPf Γ E) (fun G' ρ' H' v s => SlotOk Γ H0 H G' ρ' H' v s) Γ G ρ H (evR C r env M) Q
def tRs (Γ : Cfg) (E : XK) (C : Cal) (rs : List RX) : TA := fun σ H Q => ∃ H0 G ρ M env, Rel Γ H0 G ρ M σ env H ∧ (∀ a, H a = none → H0 a = none) ∧ Post (XPf Γ E) (fun G' ρ' H' vs ss => RowOk Γ H0 H G' ρ' H' vs ss) Γ G ρ H (evRs C rs env M) Q
theorem r_v {x : Expr} {a : Mp.E} (ha : PE X x (tE Γ E C a)) : PE X x (tR1 Γ E C (.v a)) := by
  refine PE.imp ha fun σ H Q q => ?_
  obtain ⟨H0, G, ρ, M, env, rel, hf, p⟩ := q
  refine ⟨H0, G, ρ, M, env, rel, Post.mono (Post.bind (R1 := RepS Γ) (show Post _ _ _ _ _ _ ((evE C a env M).bind fun x M => .ok (Slot.val x) M) Q from p)) ?_⟩
  rintro v H1 ⟨G1, ρ1, M1, d, st, c1, r1, p1⟩
  exact Post.now c1 p1 ⟨⟨v, rfl, r1⟩, fun ds b z => by cases z⟩
theorem r_o {xs : List Expr} {es : Es} {p : Pos} (hl : esLen es ≤ 1000) (ha : PA X xs (tEs Γ E C es)) : PE X (.List xs p) (tR1 Γ E C (.o es)) := by
  refine PE.imp (pe_lst ha) fun σ H Q q => ?_
  obtain ⟨H0, G, ρ, M, env, rel, hf, p⟩ := q
  have p : Post (XPf Γ E) (fun G' ρ' H' v s => SlotOk Γ H0 H G' ρ' H' v s) Γ G ρ H ((evEs C es env M).bind fun xs M => .ok (Slot.own xs) M) Q := p
  have t : tEs Γ E C es σ H _ := ⟨H0, G, ρ, M, env, rel, Post.bind (R1 := RepLS Γ) p⟩
  refine tG.mono (tEs_len t) ?_
  rintro vs H1 ⟨lv, G1, ρ1, M1, ds, st, c1, r1, p1⟩
  refine ⟨small_line (by omega), fun ad hd => ?_⟩
  have fr := c1.fresh hd
  have hb := back rel.toCore st c1 hd
  exact p1 G1 ρ1 _ (.ref ad) (Adv.laid hd) (c1.laid hd) ⟨⟨ad, vs, rfl, fr.2, fr.1, hf ad hb, upd_same, r1⟩, fun ds' b z w => by cases w; exact hb⟩
theorem rs_nil : PA X [] (tRs Γ E C []) := PA.imp pa_nil fun σ H Q ⟨H0, G, ρ, M, env, rel, hf, p⟩ => Post.now rel.toCore p .nil
theorem rs_cons {x : Expr} {xs : List Expr} {r : RX} {rs : List RX} (ha : PE X x (tR1 Γ E C r)) (hr : PA X xs (tRs Γ E C rs)) (hs : noStar x = true) : PA X (x :: xs) (tRs Γ E C (r :: rs)) := by
  refine PA.imp (pa_cons ha hr (star_of hs)) fun σ H Q q => ?_
  obtain ⟨H0, G, ρ, M, env, rel, hf, p⟩ := q
  have p : Post (XPf Γ E) (fun G' ρ' H' vs ss => RowOk Γ H0 H G' ρ' H' vs ss) Γ G ρ H ((evR C r env M).bind fun s M => (evRs C rs env M).bind fun ss M => .ok (s :: ss) M) Q := p
  refine ⟨H0, G, ρ, M, env, rel, hf, Post.mono (Post.bind (R1 := fun G' ρ' H' v s => SlotOk Γ H0 H G' ρ' H' v s) p) ?_⟩
  rintro v H1 ⟨G1, ρ1, M1, s, st, c1, r1, p1⟩
  refine ⟨H0, G1, ρ1, M1, env, rel.adv st c1, fun a h => hf a (back rel.toCore st c1 h), Post.mono (Post.bind (R1 := fun G' ρ' H' vs ss => RowOk Γ H0 H1 G' ρ' H' vs ss) p1) ?_⟩
  rintro vs H2 ⟨G2, ρ2, M2, ss, st2, c2, r2, p2⟩
  exact Post.now c2 p2 (RowOk.cons rel.toCore st c1 st2 r1 r2)
/-- names, one after another -/
def tNs (ts : List Nat) : TGs := fun vs σ H Q => vs.length = ts.length ∧ Q (setsV ts vs σ) H
theorem ns_ok (TB : Tab Γ S C CX k) (h : XOk Γ S CX k c X E) : ∀ {ts : List Nat} {es : List Expr}, chkNs S c ts es = true → PGs X es (tNs ts) ∧ es.all noStar = true ∧ es.length = ts.length
  | [], [], _ => ⟨PGs.imp pgs_nil fun vs σ H Q ⟨l, q⟩ => by
      have e : vs = [] := List.length_eq_zero_iff.mp l
      subst e
      exact ⟨rfl, q⟩, rfl, rfl⟩
  | [], _ :: _, hc => by simp [chkNs] at hc
  | _ :: _, [], hc => by simp [chkNs] at hc
  | t :: ts, e :: es, hc => by
    cases e with
    | Name x q =>
      simp only [chkNs, Bool.and_eq_true] at hc
      obtain ⟨e1, e2⟩ := at_ok hc.1.1
      obtain ⟨l1, l2⟩ := h.sto x hc.1.2
      obtain ⟨g, s1, s2⟩ := ns_ok TB h hc.2
      refine ⟨PGs.imp (pgs_cons (pg_name (i := t) (by rw [h.N]; exact TB.nd) (by rw [h.N]; exact e1) l1 l2) g) ?_, by simp [noStar, s1], by simp [s2]⟩
      rintro vs σ H Q ⟨l, q⟩
      cases vs with
      | nil => simp at l
      | cons v vs => exact ⟨v, vs, rfl, by simpa using l, q⟩
    | _ => simp [chkNs] at hc
theorem row_end {ts : List Nat} {rs : List RX} {D : Ends} {σ : L2.St} {H : Hp} (hn : ts.Nodup) (q : tS1 Γ E C (.row ts rs) D σ H) :
    tRs Γ E C rs σ H (fun vs H1 => vs.length = ts.length ∧ D.nx (setsV ts vs σ) H1 ∧ ∀ T, H1 T = none → D.nx (setsV ts vs σ) (upd H1 T (.tup vs))) := by
  obtain ⟨A, G, ρ, M, env, at_, rel, q⟩ := q
  simp only [evS] at q
  refine ⟨A.H0, G, ρ, M, env, rel, fun a ha => at_.fresh rel.toCore ha, Post.mono (PostS.of (R := fun G' ρ' H' vs ss => RowOk Γ A.H0 H G' ρ' H' vs ss) at_ rel q) ?_⟩
  rintro vs H1 ⟨G1, ρ1, M1, ss, at1, rel1, r1, q1⟩
  split at q1
  · rename_i hc
    have old : ∀ (kk : Nat) (es : List Mp.D) (a : Addr), env[kk]? = some (Slot.own es) → σ[kk]? = some (some (V.ref a)) → ∀ (i : Nat) (ds : List Mp.D), ss[i]? = some (Slot.own ds) → vs[i]? ≠ some (V.ref a) := by
      intro kk es' a e1 e2 i ds e3 e4
      have h1 := (r1.sl i _ _ e3 e4).new ds a rfl rfl
      obtain ⟨b, us, f1, _, _, _, f2, _⟩ := rel.sl kk _ e1
      rw [e2] at f1
      cases f1
      rw [h1] at f2
      cases f2
    refine ⟨by rw [r1.len]; exact hc.1.symm, q1 G1 ρ1 _ _ at1 (Rel.setRow rel1 old r1 hn hc.2), fun T hT => ?_⟩
    have rel2 := rel1.adv (Adv.laid (o := .tup vs) hT) (rel1.toCore.laid hT)
    have r2 : RowOk Γ A.H0 H G1 ρ1 (upd H1 T (.tup vs)) vs ss := ⟨r1.len, fun i s v e1 e2 => (r1.sl i s v e1 e2).adv (Adv.laid hT), r1.dis⟩
    exact q1 G1 ρ1 _ _ (at1.step rel1.toCore (Adv.laid hT)) (Rel.setRow rel2 old r2 hn hc.2)
  · exact q1.elim
theorem tRs_mono {rs : List RX} {σ : L2.St} {H : Hp} {Q Q' : List V → Hp → Prop} (h : tRs Γ E C rs σ H Q) (m : ∀ vs H1, Q vs H1 → Q' vs H1) : tRs Γ E C rs σ H Q' := by
  obtain ⟨H0, G, ρ, M, env, rel, hf, p⟩ := h
  exact ⟨H0, G, ρ, M, env, rel, hf, Post.mono p m⟩
theorem st_row (TB : Tab Γ S C CX k) (h : XOk Γ S CX k c X E) {ts : List Nat} {rs : List RX} {es xs : List Expr} {n n2 : Nat} {p p' p2 : Pos} (hn : ts.Nodup) (hg : chkNs S c ts es = true) (hl : es.length ≤ 1000) (hw : swappedStores [.Tuple es n p'] (.Tuple xs n2 p2) X.env = pure none) (ha : PA X xs (tRs Γ E C rs)) :
    PS X (.Assign [.Tuple es n p'] (.Tuple xs n2 p2) p) (tS1 Γ E C (.row ts rs)) := by
  obtain ⟨g, s1, s2⟩ := ns_ok TB h hg
  have has := asg_star (env := X.env) s1
  have hpg := pg_tup (pos := p') (k := n) (n := ts.length) h.calm g (by rw [has, List.length_map]; exact s2) (by rw [has]; simp [List.findIdx?_eq_none_iff])
  refine PS.imp (ps_asg (pe_tup ha) hpg (by unfold swapsWithSole; exact swap_plain rfl) hw rfl) fun D σ H q => tRs_mono (row_end hn q) ?_
  rintro vs H1 ⟨l, _, q1⟩
  exact ⟨small_line (by rw [l, ← s2]; exact hl), fun T hT => ⟨T, vs, rfl, .of upd_same, l, l, q1 T hT⟩⟩
theorem st_row2 (TB : Tab Γ S C CX k) (h : XOk Γ S CX k c X E) {i j : Nat} {rs : List RX} {n1 n2 : Str} {x y : Expr} {p p1 p2 pt pt2 : Pos} {kt k2 : Nat} (g1 : at? S.N i n1 = true) (g2 : at? S.N j n2 = true) (hij : [i, j].Nodup) (hk : c.sc.kind = .function)
    (h1 : c.sc.names.lookup n1 = some .local) (h2 : c.sc.names.lookup n2 = some .local) (hp : p1.line = p2.line) (hn : n1 ≠ n2) (hs : noStar x = true) (hs2 : noStar y = true) (hf : (foldedForSure 8 x && foldedForSure 8 y) = false) (hc : (constantsAlone 8 x && constantsAlone 8 y) = false)
    (ha : PA X [x, y] (tRs Γ E C rs)) : PS X (.Assign [.Tuple [.Name n1 p1, .Name n2 p2] kt pt] (.Tuple [x, y] k2 pt2) p) (tS1 Γ E C (.row [i, j] rs)) := by
  obtain ⟨e1, _⟩ := at_ok g1
  obtain ⟨e2, _⟩ := at_ok g2
  have hij' : i ≠ j := fun z => by subst z; simp at hij
  refine PS.imp (ps_par (i := i) (j := j) h.calm (by rw [h.N]; exact TB.nd) (by rw [h.N]; exact e1) (by rw [h.N]; exact e2) hij' (by rw [h.sc]; exact h1) (by rw [h.sc]; exact h2) ha
    (swap_two (by rw [h.sc]; exact hk) (by rw [h.sc]; exact h1) (by rw [h.sc]; exact h2) hp hn hs hs2 hf hc) (by unfold swapsWithSole; exact swap_plain rfl)) fun D σ H q => tRs_mono (row_end hij q) ?_
  rintro vs H1 ⟨l, q1, _⟩
  match vs, l with
  | [v, w], _ => exact ⟨v, w, rfl, q1⟩
theorem swap_three {n1 n2 n3 : Str} {x y z : Expr} {p1 p2 p3 pt pt2 : Pos} {kt k2 : Nat} {env : PySem.Env} (hk : env.scope.kind = .function) (h1 : env.scope.names.lookup n1 = some .local) (h2 : env.scope.names.lookup n2 = some .local) (h3 : env.scope.names.lookup n3 = some .local)
    (hp : p1.line = p2.line) (hp3 : p1.line = p3.line) (hn : n1 ≠ n2) (hn2 : n1 ≠ n3) (hn3 : n2 ≠ n3) (hs : noStar x = true) (hs2 : noStar y = true) (hs3 : noStar z = true) (hf : (foldedForSure 8 x && (foldedForSure 8 y && foldedForSure 8 z)) = false)
    (hc : (constantsAlone 8 x && (constantsAlone 8 y && constantsAlone 8 z)) = false) : swappedStores [.Tuple [.Name n1 p1, .Name n2 p2, .Name n3 p3] kt pt] (.Tuple [x, y, z] k2 pt2) env = pure (some [n1, n2, n3]) := by
  have ka : env.kindOf n1 = some .local := h1
  have kb : env.kindOf n2 = some .local := h2
  have kc : env.kindOf n3 = some .local := h3
  have kk : env.blockKind = .function := by unfold Env.blockKind; rw [hk]; rfl
  have e1 : ∀ {w : Expr}, noStar w = true → (match w with | .Starred .. => true | _ => false) = false := by intro w h; cases w <;> first | rfl | cases h
  have st : ([x, y, z].any fun | .Starred .. => true | _ => false) = false := by
    simp only [List.any_cons, List.any_nil, Bool.or_false, Bool.or_eq_false_iff]
    exact ⟨e1 hs, e1 hs2, e1 hs3⟩
  unfold swappedStores
  have f1 : ([x, y, z].all (foldedForSure 8)) = false := by simpa [List.all_cons] using hf
  have f2 : ([x, y, z].all (constantsAlone 8)) = false := by simpa [List.all_cons] using hc
  have e2 : [n1, n2, n3].eraseDups.length = 3 := by
    have b1 : (n2 == n1) = false := beq_eq_false_iff_ne.mpr fun e => hn e.symm
    have b2 : (n3 == n1) = false := beq_eq_false_iff_ne.mpr fun e => hn2 e.symm
    have b3 : (n3 == n2) = false := beq_eq_false_iff_ne.mpr fun e => hn3 e.symm
    simp [List.eraseDups_cons, b1, b2, b3]
  simp only [pure_bind, List.length_cons, List.length_nil, kk, st, f1, f2, List.filterMap_cons, List.filterMap_nil, ka, kb, kc, Expr.pos, List.head?_cons, Option.map_some, Option.getD_some]
  simp [← hp, ← hp3, e2]
  rintro (h | h | h)
  · cases x <;> first | exact Bool.noConfusion hs | exact Bool.noConfusion h
  · cases y <;> first | exact Bool.noConfusion hs2 | exact Bool.noConfusion h
  · cases z <;> first | exact Bool.noConfusion hs3 | exact Bool.noConfusion h
theorem st_row3 (TB : Tab Γ S C CX k) (h : XOk Γ S CX k c X E) {i j l : Nat} {rs : List RX} {n1 n2 n3 : Str} {x y z : Expr} {p p1 p2 p3 pt pt2 : Pos} {kt k2 : Nat} (g1 : at? S.N i n1 = true) (g2 : at? S.N j n2 = true) (g3 : at? S.N l n3 = true) (hij : [i, j, l].Nodup) (hk : c.sc.kind = .function)
    (h1 : c.sc.names.lookup n1 = some .local) (h2 : c.sc.names.lookup n2 = some .local) (h3 : c.sc.names.lookup n3 = some .local) (hp : p1.line = p2.line) (hp3 : p1.line = p3.line) (hn : n1 ≠ n2) (hn2 : n1 ≠ n3) (hn3 : n2 ≠ n3) (hs : noStar x = true) (hs2 : noStar y = true) (hs3 : noStar z = true)
    (hf : (foldedForSure 8 x && (foldedForSure 8 y && foldedForSure 8 z)) = false) (hc : (constantsAlone 8 x && (constantsAlone 8 y && constantsAlone 8 z)) = false) (ha : PA X [x, y, z] (tRs Γ E C rs)) :
    PS X (.Assign [.Tuple [.Name n1 p1, .Name n2 p2, .Name n3 p3] kt pt] (.Tuple [x, y, z] k2 pt2) p) (tS1 Γ E C (.row [i, j, l] rs)) := by
  obtain ⟨e1, _⟩ := at_ok g1
  obtain ⟨e2, _⟩ := at_ok g2
  obtain ⟨e3, _⟩ := at_ok g3
  have d1 : i ≠ j := fun z => by subst z; simp at hij
  have d2 : i ≠ l := fun z => by subst z; simp at hij
  have d3 : j ≠ l := fun z => by subst z; simp at hij
  refine PS.imp (ps_par3 (i := i) (j := j) (l := l) h.calm (by rw [h.N]; exact TB.nd) (by rw [h.N]; exact e1) (by rw [h.N]; exact e2) (by rw [h.N]; exact e3) d1 d2 d3 (by rw [h.sc]; exact h1) (by rw [h.sc]; exact h2) (by rw [h.sc]; exact h3) ha
    (swap_three (by rw [h.sc]; exact hk) (by rw [h.sc]; exact h1) (by rw [h.sc]; exact h2) (by rw [h.sc]; exact h3) hp hp3 hn hn2 hn3 hs hs2 hs3 hf hc) (by unfold swapsWithSole; exact swap_plain rfl)) fun D σ H q => tRs_mono (row_end hij q) ?_
  rintro vs H1 ⟨l, q1, _⟩
  match vs, l with
  | [v, w, u], _ => exact ⟨v, w, u, rfl, q1⟩
theorem no_len {es xs : List Expr} {n n2 : Nat} {p p2 : Pos} {env : PySem.Env} (h : es.length ≠ 2 ∧ es.length ≠ 3) : swappedStores [.Tuple es n p] (.Tuple xs n2 p2) env = pure none := by
  unfold swappedStores
  simp [h.1, h.2]
end
end Mp
end

section
set_option Elab.async false
set_option linter.all false
set_option maxRecDepth 100000
/-! All statements. -/
namespace Mp
open PySem PySem.Spec L2
section
variable {Γ : Cfg} {S : Sta} {C : Cal} {CX : CXT} {k : Nat} {c : SC} {X : Cx} {E : XK}
theorem fold_const {vs : List Expr} {ts : List Expr} {n n2 : Nat} {p p2 : Pos} {env : PySem.Env} (h : vs.all (foldedForSure 8) = true) : swappedStores [.Tuple ts n p] (.Tuple vs n2 p2) env = pure none := by
  unfold swappedStores
  simp only [pure_bind]
  split
  · rfl
  · split
    · rfl
    · split
      · rfl
      · first | rfl | rw [if_pos h]
theorem fold_cell {vs : List Expr} {ts : List Expr} {n n2 : Nat} {p p2 : Pos} {env : PySem.Env} (h : (ts.any fun t => match t with | .Name y _ => !decide (env.scope.names.lookup y = some .local) | _ => true) = true) :
    swappedStores [.Tuple ts n p] (.Tuple vs n2 p2) env = pure none := by
  have key : ∀ (f : Expr → Option Str) (us : List Expr), (∀ t ∈ us, (match t with | .Name y _ => !decide (env.scope.names.lookup y = some .local) | _ => true) = true → f t = none) →
      (us.any fun t => match t with | .Name y _ => !decide (env.scope.names.lookup y = some .local) | _ => true) = true → (us.filterMap f).length < us.length := by
    intro f us
    induction us with
    | nil => intro _ h; simp at h
    | cons t us ih =>
      intro hf h
      have le := List.length_filterMap_le f us
      rw [List.any_cons, Bool.or_eq_true] at h
      rcases h with h | h
      · rw [List.filterMap_cons_none (hf t (by simp) h)]
        simp only [List.length_cons]; omega
      · have := ih (fun t ht => hf t (by simp [ht])) h
        rw [List.filterMap_cons]
        split
        · simp only [List.length_cons]; omega
        · simp only [List.length_cons]; omega
  unfold swappedStores
  simp only [pure_bind]
  split
  · rfl
  · split
    · rfl
    · rw [if_pos]
      simp only [Bool.or_eq_true, bne_iff_ne]
      refine .inl (Nat.ne_of_lt (key _ ts (fun t _ hb => ?_) h))
      cases t <;> first | rfl | skip
      rename_i id pos _
      have hk : (env.kindOf id == some .local) = false := by
        rw [beq_eq_false_iff_ne]
        have : env.kindOf id = env.scope.names.lookup id := rfl
        rw [this]
        simpa using hb
      simp [hk]
theorem no_tuple {x : Expr} {ts : List Expr} {n : Nat} {p : Pos} {env : PySem.Env} (h : ∀ vs n2 p2, x ≠ .Tuple vs n2 p2) : swappedStores [.Tuple ts n p] x env = pure none := by
  unfold swappedStores
  cases x <;> first | rfl | exact absurd rfl (h _ _ _)
theorem sndR (TB : Tab Γ S C CX k) (h : XOk Γ S CX k c X E) : ∀ (r : RX) (x : Expr), chkR S c r x = true → PE X x (tR1 Γ E C r)
  | .v e, x, hc => r_v (sndE TB e h x (by simpa [chkR] using hc))
  | .o es, x, hc => by
    cases x with
    | List xs p =>
      simp only [chkR, Bool.and_eq_true, decide_eq_true_eq] at hc
      exact r_o (by rw [chkEs_len hc.2]; exact hc.1) (sndEs TB es h _ hc.2)
    | _ => simp [chkR] at hc
theorem sndRs (TB : Tab Γ S C CX k) (h : XOk Γ S CX k c X E) : ∀ (rs : List RX) (xs : List Expr), chkRs S c rs xs = true → PA X xs (tRs Γ E C rs)
  | [], [], _ => rs_nil
  | [], _ :: _, hc => by simp [chkRs] at hc
  | _ :: _, [], hc => by simp [chkRs] at hc
  | r :: rs, x :: xs, hc => by
    simp only [chkRs, Bool.and_eq_true] at hc
    exact rs_cons (sndR TB h r x hc.1.2) (sndRs TB h rs xs hc.2) hc.1.1
theorem snd_row (TB : Tab Γ S C CX k) (h : XOk Γ S CX k c X E) {ts : List Nat} {rs : List RX} {es vs : List Expr} {n n2 : Nat} {p p1 p2 : Pos} (h1 : ts.Nodup) (h2 : chkNs S c ts es = true) (h3 : chkRs S c rs vs = true) (h4 : es.length ≤ 1000) (h5 : rowC c es vs = true) :
    PS X (.Assign [.Tuple es n p1] (.Tuple vs n2 p2) p) (tS1 Γ E C (.row ts rs)) := by
  unfold rowC at h5
  rw [Bool.or_eq_true] at h5
  rcases h5 with h5 | h5
  · simp only [Bool.or_eq_true, Bool.and_eq_true, decide_eq_true_eq] at h5
    refine st_row TB h h1 h2 h4 ?_ (sndRs TB h rs vs h3)
    rcases h5 with (h5 | h5) | h5
    · exact fold_cell (by rw [h.sc]; exact h5)
    · exact fold_const h5
    · exact no_len h5
  · split at h5
    · simp only [Bool.and_eq_true, decide_eq_true_eq, Bool.not_eq_true'] at h5
      obtain ⟨⟨⟨⟨⟨⟨⟨⟨a1, a2⟩, a3⟩, a4⟩, a5⟩, a6⟩, a7⟩, a8⟩, a9⟩ := h5
      match ts, h2, h1 with
      | [i, j], h2, h1 =>
        simp only [chkNs, Bool.and_eq_true] at h2
        exact st_row2 TB h h2.1.1 h2.2.1.1 h1 a4 a2 a3 a5 a1 a6 a7 a8 a9 (sndRs TB h rs _ h3)
      | [], h2, _ => simp [chkNs] at h2
      | [_], h2, _ => simp [chkNs] at h2
      | _ :: _ :: _ :: _, h2, _ => simp [chkNs] at h2
    · simp only [Bool.and_eq_true, decide_eq_true_eq, Bool.not_eq_true'] at h5
      obtain ⟨⟨⟨⟨⟨⟨⟨⟨⟨⟨⟨⟨⟨a1, a2⟩, a3⟩, a4⟩, a5⟩, a6⟩, a7⟩, a8⟩, a9⟩, b1⟩, b2⟩, b3⟩, b4⟩, b5⟩ := h5
      match ts, h2, h1 with
      | [i, j, l], h2, h1 =>
        simp only [chkNs, Bool.and_eq_true] at h2
        exact st_row3 TB h h2.1.1 h2.2.1.1 h2.2.2.1.1 h1 a7 a4 a5 a6 a8 a9 a1 a2 a3 b1 b2 b3 b4 b5 (sndRs TB h rs _ h3)
      | [], h2, _ => simp [chkNs] at h2
      | [_], h2, _ => simp [chkNs] at h2
      | [_, _], h2, _ => simp [chkNs] at h2
      | _ :: _ :: _ :: _ :: _, h2, _ => simp [chkNs] at h2
    · cases h5
mutual
theorem sndS (TB : Tab Γ S C CX k) (h : XOk Γ S CX k c X E) (hP : PassesOwn (model X.prog X.w) X.A X.env X.xe) : ∀ (s : Mp.S) (st : Stmt), chkS S c s st = true → PS X st (tS1 Γ E C s)
  | .asg (.nm i) a, st, hc => by
    unfold chkS at hc
    split at hc <;> first | (rename_i hh; cases hh; done) | (cases hc; done) | skip
    rename_i hh
    cases hh
    simp only [Bool.and_eq_true] at hc
    obtain ⟨⟨⟨h1, h2⟩, h3⟩, h4⟩ := hc
    rename_i n p' v q
    by_cases hn : noComp v = true
    · exact st_asg TB h h1 h2 hn (sndE TB a h v h4)
    · rw [Bool.or_eq_true] at h3
      have h3 := h3.resolve_left hn
      rw [Bool.or_eq_true, decide_eq_true_eq] at h3
      by_cases hcl : c.sc.names.lookup n = some .cell
      · exact st_asgC TB h h1 h2 hcl (sndE TB a h v h4)
      have h3 := h3.resolve_left hcl
      cases v with
      | ListComp x gens scope p =>
        simp only [cmpC, Bool.and_eq_true, decide_eq_true_eq, Bool.not_eq_true'] at h3
        obtain ⟨⟨⟨c1, c2⟩, c3⟩, c4⟩ := h3
        unfold chkE at h4
        split at h4 <;> first | (rename_i hh; cases hh; done) | (cases h4; done) | skip
        rename_i hh
        cases hh
        simp only [Bool.and_eq_true, decide_eq_true_eq] at h4
        obtain ⟨⟨⟨⟨⟨⟨⟨rfl, d1⟩, d2⟩, d3⟩, d4⟩, d5⟩, d6⟩, d7⟩ := h4
        exact PS.imp (s_compSet TB h h1 c1 c2 c3 c4 d1 d2 d3 (sndI TB _ h _ d4) (fun X' h' => sndG h' TB.nd _ _ d5) (fun X' h' => sndTs TB _ h' _ d6) (fun X' h' => sndE TB _ h' _ d7)) fun D σ H q => asg_end q
      | DictComp kx vx gens scope p =>
        simp only [cmpC, Bool.and_eq_true, decide_eq_true_eq, Bool.not_eq_true'] at h3
        obtain ⟨⟨⟨c1, c2⟩, c3⟩, c4⟩ := h3
        unfold chkE at h4
        split at h4 <;> first | (rename_i hh; cases hh; done) | (cases h4; done) | skip
        rename_i hh
        cases hh
        simp only [Bool.and_eq_true, decide_eq_true_eq] at h4
        obtain ⟨⟨⟨⟨⟨⟨⟨⟨rfl, d1⟩, d2⟩, d3⟩, d4⟩, d5⟩, d6⟩, d7⟩, d8⟩ := h4
        exact PS.imp (s_dcompSet TB h h1 c1 c2 c3 c4 d1 d2 d3 (sndI TB _ h _ d4) (fun X' h' => sndG h' TB.nd _ _ d5) (fun X' h' => sndTs TB _ h' _ d6) (fun X' h' => sndE TB _ h' _ d7) (fun X' h' => sndE TB _ h' _ d8)) fun D σ H q => asg_end q
      | _ => simp [cmpC] at h3
  | .asg (.tp gs) a, st, hc => by
    unfold chkS at hc
    split at hc <;> first | (rename_i hh; cases hh; done) | (cases hc; done) | skip
    rename_i hh
    cases hh
    rename_i ts n p' v q
    simp only [Bool.and_eq_true] at hc
    obtain ⟨⟨⟨h1, h2⟩, h3⟩, h4⟩ := hc
    refine st_asgT TB h h2 (sndGs h TB.nd gs _ h2) h1 ?_ (sndE TB a h v h3)
    cases v with
    | Tuple vs n2 p2 =>
      simp only [Bool.and_eq_true, Bool.or_eq_true] at h4
      rcases h4.2 with h5 | h5
      · exact fold_cell (by rw [h.sc]; exact h5)
      · exact fold_const h5
    | _ => exact no_tuple (fun _ _ _ z => by cases z)
  | .ownF i e, st, hc => by
    unfold chkS at hc
    split at hc <;> first | (rename_i hh; cases hh; done) | (cases hc; done) | skip
    rename_i hh
    cases hh
    simp only [Bool.and_eq_true] at hc
    obtain ⟨⟨⟨h1, h2⟩, h3⟩, h4⟩ := hc
    exact st_ownFA TB h h1 h2 (sndE TB _ h _ h3) (sndE TB _ h _ h4)
  | .ownC i e, st, hc => by
    unfold chkS at hc
    split at hc <;> first | (rename_i hh; cases hh; done) | (cases hc; done) | skip
    rename_i hh
    cases hh
    simp only [Bool.and_eq_true, decide_eq_true_eq] at hc
    obtain ⟨⟨⟨⟨⟨⟨h1, h2⟩, rfl⟩, h3⟩, h4⟩, h5⟩, h6⟩ := hc
    exact st_ownC TB h h1 h2 h3 h4 h5 (sndP h h6 (sndE TB e h _ h6))
  | .appo a b, st, hc => by
    unfold chkS at hc
    split at hc <;> first | (rename_i hh; cases hh; done) | (cases hc; done) | skip
    rename_i hh
    cases hh
    simp only [Bool.and_eq_true, decide_eq_true_eq] at hc
    obtain ⟨⟨⟨⟨⟨rfl, h1⟩, h2⟩, h3⟩, h4⟩, h5⟩ := hc
    exact st_appo h h1 h2 h3 (sndE TB a h _ h4) (sndE TB b h _ h5)
  | .par i j a b, st, hc => by
    unfold chkS at hc
    split at hc <;> first | (rename_i hh; cases hh; done) | (cases hc; done) | skip
    rename_i hh
    cases hh
    simp only [Bool.and_eq_true, decide_eq_true_eq, Bool.not_eq_true'] at hc
    obtain ⟨⟨⟨⟨⟨⟨⟨⟨⟨⟨⟨⟨⟨h1, h2⟩, h3⟩, h4⟩, h5⟩, h6⟩, h7⟩, h8⟩, h9⟩, h10⟩, h11⟩, h12⟩, h13⟩, h14⟩ := hc
    exact st_par TB h h1 h2 h3 h7 h5 h6 h8 h4 h9 h10 h11 h12 (sndE TB a h _ h13) (sndE TB b h _ h14)
  | .ownL i es, st, hc => by
    unfold chkS at hc
    split at hc <;> first | (rename_i hh; cases hh; done) | (cases hc; done) | skip
    rename_i hh
    cases hh
    simp only [Bool.and_eq_true, decide_eq_true_eq] at hc
    obtain ⟨⟨⟨h1, h2⟩, h3⟩, h4⟩ := hc
    exact st_ownL TB h h1 h2 (by rw [chkEs_len h4]; exact h3) (sndEs TB es h _ h4)
  | .app i a, st, hc => by
    unfold chkS at hc
    split at hc <;> first | (rename_i hh; cases hh; done) | (cases hc; done) | skip
    rename_i hh
    cases hh
    simp only [Bool.and_eq_true, decide_eq_true_eq] at hc
    obtain ⟨⟨⟨⟨⟨h1, h2⟩, rfl⟩, h3⟩, h4⟩, h5⟩ := hc
    exact st_app h h1 h2 h3 h4 (sndE TB a h _ h5)
  | .row ts rs, st, hc => by
    unfold chkS at hc
    split at hc <;> first | (rename_i hh; cases hh; done) | (cases hc; done) | skip
    rename_i hh
    cases hh
    simp only [Bool.and_eq_true, decide_eq_true_eq] at hc
    obtain ⟨⟨⟨⟨h1, h2⟩, h3⟩, h4⟩, h5⟩ := hc
    exact snd_row TB h h1 h2 h3 h4 h5
  | .star gs i a, st, hc => by
    unfold chkS at hc
    split at hc <;> first | (rename_i hh; cases hh; done) | (cases hc; done) | skip
    rename_i hh
    cases hh
    simp only [Bool.and_eq_true] at hc
    obtain ⟨⟨⟨h1, h2⟩, h3⟩, h4⟩ := hc
    split at h4
    · rename_i es hu
      exact st_star TB h h4 hu h1 (no_tuple fun vs n2 p2 z => by subst z; cases h2) (sndE TB a h _ h3)
    · cases h4
  | .ext i a, st, hc => by
    unfold chkS at hc
    split at hc <;> first | (rename_i hh; cases hh; done) | (cases hc; done) | skip
    rename_i hh
    cases hh
    simp only [Bool.and_eq_true, decide_eq_true_eq] at hc
    obtain ⟨⟨⟨⟨⟨h1, h2⟩, rfl⟩, h3⟩, h4⟩, h5⟩ := hc
    exact st_ext h h1 h2 h3 h4 (sndE TB a h _ h5)
  | .aug i o a, st, hc => by
    cases st with
    | AugAssign t o2 v q => cases t with
      | Name n p' =>
        simp only [chkS, Bool.and_eq_true, decide_eq_true_eq] at hc
        obtain ⟨⟨⟨h1, h2⟩, rfl⟩, h4⟩ := hc
        exact st_aug TB h h1 h2 (sndE TB a h v h4)
      | _ => simp [chkS] at hc
    | _ => simp [chkS] at hc
  | .setd a b d, st, hc => by
    unfold chkS at hc
    split at hc <;> first | (rename_i hh; cases hh; done) | (cases hc; done) | skip
    rename_i hh
    cases hh
    simp only [Bool.and_eq_true] at hc
    obtain ⟨⟨⟨⟨h1, h2⟩, h3⟩, h4⟩, h5⟩ := hc
    exact st_setd h h1 h2 (sndE TB d h _ h3) (sndE TB a h _ h4) (sndE TB b h _ h5)
  | .expr a, st, hc => by
    cases st with
    | Expr v q => simp only [chkS, Bool.and_eq_true] at hc; exact st_expr hc.1 (sndE TB a h v hc.2)
    | _ => simp [chkS] at hc
  | .ret a, st, hc => by
    cases st with
    | Return v q => cases v with
      | some v => simp only [chkS] at hc; exact st_ret (sndE TB a h v hc)
      | none => simp [chkS] at hc
    | _ => simp [chkS] at hc
  | .retn, st, hc => by
    cases st with
    | Return v q => cases v with
      | none => exact st_retn
      | some v => simp [chkS] at hc
    | _ => simp [chkS] at hc
  | .ifs t as bs, st, hc => by
    cases st with
    | If z xs ys q => simp only [chkS, Bool.and_eq_true] at hc; exact st_ifs (sndT TB t h z hc.1.1) (sndSs TB h hP as xs hc.1.2) (sndSs TB h hP bs ys hc.2)
    | _ => simp [chkS] at hc
  | .forr g it bs, st, hc => by
    cases st with
    | For tg iter body orelse q => cases orelse with
      | nil =>
        simp only [chkS, Bool.and_eq_true] at hc
        exact st_forr h hP hc.1.1.1 (sndI TB it h iter hc.1.1.2) (sndG h TB.nd g tg hc.1.2) (sndSs TB h hP bs body hc.2)
      | cons _ _ => simp [chkS] at hc
    | _ => simp [chkS] at hc
  | .whil t bs, st, hc => by
    cases st with
    | While z body orelse q => cases orelse with
      | nil =>
        simp only [chkS, Bool.and_eq_true] at hc
        exact st_whil h hP (sndT TB t h z hc.1) (sndSs TB h hP bs body hc.2)
      | cons _ _ => simp [chkS] at hc
    | _ => simp [chkS] at hc
  | .pas, st, hc => by cases st with
    | Pass q => exact st_pas
    | _ => simp [chkS] at hc
  | .brk, st, hc => by cases st with
    | Break q => exact st_brk
    | _ => simp [chkS] at hc
  | .cnt, st, hc => by cases st with
    | Continue q => exact st_cnt
    | _ => simp [chkS] at hc
  | .frz i s, st, hc => by
    simp only [chkS] at hc
    exact st_frz (sndS TB h hP s st hc)
theorem sndSs (TB : Tab Γ S C CX k) (h : XOk Γ S CX k c X E) (hP : PassesOwn (model X.prog X.w) X.A X.env X.xe) : ∀ (s : List Mp.S) (st : List Stmt), chkSs S c s st = true → PSs X st (tSs Γ E C s)
  | [], [], hc => ss_nil
  | [], _ :: _, hc => by simp [chkSs] at hc
  | _ :: _, [], hc => by simp [chkSs] at hc
  | s :: r, x :: xs, hc => by
    simp only [chkSs, Bool.and_eq_true] at hc
    exact ss_cons (sndS TB h hP s x hc.1) (sndSs TB h hP r xs hc.2)
end
end
end Mp
end

section
set_option Elab.async false
set_option linter.all false
set_option maxRecDepth 100000
/-! Defs, and a law's end. -/
namespace Mp
open PySem PySem.Spec L2

/-- what is known of a text but for the def at hand -/
structure Txt where
  gn : List Str
  fn : List Str
  bn : List Str
  ks : List (List (List Str))
def Txt.sta (T : Txt) (N : List Str) : Sta := ⟨N, T.gn, T.fn, T.bn, T.ks⟩
abbrev Arr := Nat → Nat → List D → List D → Option (List D)

/-- a def as it stands behind the top, and its IR -/
structure DefOk (Γ : Cfg) (T : Txt) (arr : Arr) (f : Nat) (x : Str) (F : Fn) : Prop where
  mg : Γ.mg x = some (.ref (Γ.fA f))
  kp : PySem.W.keepIn Γ.K (.ref (Γ.fA f)) = true
  ex : ∃ (N ps : List Str) (params : Arguments) (body : List Stmt) (scope : Scope) (oc : Value) (od : Option Addr) (dV kV doc pm : Value) (an : Option Addr) (cdv ct : Value) (osl : Array (Option Value)),
    Γ.K.lookup (Γ.fA f) = some ⟨oc, od, .func (PySem.W.fnOf x x params body scope dV kV doc pm an cdv ct), osl⟩ ∧ PySem.W.codeIn Γ.K cdv x = true ∧ FnScope N ps scope ∧ ps.length = F.np ∧ N.length = F.nn ∧
    chkSs (T.sta N) ⟨scope, scope⟩ F.body body = true ∧ ∀ sh ks, ((T.ks[f]?).bind fun l => l[sh]?) = some ks → ShFact Γ (PySem.W.fnOf x x params body scope dV kV doc pm an cdv ct) ps ks (arr f sh)

structure AllOk (Γ : Cfg) (T : Txt) (fns : List Fn) (gl : Nat → D) (arr : Arr) : Prop where
  glob : ∀ i x, T.gn[i]? = some x → ∃ u v, Γ.mg x = some u ∧ RelV v u ∧ ∀ G ρ, Rep Γ G ρ v (gl i)
  defs : ∀ f x, T.fn[f]? = some x → ∃ F, fns[f]? = some F ∧ DefOk Γ T arr f x F
  blt : ∀ x ∈ T.bn, Γ.mg x = none
  nm : NoMix Γ.K

theorem start_rel {Γ : Cfg} {G H : Hp} {ρ : List Addr} {M : Sto} {N : List Str} {vs : List V} {ds : List D} {F : Fn} (c : Core Γ G ρ M H) (r : Reps Γ G ρ vs ds) (hN : N.length = F.nn) (hv : vs.length ≤ N.length) : Rel Γ H G ρ M (L2.start N vs) (env0 F ds) H := by
  have lv := r.len
  have noown : ∀ (i : Nat) (es : List D), (env0 F ds)[i]? ≠ some (.own es) := by
    intro i es e
    unfold env0 at e
    by_cases hi : i < ds.length
    · rw [List.getElem?_append_left (by simpa using hi), List.getElem?_map] at e
      cases h : ds[i]? with
      | none => rw [h] at e; cases e
      | some d => rw [h] at e; cases e
    · rw [List.getElem?_append_right (by simpa using hi), List.getElem?_replicate] at e
      split at e <;> cases e
  refine ⟨c, ?_, fun i s e => ?_, fun i j a es es' e1 => absurd e1 (noown i es)⟩
  · unfold L2.start env0
    simp only [List.length_append, List.length_map, List.length_replicate]
    omega
  · unfold env0 at e
    by_cases hi : i < ds.length
    · rw [List.getElem?_append_left (by simpa using hi), List.getElem?_map] at e
      cases h : ds[i]? with
      | none => rw [h] at e; cases e
      | some d =>
        rw [h] at e
        cases e
        obtain ⟨v, hv1, rv⟩ := r.get h
        refine ⟨v, ?_, rv⟩
        unfold L2.start
        rw [List.getElem?_append_left (by rw [List.length_map, lv]; exact hi), List.getElem?_map, hv1]
        rfl
    · rw [List.getElem?_append_right (by simpa using hi), List.getElem?_replicate] at e
      split at e
      · cases e; trivial
      · cases e

theorem all_defs {Γ : Cfg} {T : Txt} {fns : List Fn} {gl : Nat → D} {arr : Arr} (A : AllOk Γ T fns gl arr) : ∀ (n : Nat) (N : List Str) (f : Nat) (x : Str), T.fn[f]? = some x → FnFact Γ (T.sta N) ⟨callF fns gl arr n, gl, arr⟩ CX0 n f x
  | 0, N, f, x, hf => by
    obtain ⟨F, hF, mg, kp, N', ps, params, body, scope, oc, od, dV, kV, doc, pm, an, cdv, ct, osl, lk, hcd, sc, hps, hN, hchk, hsh⟩ := A.defs f x hf
    refine ⟨mg, kp, _, ps, F.np, ⟨fun vs H Q E h => h.1.trans hps.symm, fun Ar outer s H args us vs Q E hr hg e0 hb hv h => ?_⟩, fun ds M _ => rfl, hsh⟩
    obtain ⟨_, G, ρ, M, ds, _, _, p⟩ := h
    exact p.elim
  | n + 1, N, f, x, hf => by
    obtain ⟨F, hF, mg, kp, N', ps, params, body, scope, oc, od, dV, kV, doc, pm, an, cdv, ct, osl, lk, hcd, sc, hps, hN, hchk, hsh⟩ := A.defs f x hf
    have hcall : ∀ ds M, callF fns gl arr (n + 1) f ds M = if ds.length = F.np then gcR M (fin (evSs ⟨callF fns gl arr n, gl, arr⟩ F.body (env0 F ds) M)) else .stk := by
      intro ds M
      simp only [callF, hF]
    refine ⟨mg, kp, _, ps, F.np, fnG_of lk hcd sc (fun vs H Q E h => h.1.trans hps.symm) (fun Ar outer s H vs Q E hr hg h => ?_), fun ds M hl => (hcall ds M).trans (if_neg hl), hsh⟩
    obtain ⟨hlen, G, ρ, M, ds, c, r, p⟩ := h
    have p : Post (XPf Γ E) (RepS Γ) Γ G ρ H (if ds.length = F.np then gcR M (fin (evSs ⟨callF fns gl arr n, gl, arr⟩ F.body (env0 F ds) M)) else .stk) Q := hcall ds M ▸ p
    split at p
    · rename_i hdl
      have p := Post.gc (fun x G ρ ρ' H pp s q d fs e1 e2 e3 => q d fs e1 e2 (e3.shrink pp s)) c p
      have TB : Tab Γ (T.sta N') ⟨callF fns gl arr n, gl, arr⟩ CX0 n := ⟨sc.nd, A.glob, fun f x h => all_defs A n N' f x h, A.blt, fun _ _ _ _ _ h => h⟩
      have X0 : XOk Γ (T.sta N') CX0 n ⟨scope, scope⟩ (cxOf CX0 Γ.P Γ.w Γ.K Γ.mg Γ.base N' x scope (Γ.fA f) cdv Ar outer s H E).nox E :=
        ⟨rfl, rfl, rfl, A.nm, rfl, rfl, rfl, rfl, rfl, fun y hy => by
          unfold stB at hy
          split at hy
          · exact ⟨.inl (by assumption), .inl rfl⟩
          · exact ⟨.inr (by assumption), .inl rfl⟩
          · exact Bool.noConfusion hy, hr, hg, fun _ _ _ _ _ _ _ h => h.elim⟩
      refine ⟨_, PSs.nox (sndSs TB X0 PassesOwn.never F.body body hchk), ⟨G, ρ, H, G, ρ, H⟩, G, ρ, M, env0 F ds, ⟨Adv.refl _ _ _, Same.refl _, Pre.refl _, Fz.refl _⟩, start_rel c r hN ?_, ?_⟩
      · have := congrArg List.length sc.pre
        rw [List.length_take] at this
        rw [r.len]; omega
      · show PostS (XPf Γ E) Γ _ (evSs ⟨callF fns gl arr n, gl, arr⟩ F.body (env0 F ds) M) _
        cases e : evSs ⟨callF fns gl arr n, gl, arr⟩ F.body (env0 F ds) M with
        | next env' M' => rw [e] at p; exact fun G' ρ' σ' H' a rl => p G' ρ' H' .non a.adv rl.toCore .non
        | ret d M' => rw [e] at p; exact fun G' ρ' H' v a cc rv => p G' ρ' H' v a.adv cc rv
        | brk env' M' => rw [e] at p; exact p.elim
        | cnt env' M' => rw [e] at p; exact p.elim
        | exc y M' => rw [e] at p; exact fun G' ρ' H' a cc => p G' ρ' H' a.adv cc
        | stk => rw [e] at p; exact p.elim
    · exact p.elim

/-- a law's call from the top -/
theorem top_call {P : Program} {w : World} {K : PySem.W.Frag} {mg mb : Str → Option Value} {k : Nat} {fa a : Addr} {s₁ : Shared} {vs : List Value} {ns : List Int} (KX : K.In s₁.heap)
    (hns : s₁.heap.Ns mainGlobals mg) (hb : s₁.heap.Ns builtinsNs mb) (hbb : ∀ x : Str, x ≠ "__name__" → mb x = bootBuiltins x) (hlim : s₁.heap.NoLimit) (hg : s₁.gens = #[])
    (ha : s₁.heap.get? a = some { cls := .type "list", data := .seq vs.toArray }) (hi : PyProof.Rows.IntsAre vs ns) (hl : ns.length ≤ sizeLine) (hr : Room k callerA)
    (F : ∀ (base : Heap) (H : Hp), K.In base → base.Ns mainGlobals mg → SqL K H a (ns.map V.int) → ∃ (fd : FuncData) (ps : List Str) (sp : Sp), FnG P w K mg base CX0 k fa fd ps sp ∧ (∀ (s : Shared) (u : Value), K.In s.heap → BindsTo s fd ⟨[u], []⟩ (ps.zip [u])) ∧
      sp [.ref a] H (fun v _ => v = .bl true) E0) :
    codeAny (model P w) callerA (.call (.ref fa) ⟨[.ref a], []⟩) (fun r s' => r = .ok (.ret (.bool true)) ∧ OldK s₁.heap s'.heap ∧ s'.os = s₁.os ∧ PyProof.Rows.AllBare s'.gens) s₁ := by
  have rv : Vals (ns.map V.int) vs := L2.vals_ints hi
  have lenV := hi.length
  -- the script as a thing that is known to the object, where it is none of the module's own
  let FZ : HO := .frz { cls := .type "list", data := .seq vs.toArray } (.lst (ns.map V.int))
  suffices key : ∀ H : Hp, SqL K H a (ns.map V.int) → HOk P w H s₁.heap → (∀ b u, H b = some u → b = a ∧ u = FZ) → ((∃ u, H a = some u) → K.lookup a = none) → codeAny (model P w) callerA (.call (.ref fa) ⟨[.ref a], []⟩)
      (fun r s' => r = .ok (.ret (.bool true)) ∧ OldK s₁.heap s'.heap ∧ s'.os = s₁.os ∧ PyProof.Rows.AllBare s'.gens) s₁ by
    cases hk : K.lookup a with
    | some o =>
      have e := (KX a o hk).symm.trans ha
      cases e
      exact key (fun _ => none) (.inr ⟨_, vs.toArray, _, hk, rfl, rfl, rfl, by rw [List.size_toArray, lenV]; exact hl, rv⟩) (fun _ _ z => nomatch z) (fun _ _ z => nomatch z) fun ⟨_, z⟩ => nomatch z
    | none =>
      have at_a : ∀ {b u}, (if b = a then some FZ else none) = some u → b = a ∧ u = FZ := fun {b u} z => by
        by_cases hb : b = a
        · rw [if_pos hb] at z; cases z; exact ⟨hb, rfl⟩
        · rw [if_neg hb] at z; cases z
      refine key (fun b => if b = a then some FZ else none) (.inl (.inr ⟨_, if_pos rfl⟩)) (fun b u z => ?_) (fun b u z => at_a z) fun _ => hk
      obtain ⟨rfl, rfl⟩ := at_a z
      exact ⟨ha, by rw [List.length_map]; exact hl, vs, _, rv, ha⟩
  intro H hS hok hA hKa
  have free : ∀ {b : Addr} {o : Obj}, s₁.heap.get? b = some o → (∀ n, o.data ≠ .seq vs.toArray n) → H b = none := fun {b o} e d => by
    cases q : H b with
    | none => rfl
    | some u =>
      have e' := (hA b u q).1
      subst e'
      rw [ha] at e; cases e
      exact absurd rfl (d _)
  have nsK : ∀ {b : Addr} {m : Str → Option Value}, s₁.heap.Ns b m → (hidT s₁.heap H).Ns b m := fun {b m} ⟨o, es, ep, e, d, r⟩ => ⟨o, es, ep, hidT_get e (free e fun n z => by rw [d] at z; cases z), d, r⟩
  have kin : K.In (hidT s₁.heap H) := fun b o e => hidT_get (KX b o e) (by
    cases q : H b with
    | none => rfl
    | some u =>
      have e' := (hA b u q).1
      subst e'
      rw [hKa ⟨u, q⟩] at e; cases e)
  have e0 : Env0 P w K mg (hidT s₁.heap H) callerA [] s₁ H :=
    { frames := rfl, mod := ⟨kin, nsK hns, ⟨mb, nsK hb, hbb⟩, let ⟨mc, h1, h2⟩ := hlim; ⟨mc, nsK h1, h2⟩⟩, bs := fun b o e => of_hidT e, bsz := Nat.le_of_eq (hidT_size _ _), funs := trivial, frf := fun b hb => (nomatch hb), hok := hok, bare := .of_eq hg }
  obtain ⟨fd, ps, sp, FG, hbind, hsp⟩ := F _ H kin (nsK hns) hS
  refine codeAny_mono (FG.run callerA [] s₁ H ⟨[.ref a], []⟩ [.ref a] [.ref a] _ _ hr rfl e0 (hbind s₁ (.ref a) KX) (.cons rfl .nil) hsp) ?_
  rintro (e | fl) s' h
  · exact h.elim
  cases fl with
  | ret u =>
    obtain ⟨v, H', os, bare, un, hok', r', q⟩ := h
    cases (show v = .bl true from q)
    cases (show u = Value.bool true from r')
    refine ⟨rfl, OldK.of_keep fun b o e => ?_, os, bare⟩
    cases q : H b with
    | none => exact un.keep b o e q (fun z => nomatch z) (fun z => nomatch z)
    | some u =>
      obtain ⟨rfl, rfl⟩ := hA b u q
      have e2 := (hok' b _ (un.frzs b _ _ q)).1
      rw [ha] at e; cases e
      exact e2
  | _ => exact h.elim
end Mp
end

section
set_option Elab.async false
set_option linter.all false
set_option maxRecDepth 100000
/-! What the top has written, told by one run; from there to the table of defs. -/
namespace Mp
open PySem PySem.Spec L2

/-! ### call shapes -/
def pick {α : Type} (is : List Nat) (l : List α) : List α := is.filterMap fun i => l[i]?
theorem vals_pick {vs : List V} {us : List Value} (r : Vals vs us) : ∀ is : List Nat, Vals (pick is vs) (pick is us)
  | [] => .nil
  | i :: is => by
    have ih := vals_pick r is
    unfold pick at ih ⊢
    rw [List.filterMap_cons, List.filterMap_cons]
    cases e : vs[i]? with
    | none =>
      have e2 : us[i]? = none := by
        rw [List.getElem?_eq_none_iff] at e ⊢
        rw [← r.length]; exact e
      rw [e2]
      exact ih
    | some v =>
      obtain ⟨u, e2, ru⟩ := r.get e
      rw [e2]
      exact .cons ru ih
theorem Reps.get2 {Γ : Cfg} {G : Hp} {ρ : List Addr} : ∀ {v : List V} {d : List D} {i : Nat} {x : V}, Reps Γ G ρ v d → v[i]? = some x → ∃ y, d[i]? = some y ∧ Rep Γ G ρ x y
  | _, _, 0, _, .cons h _, e => by simp at e; subst e; exact ⟨_, rfl, h⟩
  | _, _, i + 1, y, .cons _ t, e => by
    obtain ⟨x, e1, e2⟩ := Reps.get2 (i := i) (x := y) t (by simpa using e)
    exact ⟨x, by simpa using e1, e2⟩
  | _, _, _, _, .nil, e => by simp at e
theorem reps_pick {Γ : Cfg} {G : Hp} {ρ : List Addr} {vs : List V} {us : List D} (r : Reps Γ G ρ vs us) : ∀ is : List Nat, Reps Γ G ρ (pick is vs) (pick is us)
  | [] => .nil
  | i :: is => by
    have ih := reps_pick r is
    unfold pick at ih ⊢
    rw [List.filterMap_cons, List.filterMap_cons]
    cases e : vs[i]? with
    | none =>
      have e2 : us[i]? = none := by
        rw [List.getElem?_eq_none_iff] at e ⊢
        rw [← r.len]; exact e
      rw [e2]
      exact ih
    | some v =>
      obtain ⟨u, e2, ru⟩ := r.get2 e
      rw [e2]
      exact .cons ru ih
theorem pick_range {α : Type} (l : List α) : ∀ n, n = l.length → pick (List.range n) l = l := by
  intro n hn
  subst hn
  unfold pick
  induction l with
  | nil => rfl
  | cons a l ih =>
    rw [List.length_cons, List.range_succ_eq_map, List.filterMap_cons]
    show a :: List.filterMap (fun i => (a :: l)[i]?) (List.map Nat.succ (List.range l.length)) = _
    rw [List.filterMap_map]
    congr 1

/-- a call shape: how many are written by place, the keywords at the call, the ones that lack with their defaults, the parameters' order -/
structure Shp where
  n : Nat
  ks : List Str
  ms : List (Str × D)
  is : List Nat
def Shp.arr (s : Shp) (xs zs : List D) : Option (List D) := if xs.length = s.n ∧ zs.length = s.ks.length then some (pick s.is (xs ++ s.ms.map (·.2) ++ zs)) else none
def shAt (shs : List (List Shp)) (f sh : Nat) : Option Shp := (shs[f]?).bind fun l => l[sh]?
def arrOf (shs : List (List Shp)) : Arr := fun f sh xs zs => match shAt shs f sh with
  | some s => s.arr xs zs
  | none => none
def ksOf (shs : List (List Shp)) : List (List (List Str)) := shs.map fun l => l.map (·.ks)
theorem ksOf_at {shs : List (List Shp)} {f sh : Nat} {ks : List Str} (h : (((ksOf shs)[f]?).bind fun l => l[sh]?) = some ks) : ∃ s, shAt shs f sh = some s ∧ s.ks = ks := by
  unfold ksOf at h
  unfold shAt
  rw [List.getElem?_map] at h
  cases e : shs[f]? with
  | none => rw [e] at h; cases h
  | some l =>
    rw [e] at h
    have h2 : (l.map (·.ks))[sh]? = some ks := h
    rw [List.getElem?_map] at h2
    cases e2 : l[sh]? with
    | none => rw [e2] at h2; cases h2
    | some s => rw [e2] at h2; exact ⟨s, e2, Option.some.inj h2⟩

/-! ### constants of the module -/
mutual
def datB (K : PySem.W.Frag) : D → Value → Bool
  | .non, .none => true
  | .bl b, .bool c => decide (b = c)
  | .int i, .int j _ => decide (i = j)
  | .str s, .str t _ => decide (s = t)
  | .tup ds, .ref a => (match K.lookup a with
    | some ⟨.type c, _, .seq its _, _⟩ => decide (c = "tuple") && (decide (its.size ≤ sizeLine) && datsB K ds its.toList)
    | _ => false)
  | _, _ => false
def datsB (K : PySem.W.Frag) : List D → List Value → Bool
  | [], [] => true
  | d :: ds, u :: us => datB K d u && datsB K ds us
  | _, _ => false
end
mutual
theorem datB_ok {Γ : Cfg} : ∀ (d : D) (u : Value), datB Γ.K d u = true → ∃ v, RelV v u ∧ ∀ G ρ, Rep Γ G ρ v d
  | .non, u, h => by
    cases u with
    | none => exact ⟨.non, rfl, fun _ _ => .non⟩
    | _ => simp [datB] at h
  | .bl b, u, h => by
    cases u with
    | bool c => exact ⟨.bl b, by rw [show b = c by simpa [datB] using h] <;> rfl, fun _ _ => .bl b⟩
    | _ => simp [datB] at h
  | .int i, u, h => by
    cases u with
    | int c t => exact ⟨.int i, ⟨t, by rw [show i = c by simpa [datB] using h]⟩, fun _ _ => .int i⟩
    | _ => simp [datB] at h
  | .str i, u, h => by
    cases u with
    | str c t => exact ⟨.str i, ⟨t, by rw [show i = c by simpa [datB] using h]⟩, fun _ _ => .str i⟩
    | _ => simp [datB] at h
  | .tup ds, u, h => by
    cases u with
    | ref a =>
      simp only [datB] at h
      split at h
      · rename_i c od its n sl q
        obtain ⟨h1, h2⟩ := Bool.and_eq_true_iff.mp h
        obtain ⟨h2, h3⟩ := Bool.and_eq_true_iff.mp h2
        obtain ⟨vs, r, k⟩ := datsB_ok ds _ h3
        exact ⟨.ref a, rfl, fun G ρ => .tup (.inr ⟨_, its, n, q, congrArg Value.type (of_decide_eq_true h1), rfl, of_decide_eq_true h2, r⟩) (k G ρ)⟩
      · cases h
    | _ => simp [datB] at h
  | .lst _, u, h => by simp [datB] at h
  | .obj _, u, h => by simp [datB] at h
  | .fn _, u, h => by simp [datB] at h
theorem datsB_ok {Γ : Cfg} : ∀ (ds : List D) (us : List Value), datsB Γ.K ds us = true → ∃ vs, Vals vs us ∧ ∀ G ρ, Reps Γ G ρ vs ds
  | [], [], _ => ⟨[], .nil, fun _ _ => .nil⟩
  | [], _ :: _, h => by simp [datsB] at h
  | _ :: _, [], h => by simp [datsB] at h
  | d :: ds, u :: us, h => by
    simp only [datsB] at h
    obtain ⟨h1, h2⟩ := Bool.and_eq_true_iff.mp h
    obtain ⟨v, r, k⟩ := datB_ok d u h1
    obtain ⟨vs, rs, ks⟩ := datsB_ok ds us h2
    exact ⟨v :: vs, .cons r rs, fun G ρ => .cons (k G ρ) (ks G ρ)⟩
end

/-! ### what is told of a def by its text alone -/
def BindT (x : Str) (st : Stmt) (ps : List Str) (s : Shp) : Prop := ∀ (kV doc pm : Value) (an : Option Addr) (cdv ct : Value) (D : Addr) (us mv ws : List Value), (s.ms ≠ [] → kV = .ref D) → us.length = s.n → mv.length = s.ms.length → ws.length = s.ks.length →
  KwChain D ((s.ms.map (·.1)).zip mv) (bindArgs (PySem.W.fnOf x x (defArgs st) (defBody st) (defScope st) .none kV doc pm an cdv ct) ⟨us, s.ks.zip ws⟩) (ps.zip (pick s.is (us ++ mv ++ ws)))
structure DefT (T : Txt) (shs : List (List Shp)) (f : Nat) (x : Str) (st : Stmt) (F : Fn) : Prop where
  ex : ∃ N ps, FnScope N ps (defScope st) ∧ ps.length = F.np ∧ N.length = F.nn ∧ chkSs (T.sta N) ⟨defScope st, defScope st⟩ F.body (defBody st) = true ∧
    ∀ sh s, shAt shs f sh = some s → BindT x st ps s ∧ (s.ks = [] → s.is = List.range (s.n + s.ms.length) ∧ s.n + s.ms.length = ps.length)
structure DefR where
  x : Str
  st : Stmt
  F : Fn
def Each (P : Nat → DefR → Prop) : Nat → List DefR → Prop
  | _, [] => True
  | i, a :: l => P i a ∧ Each P (i + 1) l
theorem Each.get {P : Nat → DefR → Prop} : ∀ {l : List DefR} {i j : Nat} {a : DefR}, Each P i l → l[j]? = some a → P (i + j) a
  | [], _, _, _, _, h => by simp at h
  | b :: l, i, 0, a, e, h => by simp at h; subst h; exact e.1
  | b :: l, i, j + 1, a, e, h => by
    have := Each.get (j := j) e.2 (by simpa using h)
    rw [show i + (j + 1) = i + 1 + j by omega]
    exact this

/-! ### the look at the heap behind the top -/
def kwAt (K : PySem.W.Frag) (f : Addr) (k : Str) (d : D) : Bool := match K.lookup f with
  | some ⟨_, _, .func fd, _⟩ => (match fd.kwdefaults with
    | .ref D => (match PySem.W.nsIn K D k with
      | some (some u) => datB K d u
      | _ => false)
    | _ => false)
  | _ => false
def moreB (T : Txt) (cs : List D) (shs : List (List Shp)) (K : PySem.W.Frag) : Bool :=
  (T.bn.all fun x => He.eqO (PySem.W.nsIn K mainGlobals x) (some none)) &&
  ((T.gn.zip cs).all fun p => match PySem.W.nsIn K mainGlobals p.1 with
    | some (some u) => datB K p.2 u
    | _ => false) &&
  (T.fn.all fun x => He.eqO (PySem.W.nsIn K mainGlobals x) (some (some (.ref (He.ga K x))))) &&
  ((T.fn.zip shs).all fun p => p.2.all fun s => s.ms.all fun m => kwAt K (He.ga K p.1) m.1 m.2)
def defD (d : DefR) : He.DefD := ⟨(d.x, none), d.x, d.x, defArgs d.st, defBody d.st, defScope d.st, [], []⟩
def mixO (o : Obj) : Bool := match o.data with
  | .seq its _ => mixV its.toList
  | _ => false
/-- the part of the heap that is looked at, tuples that may be keys left out -/
def frM (g : Addr → Option Obj) (n : Nat) : PySem.W.Frag := (He.frG g (He.asD g n)).filter fun p => !mixO p.2
theorem frM_in {h : Heap} {n : Nat} : (frM h.get? n).In h := fun _ _ e => He.frG_mem (List.mem_filter.mp (He.lookup_mem e)).1
theorem frM_nm {g : Addr → Option Obj} {n : Nat} : NoMix (frM g n) := fun a o its m e d => by
  have h := (List.mem_filter.mp (He.lookup_mem e)).2
  have h2 : (!mixO o) = true := h
  unfold mixO at h2
  rw [d] at h2
  simpa using h2
def obsM (n : Nat) (ds : List DefR) (more : PySem.W.Frag → Bool) (g : Addr → Option Obj) : He.AlD := ((He.obsD [] (ds.map defD) (frM g n)).1 && more (frM g n), (He.obsD [] (ds.map defD) (frM g n)).2)
def SaysM (ds : List DefR) (more : PySem.W.Frag → Bool) (K : PySem.W.Frag) : Prop := ((He.obsD [] (ds.map defD) K).1 && more K, (He.obsD [] (ds.map defD) K).2) = He.valD (ds.map defD)
def hookM (n : Nat) (ds : List DefR) (more : PySem.W.Frag → Bool) : PySem.W.Hook where
  α := He.AlD
  obs := fun s => obsM n ds more s.heap.get?
  val := fun _ => He.valD (ds.map defD)
  says := fun _ h => ∃ K : PySem.W.Frag, K.In h ∧ NoMix K ∧ SaysM ds more K
  of := fun _ _ e => ⟨_, frM_in, frM_nm, e⟩
  keeps := fun _ _ _ ⟨K, hK, nm, c⟩ k => ⟨K, PySem.W.Frag.In.keeps hK k, nm, c⟩
theorem obsM_eq {n : Nat} {ds : List DefR} {more : PySem.W.Frag → Bool} {g : Addr → Option Obj} {s : Shared} (h : ∀ a, g a = s.heap.get? a) : obsM n ds more g = (hookM n ds more).obs s := by
  have e : g = s.heap.get? := funext h
  rw [e] <;> rfl
theorem SaysM.more {ds : List DefR} {more : PySem.W.Frag → Bool} {K : PySem.W.Frag} (c : SaysM ds more K) : more K = true := by
  have h : ((He.obsD [] (ds.map defD) K).1 && more K) = true := congrArg (fun z : He.AlD => z.1) (show (((He.obsD [] (ds.map defD) K).1 && more K, (He.obsD [] (ds.map defD) K).2) : He.AlD) = He.valD (ds.map defD) from c)
  exact (Bool.and_eq_true_iff.mp h).2
theorem SaysM.d {ds : List DefR} {more : PySem.W.Frag → Bool} {K : PySem.W.Frag} (c : SaysM ds more K) : He.SaysD [] (ds.map defD) K := by
  have h : ((He.obsD [] (ds.map defD) K).1 && more K) = true := congrArg (fun z : He.AlD => z.1) (show (((He.obsD [] (ds.map defD) K).1 && more K, (He.obsD [] (ds.map defD) K).2) : He.AlD) = He.valD (ds.map defD) from c)
  have h1 := (Bool.and_eq_true_iff.mp h).1
  have c' : (((He.obsD [] (ds.map defD) K).1 && more K, (He.obsD [] (ds.map defD) K).2) : He.AlD) = He.valD (ds.map defD) := c
  have h2 := (Prod.ext_iff.mp c').2
  exact Prod.ext h1 h2

theorem kwAt_ok {Γ : Cfg} {f : Addr} {k : Str} {d : D} {oc : Value} {od : Option Addr} {osl : Array (Option Value)} {fd : FuncData} (lk : Γ.K.lookup f = some ⟨oc, od, .func fd, osl⟩) (h : kwAt Γ.K f k d = true) :
    ∃ D u v, fd.kwdefaults = .ref D ∧ PySem.W.nsIn Γ.K D k = some (some u) ∧ RelV v u ∧ ∀ G ρ, Rep Γ G ρ v d := by
  unfold kwAt at h
  rw [lk] at h
  simp only at h
  split at h
  · rename_i D e
    split at h
    · rename_i u e2
      obtain ⟨v, r, k⟩ := datB_ok d u h
      exact ⟨D, u, v, e, e2, r, k⟩
    · cases h
  · cases h

theorem kwd_all {Γ : Cfg} {f : Addr} {oc : Value} {od : Option Addr} {osl : Array (Option Value)} {fd : FuncData} (lk : Γ.K.lookup f = some ⟨oc, od, .func fd, osl⟩) : ∀ (ms : List (Str × D)), (∀ m ∈ ms, kwAt Γ.K f m.1 m.2 = true) →
    ∃ (mv : List Value) (vs : List V), mv.length = ms.length ∧ Vals vs mv ∧ (∀ G ρ, Reps Γ G ρ vs (ms.map (·.2))) ∧ ∀ D, fd.kwdefaults = .ref D → ∀ q ∈ (ms.map (·.1)).zip mv, PySem.W.nsIn Γ.K D q.1 = some (some q.2)
  | [], _ => ⟨[], [], rfl, .nil, fun _ _ => .nil, fun _ _ q hq => by cases hq⟩
  | m :: ms, h => by
    obtain ⟨D, u, v, e1, e2, r, k⟩ := kwAt_ok lk (h m List.mem_cons_self)
    obtain ⟨mv, vs, l, rs, ks, z⟩ := kwd_all lk ms fun q hq => h q (List.mem_cons_of_mem _ hq)
    refine ⟨u :: mv, v :: vs, congrArg Nat.succ l, .cons r rs, fun G ρ => .cons (k G ρ) (ks G ρ), fun D' e q hq => ?_⟩
    rcases List.mem_cons.mp (show q ∈ (m.1, u) :: (ms.map (·.1)).zip mv from hq) with e3 | hq
    · rw [e3]
      rw [e1] at e
      cases e
      exact e2
    · exact z D' e q hq

theorem sh_fact {Γ : Cfg} {f : Addr} {x : Str} {st : Stmt} {ps : List Str} {s : Shp} {oc : Value} {od : Option Addr} {osl : Array (Option Value)} {kV doc pm cdv ct : Value} {an : Option Addr}
    (lk : Γ.K.lookup f = some ⟨oc, od, .func (PySem.W.fnOf x x (defArgs st) (defBody st) (defScope st) .none kV doc pm an cdv ct), osl⟩) (hms : ∀ m ∈ s.ms, kwAt Γ.K f m.1 m.2 = true) (B : BindT x st ps s) (hr : s.ks = [] → s.is = List.range (s.n + s.ms.length) ∧ s.n + s.ms.length = ps.length) :
    ShFact Γ (PySem.W.fnOf x x (defArgs st) (defBody st) (defScope st) .none kV doc pm an cdv ct) ps s.ks s.arr := by
  obtain ⟨mv, mvs, hl, rv, rr, hns⟩ := kwd_all lk s.ms hms
  have hD : ∃ D : Addr, s.ms ≠ [] → kV = .ref D := by
    cases e : s.ms with
    | nil => exact ⟨0, fun z => absurd rfl z⟩
    | cons m r =>
      obtain ⟨D, _, _, e1, _⟩ := kwAt_ok lk (hms m (by rw [e]; exact List.mem_cons_self))
      exact ⟨D, fun _ => e1⟩
  obtain ⟨D, hD⟩ := hD
  have hks : ∀ q ∈ (s.ms.map (·.1)).zip mv, PySem.W.nsIn Γ.K D q.1 = some (some q.2) := by
    intro q hq
    by_cases e : s.ms = []
    · rw [e] at hq; cases hq
    · exact hns D (hD e) q hq
  have to : ∀ (s' : Shared) (us ws : List Value), Γ.K.In s'.heap → us.length = s.n → ws.length = s.ks.length → BindsTo s' (PySem.W.fnOf x x (defArgs st) (defBody st) (defScope st) .none kV doc pm an cdv ct) ⟨us, s.ks.zip ws⟩ (ps.zip (pick s.is (us ++ mv ++ ws))) :=
    fun s' us ws X l1 l2 => BindsTo.of_looks fun M => KwChain.looks X hks (B kV doc pm an cdv ct D us mv ws hD l1 hl l2)
  constructor
  · intro hk
    obtain ⟨hi, hp⟩ := hr hk
    refine ⟨mv, mvs, fun s' us X hlen => ?_, rv, fun G ρ vs xs full r e => ?_⟩
    · rw [List.length_append, hl] at hlen
      have l1 : us.length = s.n := by omega
      have t := to s' us [] X l1 (by rw [hk]; rfl)
      rw [hk] at t
      have e : pick s.is (us ++ mv ++ []) = us ++ mv := by
        rw [hi, List.append_nil]
        exact pick_range _ _ (by rw [List.length_append, l1, hl])
      rw [e] at t
      exact t
    · unfold Shp.arr at e
      split at e
      · rename_i c
        have e2 := Option.some.inj e
        rw [← e2, hi, List.append_nil, pick_range _ _ (by rw [List.length_append, c.1, List.length_map])]
        exact r.append (rr G ρ)
      · cases e
  · intro hk
    refine ⟨s.n, fun us ws => pick s.is (us ++ mv ++ ws), fun vs zs => pick s.is (vs ++ mvs ++ zs), ⟨to, fun r1 r2 => vals_pick ((r1.append rv).append r2) _⟩, fun G ρ vs zs xs ys full r1 r2 e => ?_⟩
    unfold Shp.arr at e
    split at e
    · rename_i c
      have e2 := Option.some.inj e
      rw [← e2]
      exact ⟨reps_pick ((r1.append (rr G ρ)).append r2) _, r1.len.trans c.1, r2.len.trans c.2⟩
    · cases e

/-- the table -/
theorem allOk {P : Program} {w : World} {K : PySem.W.Frag} {mg : Str → Option Value} {h base : Heap} {ds : List DefR} {T : Txt} {cs : List D} {shs : List (List Shp)} (KX : K.In h) (nm : NoMix K) (G : h.Ns mainGlobals mg) (c : SaysM ds (moreB T cs shs) K)
    (hT : T.fn = ds.map (·.x)) (hk : T.ks = ksOf shs) (hls : shs.length = ds.length) (hlc : T.gn.length ≤ cs.length) (E : Each (fun f d => DefT T shs f d.x d.st d.F) 0 ds) :
    AllOk ⟨P, w, K, mg, base, fun f => He.ga K (T.fn.getD f Str.empty), fun _ => 0⟩ T (ds.map (·.F)) (fun i => cs.getD i .non) (arrOf shs) := by
  have m := c.more
  unfold moreB at m
  obtain ⟨m, m4⟩ := Bool.and_eq_true_iff.mp m
  obtain ⟨m, m3⟩ := Bool.and_eq_true_iff.mp m
  obtain ⟨m1, m2⟩ := Bool.and_eq_true_iff.mp m
  refine ⟨fun i x hx => ?_, fun f x hx => ?_, fun x hx => ?_, nm⟩
  · have hi : i < T.gn.length := (List.getElem?_eq_some_iff.mp hx).1
    have hc : cs[i]? = some (cs.getD i .non) := by
      rw [List.getD_eq_getElem?_getD, List.getElem?_eq_getElem (by omega)] <;> rfl
    have hm := List.all_eq_true.mp m2 (x, cs.getD i .non) (List.mem_of_getElem? (i := i) (by rw [List.getElem?_zip_eq_some]; exact ⟨hx, hc⟩))
    simp only at hm
    split at hm
    · rename_i u e
      obtain ⟨v, r, k⟩ := datB_ok (Γ := ⟨P, w, K, mg, base, fun f => He.ga K (T.fn.getD f Str.empty), fun _ => 0⟩) _ u hm
      exact ⟨u, v, PySem.W.mg_of KX G e, r, k⟩
    · cases hm
  · have hxm : x ∈ T.fn := List.mem_of_getElem? hx
    have hd := hx
    rw [hT, List.getElem?_map] at hd
    cases e : ds[f]? with
    | none => rw [e] at hd; cases hd
    | some d =>
      rw [e] at hd
      have ex : d.x = x := Option.some.inj hd
      subst ex
      refine ⟨d.F, by rw [List.getElem?_map, e] <;> rfl, ?_⟩
      have gx : T.fn.getD f Str.empty = d.x := by rw [List.getD_eq_getElem?_getD, hx] <;> rfl
      obtain ⟨N, ps, sc, hps, hN, hchk, hsh⟩ := (E.get e).ex
      rw [Nat.zero_add] at hsh
      obtain ⟨fd, FD⟩ := c.d.def_ f (d := defD d) (by rw [List.getElem?_map, e] <;> rfl)
      obtain ⟨oc, od, dV, kV, doc, pm, an, cdv, ct, osl, hfd, lk, hcd, hdV, _⟩ := FD.ex
      have hd0 : dV = .none := by
        rcases hdV with ⟨_, z⟩ | ⟨z, _⟩
        · exact z
        · exact absurd rfl z
      subst hd0
      subst hfd
      refine ⟨?_, ?_, N, ps, defArgs d.st, defBody d.st, defScope d.st, oc, od, .none, kV, doc, pm, an, cdv, ct, osl, ?_, hcd, sc, hps, hN, hchk, fun sh ks hks => ?_⟩
      · show mg d.x = some (.ref (He.ga K (T.fn.getD f Str.empty)))
        rw [gx]
        exact PySem.W.mg_of KX G (He.eqO_ok (List.all_eq_true.mp m3 d.x hxm))
      · show PySem.W.keepIn K (.ref (He.ga K (T.fn.getD f Str.empty))) = true
        rw [gx]
        exact FD.kp
      · show K.lookup (He.ga K (T.fn.getD f Str.empty)) = _
        rw [gx]
        exact lk
      · rw [hk] at hks
        obtain ⟨s, e1, e2⟩ := ksOf_at hks
        subst e2
        have ea : arrOf shs f sh = s.arr := by
          funext xs zs
          unfold arrOf
          rw [e1]
        rw [ea]
        obtain ⟨B, hr⟩ := hsh sh s e1
        have hsf : ∃ l, shs[f]? = some l ∧ s ∈ l := by
          unfold shAt at e1
          cases q : shs[f]? with
          | none => rw [q] at e1; cases e1
          | some l => rw [q] at e1; exact ⟨l, rfl, List.mem_of_getElem? (show l[sh]? = some s from e1)⟩
        obtain ⟨l, q, hl⟩ := hsf
        refine sh_fact (f := He.ga K d.x) lk (fun m hm => ?_) B hr
        have hz := List.all_eq_true.mp m4 (d.x, l) (List.mem_of_getElem? (i := f) (by rw [List.getElem?_zip_eq_some]; exact ⟨hx, q⟩))
        exact List.all_eq_true.mp (List.all_eq_true.mp hz s hl) m hm
  · exact PySem.W.mg_none_of KX G (He.eqO_ok (List.all_eq_true.mp m1 x hx))

/-- the law's end: what its def answers at a script -/
theorem top_law {l : PySem.W.OpenLaw} {n k fl na : Nat} {q : Program} {loose : List Str} {XP : (Str → Option Value) → Heap → Prop} {d : DefRec} {ds : List DefR} {T : Txt} {cs : List D} {shs : List (List Shp)}
    (hn : l.most = some n) (hn2 : n ≤ sizeLine) (hdf : d.params.defaults = []) (hr : Room k callerA)
    (hT : T.fn = ds.map (·.x)) (hk : T.ks = ksOf shs) (hls : shs.length = ds.length) (hlc : T.gn.length ≤ cs.length) (E : Each (fun f d => DefT T shs f d.x d.st d.F) 0 ds) (hfl : T.fn[fl]? = some d.name) (hsl : shAt shs fl 0 = some ⟨1, [], [], [0]⟩)
    (law : ∀ ns : List Int, ns.length ≤ n → ∃ M, callF (ds.map (·.F)) (fun i => cs.getD i .non) (arrOf shs) k fl [.lst (ns.map .int)] [] = .ok (.bl true) M) :
    PySem.W.WalkO q loose XP (hookM na ds (moreB T cs shs)).says l.row.toRowW d [] (fun f vs => PySem.call f vs) := by
  refine Att.attach_call hn hdf fun w s₀ s₁ mg mb fa o pm cd doc a vs ns G Y ho hd hcd hmg hobj hints hlen hg => ?_
  obtain ⟨K, KX, nm, c⟩ := Y
  refine top_call (k := k) KX G.T.g G.T.b G.T.builtins G.T.nolimit hg hobj hints (Nat.le_trans hlen hn2) hr fun base H Kb Gb hS => ?_
  have A := allOk (P := l.row.toRowW.prog) (w := w) (base := base) KX nm G.T.g c hT hk hls hlc E
  have F := all_defs A k [] fl d.name hfl
  have ef : (Txt.fn T).getD fl Str.empty = d.name := by rw [List.getD_eq_getElem?_getD, hfl] <;> rfl
  have efa : fa = He.ga K (T.fn.getD fl Str.empty) := by
    have e := hmg.symm.trans F.mg
    cases e
    rfl
  obtain ⟨fd, ps, m, FG, hst, hsh⟩ := F.ok
  obtain ⟨M, hlaw⟩ := law ns hlen
  have hm : m = 1 := Classical.byContradiction fun z => by
    have e := hst [.lst (ns.map .int)] [] (fun y => z y.symm)
    have e2 := hlaw.symm.trans e
    cases e2
  subst hm
  have ea : arrOf shs fl 0 = (⟨1, [], [], [0]⟩ : Shp).arr := by
    funext xs zs
    unfold arrOf
    rw [hsl]
  have hkw : (T.sta []).kw fl 0 = some [] := by
    unfold Sta.kw
    show ((T.ks[fl]?).bind fun l => l[0]?) = some []
    rw [hk]
    unfold ksOf
    unfold shAt at hsl
    rw [List.getElem?_map]
    cases q : shs[fl]? with
    | none => rw [q] at hsl; cases hsl
    | some l =>
      rw [q] at hsl
      have h2 : l[0]? = some ⟨1, [], [], [0]⟩ := hsl
      show (l.map (·.ks))[0]? = some []
      rw [List.getElem?_map, h2] <;> rfl
  obtain ⟨es, evs, hb, hv, hre⟩ := (hsh 0 [] hkw).plain rfl
  have hin : ∀ (G : Hp) (ρ : List Addr) (ns : List Int), Reps ⟨l.row.toRowW.prog, w, K, mg, base, fun f => He.ga K (T.fn.getD f Str.empty), fun _ => 0⟩ G ρ (ns.map V.int) (ns.map D.int) := by
    intro G ρ ns
    induction ns with
    | nil => exact .nil
    | cons i r ih => exact .cons (.int i) ih
  have he : evs = [] := by
    have r := (hre (fun _ => none) [] [.int 0] [.int 0] [.int 0] (.cons (.int 0) .nil) ((congrFun (congrFun ea [.int 0]) []).trans rfl)).len
    simpa using r
  subst he
  have hes : es = [] := by
    have := hv.length
    cases es with
    | nil => rfl
    | cons _ _ => simp at this
  subst hes
  subst efa
  have sp : spF ⟨l.row.toRowW.prog, w, K, mg, base, fun f => He.ga K (T.fn.getD f Str.empty), fun _ => 0⟩ (callF (ds.map (·.F)) (fun i => cs.getD i .non) (arrOf shs) k fl) 1 [.ref a] H (fun v _ => v = .bl true) E0 := by
    refine ⟨rfl, H, [], [], [.lst (ns.map .int)], ⟨Same.refl _, fun _ h => (by cases h), List.nodup_nil, rfl, fun i o a h => (by simp at h)⟩, .cons (.lst hS (hin _ _ ns)) .nil, ?_⟩
    rw [hlaw]
    intro G' ρ' H' v _ _ r
    cases r
    rfl
  exact ⟨fd, ps, _, FG, fun s u X => hb s [u] X (FG.len _ _ _ _ sp), sp⟩
end Mp
end

section
set_option Elab.async false
set_option linter.all false
set_option maxRecDepth 100000
/-! Running the evaluator: loops, the feed. -/
namespace Mp
open PySem PySem.Spec

/-! ### while -/
theorem whileN_mono {t : Env → Sto → Res Bool} {b : Env → Sto → SRes} : ∀ {n m : Nat} {env : Env} {M : Sto} {r : SRes}, whileN t b n env M = some r → n ≤ m → whileN t b m env M = some r
  | 0, _, _, _, _, h, _ => by simp [whileN] at h
  | n + 1, 0, _, _, _, _, h => by omega
  | n + 1, m + 1, env, M, r, h, le => by
    unfold whileN at h ⊢
    cases e : t env M with
    | ok x M' =>
      rw [e] at h
      cases x with
      | false => exact h
      | true =>
        have h : (match b env M' with
          | .next env' M'' => whileN t b n env' M''
          | .cnt env' M'' => whileN t b n env' M''
          | .brk env' M'' => some (.next env' M'')
          | r => some r) = some r := h
        show (match b env M' with
          | .next env' M'' => whileN t b m env' M''
          | .cnt env' M'' => whileN t b m env' M''
          | .brk env' M'' => some (.next env' M'')
          | r => some r) = some r
        cases e2 : b env M' with
        | next a c => rw [e2] at h; exact whileN_mono h (by omega)
        | cnt a c => rw [e2] at h; exact whileN_mono h (by omega)
        | _ => rw [e2] at h; exact h
    | exc x M' => rw [e] at h; exact h
    | stk => rw [e] at h; exact h
theorem whileD_eq {t : Env → Sto → Res Bool} {b : Env → Sto → SRes} {n : Nat} {env : Env} {M : Sto} {r : SRes} (h : whileN t b n env M = some r) : whileD t b env M = r := by
  have ex : ∃ r n, whileN t b n env M = some r := ⟨r, n, h⟩
  unfold whileD
  rw [dif_pos ex]
  obtain ⟨m, hm⟩ := ex.choose_spec
  have h1 := whileN_mono h (Nat.le_max_left n m)
  have h2 := whileN_mono hm (Nat.le_max_right n m)
  exact Option.some.inj (h2.symm.trans h1)
/-- a run: n turns by next, then the test fails -/
inductive Turns (t : Env → Sto → Res Bool) (b : Env → Sto → SRes) : Env → Sto → Env → Sto → Prop
  | done {env M M'} : t env M = .ok false M' → Turns t b env M env M'
  | more {env M M1 e2 M2 e3 M3} : t env M = .ok true M1 → b env M1 = .next e2 M2 → Turns t b e2 M2 e3 M3 → Turns t b env M e3 M3
theorem Turns.n {t : Env → Sto → Res Bool} {b : Env → Sto → SRes} {env M e' M'} (h : Turns t b env M e' M') : ∃ n, whileN t b n env M = some (.next e' M') := by
  induction h with
  | done ht => exact ⟨1, by simp only [whileN, ht]⟩
  | more ht hb _ ih =>
    obtain ⟨n, hn⟩ := ih
    exact ⟨n + 1, by simp only [whileN, ht, hb, hn]⟩
theorem whileD_turns {t : Env → Sto → Res Bool} {b : Env → Sto → SRes} {env M e' M'} (h : Turns t b env M e' M') : whileD t b env M = .next e' M' := whileD_eq h.n.choose_spec
theorem whileD_false {t : Env → Sto → Res Bool} {b : Env → Sto → SRes} {env M M'} (h : t env M = .ok false M') : whileD t b env M = .next env M' := whileD_turns (.done h)
theorem whileD_true {t : Env → Sto → Res Bool} {b : Env → Sto → SRes} {env M M1 e2 M2} {r : SRes} (h : t env M = .ok true M1) (hb : b env M1 = .next e2 M2) (hr : ∃ n, whileN t b n e2 M2 = some r) : ∃ n, whileN t b n env M = some r := by
  obtain ⟨n, hn⟩ := hr
  exact ⟨n + 1, by simp only [whileN, h, hb, hn]⟩

/-! ### for -/
theorem forL_keep {step : D → Env → Sto → SRes} (I : Env → Sto → Prop) : ∀ (ds : List D) (env : Env) (M : Sto), I env M → (∀ d ∈ ds, ∀ env M, I env M → ∃ env' M', step d env M = .next env' M' ∧ I env' M') → ∃ env' M', forL step ds env M = .next env' M' ∧ I env' M'
  | [], env, M, h, _ => ⟨env, M, rfl, h⟩
  | d :: ds, env, M, h, k => by
    obtain ⟨e1, M1, h1, i1⟩ := k d List.mem_cons_self env M h
    obtain ⟨e2, M2, h2, i2⟩ := forL_keep I ds e1 M1 i1 fun d' hd => k d' (List.mem_cons_of_mem _ hd)
    exact ⟨e2, M2, by simp only [forL, h1, h2], i2⟩
/-- by the number of turns made -/
theorem forL_idx {step : D → Env → Sto → SRes} (I : Nat → Env → Sto → Prop) : ∀ (ds : List D) (i : Nat) (env : Env) (M : Sto), I i env M → (∀ j d, ds[j]? = some d → ∀ env M, I (i + j) env M → ∃ env' M', step d env M = .next env' M' ∧ I (i + j + 1) env' M') → ∃ env' M', forL step ds env M = .next env' M' ∧ I (i + ds.length) env' M'
  | [], i, env, M, h, _ => ⟨env, M, rfl, h⟩
  | d :: ds, i, env, M, h, k => by
    obtain ⟨e1, M1, h1, i1⟩ := k 0 d rfl env M h
    obtain ⟨e2, M2, h2, i2⟩ := forL_idx I ds (i + 1) e1 M1 i1 fun j d' hd e M h => by
      have := k (j + 1) d' (by simpa using hd) e M (by rw [show i + (j + 1) = i + 1 + j by omega]; exact h)
      rw [show i + (j + 1) = i + 1 + j by omega] at this
      exact this
    exact ⟨e2, M2, by simp only [forL, h1, h2], by rw [List.length_cons, show i + (ds.length + 1) = i + 1 + ds.length by omega]; exact i2⟩
theorem iota_at : ∀ (n j : Nat) (lo : Int) (d : D), (iota lo n)[j]? = some d → j < n ∧ d = .int (lo + j)
  | 0, j, lo, d, h => by simp [iota] at h
  | n + 1, 0, lo, d, h => by simp [iota] at h; exact ⟨by omega, by rw [← h]; simp⟩
  | n + 1, j + 1, lo, d, h => by
    have := iota_at n j (lo + 1) d (by simpa [iota] using h)
    exact ⟨by omega, by rw [this.2]; congr 1; push_cast; omega⟩
theorem iota_mem {n : Nat} {lo : Int} {d : D} (h : d ∈ iota lo n) : ∃ j : Nat, j < n ∧ d = .int (lo + j) := by
  obtain ⟨j, hj⟩ := List.getElem?_of_mem h
  exact ⟨j, iota_at n j lo d hj⟩
/-! ### figures -/
theorem widthOk_of {i j : Int} (hi : i.natAbs < 2 ^ 4000) (hj : j.natAbs < 2 ^ 4000) : widthOk i j = true := by
  unfold widthOk
  rw [decide_eq_true hi, decide_eq_true hj] <;> rfl
theorem small_lt {i : Int} {k : Nat} (h : i.natAbs ≤ k) (hk : k < 2 ^ 4000 := by decide) : i.natAbs < 2 ^ 4000 := Nat.lt_of_le_of_lt h hk
end Mp
end

section
set_option Elab.async false
set_option linter.all false
set_option maxRecDepth 100000
/-! The evaluator by rewriting: one row for each word. -/
namespace Mp
open PySem PySem.Spec
section
variable (c : Cal) (env : Env) (M : Sto)
/-! ### what goes on behind a value -/
def lkK : Option Slot → Sto → Res D
  | some (.val d), M => .ok d M
  | _, _ => .stk
def pkK : Option Slot → Sto → Res D
  | some (.own ds), M => .ok (.lst ds) M
  | _, _ => .stk
def tupK : List D → Sto → Res D := fun ds M => .ok (.tup ds) M
def lstK : List D → Sto → Res D := fun ds M => .ok (.lst ds) M
def con1 (r : Es) : D → Sto → Res (List D) := fun x M => (evEs c r env M).bind fun xs M => .ok (x :: xs) M
def con2 (x : D) : List D → Sto → Res (List D) := fun xs M => .ok (x :: xs) M
def pcon1 (r : Es) : D → Sto → Res (List D) := fun x M => (evPs c r env M).bind fun xs M => .ok (x :: xs) M
def bin1 (o : Bop) (b : E) : D → Sto → Res D := fun x M => (evE c b env M).bind fun y M => binD o x y M
def cmp1 (o : Cop) (b : E) : D → Sto → Res D := fun x M => (peek b env M (evE c b env M)).bind fun y M => cmpD o x y M
def chn4 (p : Cop) (y : D) : D → Sto → Res D := fun w M => cmpD p y w M
def chn3 (p : Cop) (y : D) (d : E) : D → Sto → Res D := fun z M => (match z with
      | .bl true => (evE c d env M).bind (chn4 p y)
      | .bl false => .ok (.bl false) M
      | _ => .stk)
def chn2 (o p : Cop) (x : D) (d : E) : D → Sto → Res D := fun y M => (cmpD o x y M).bind (chn3 c env p y d)
def chn1 (o p : Cop) (b d : E) : D → Sto → Res D := fun x M => (evE c b env M).bind (chn2 c env o p x d)
def idx1 (b : E) : D → Sto → Res D := fun x M => (evE c b env M).bind fun y M => idxD x y M
def dgt1 (b : E) : D → Sto → Res D := fun x M => (evE c b env M).bind fun y M => dgtD x y M
def slc1 (lo hi : O) : D → Sto → Res D := fun x M => (evO c lo env M).bind fun l M => (evO c hi env M).bind fun h M => slcD x l h M
def slc2 (x : D) (hi : O) : Option Int → Sto → Res D := fun l M => (evO c hi env M).bind fun h M => slcD x l h M
def negK : D → Sto → Res D
  | .int i, M => .ok (.int (-i)) M
  | _, _ => .stk
def notK : Bool → Sto → Res D := fun t M => .ok (.bl (!t)) M
def nonK : D → Sto → Res D := fun x M => (truD x M).bind notK
def and1 (b : E) : D → Sto → Res D := fun x M => (truD x M).bind fun t M => if t = true then evE c b env M else .ok x M
def or1 (b : E) : D → Sto → Res D := fun x M => (truD x M).bind fun t M => if t = true then .ok x M else evE c b env M
def ifeK (a b : E) : Bool → Sto → Res D := fun t M => if t = true then evE c a env M else evE c b env M
def cal1 (f sh : Nat) (ks : Es) : List D → Sto → Res D := fun xs M => (evEs c ks env M).bind fun zs M => (match c.arr f sh xs zs with | some ds => c.cal f ds M | none => .stk)
def cal2 (f sh : Nat) (xs : List D) : List D → Sto → Res D := fun zs M => (match c.arr f sh xs zs with | some ds => c.cal f ds M | none => .stk)
def cal3 (f : Nat) (M : Sto) : Option (List D) → Res D
  | some ds => c.cal f ds M
  | none => .stk
def g2c (x y : D) : D → Sto → Res D := fun w M => getD x y w M
def g2b (z : E) (x : D) : D → Sto → Res D := fun y M => (evE c z env M).bind fun w M => getD x y w M
def g2a (k z : E) : D → Sto → Res D := fun x M => if isDct x M = true then (evE c k env M).bind fun y M => (evE c z env M).bind fun w M => getD x y w M else .stk
def g1a (k : E) : D → Sto → Res D := fun x M => if isDct x M = true then (evE c k env M).bind fun y M => getD x y .non M else .stk
def g1b (x : D) : D → Sto → Res D := fun y M => getD x y .non M
def isiK (t : Ty) : D → Sto → Res D := fun x M => if isiOk x then .ok (.bl (isiD x t)) M else .stk
def intO : D → Sto → Res (Option Int)
  | .int i, M => .ok (some i) M
  | _, _ => .stk
def blK : D → Sto → Res Bool
  | .bl k, M => .ok k M
  | _, _ => .stk
def tcmp1 (o : Cop) (b : E) : D → Sto → Res Bool := fun x M => (peek b env M (evE c b env M)).bind fun y M => (cmpD o x y M).bind blK
def tchn4 (p : Cop) (y : D) : D → Sto → Res Bool := fun w M => (cmpD p y w M).bind blK
def tchn3 (p : Cop) (y : D) (d : E) : D → Sto → Res Bool := fun z M => (match z with
      | .bl true => (evE c d env M).bind (tchn4 p y)
      | .bl false => .ok false M
      | _ => .stk)
def tchn2 (o p : Cop) (x : D) (d : E) : D → Sto → Res Bool := fun y M => (cmpD o x y M).bind (tchn3 c env p y d)
def tchn1 (o p : Cop) (b d : E) : D → Sto → Res Bool := fun x M => (evE c b env M).bind (tchn2 c env o p x d)
def tnotK : Bool → Sto → Res Bool := fun b M => .ok (!b) M
def tandK (b : T) : Bool → Sto → Res Bool := fun x M => if x = true then evT c b env M else .ok false M
def torK (b : T) : Bool → Sto → Res Bool := fun x M => if x = true then .ok true M else evT c b env M
def dspK (ks : List Str) : List D → Sto → Res D := fun ys M => .ok (.obj M.length) (M ++ [.dk ((ks.map Sum.inr).zip ys)])
def compS (g : G) (own : List (Str × Nat)) (t : Ts) (elt : E) : D → Sto → Res (Option D) := fun d M => match bindG g d (wipeE env own) with
  | some env2 => (evTs c t env2 M).bind fun b M => if b = true then (evE c elt env2 M).bind fun y M => .ok (some y) M else .ok none M
  | none => .stk
def compK (g : G) (own : List (Str × Nat)) (t : Ts) (elt : E) : List D → Sto → Res D := fun ds M => (compL (compS c env g own t elt) ds [] M).bind lstK
def seqK : D → Sto → Res (List D)
  | .tup ds, M => .ok ds M
  | .lst ds, M => .ok ds M
  | .obj a, M => (match lockM M a with | some (o, M') => (match walkO o with | some ds => .ok ds M' | none => .stk) | none => .stk)
  | _, _ => .stk
def enuK : D → Sto → Res (List D)
  | .tup ds, M => .ok (enumD 0 ds) M
  | .lst ds, M => .ok (enumD 0 ds) M
  | _, _ => .stk
def itmK : D → Sto → Res (List D)
  | .obj a, M => (match lockM M a with | some (o, M') => (match itemsO o with | some ds => .ok ds M' | none => .stk) | none => .stk)
  | _, _ => .stk
def zip2 (x : D) : D → Sto → Res (List D) := fun y M => (match x, y with | .tup ds, .tup es => .ok (zipD ds es) M | .lst ds, .lst es => .ok (zipD ds es) M | _, _ => .stk)
def zip1 (b : E) : D → Sto → Res (List D) := fun x M => (evE c b env M).bind (zip2 x)
def stp2 (x : D) : D → Sto → Res D
  | .int k, M => stpD x k M
  | _, _ => .stk
def stp1 (k : E) : D → Sto → Res D := fun x M => (evE c k env M).bind (stp2 x)
def lnwK : List D → Sto → Res D := fun ds M => .ok (.obj M.length) (M ++ [.ls ds])
def lrgK (t : Bool) : List D → Sto → Res D := fun ds M => .ok (if t = true then .tup ds else .lst ds) M
def dkK : List (L2.Key × D) → Sto → Res D := fun kvs M => .ok (.obj M.length) (M ++ [.dk kvs])
def dtK : List (List L2.Key × D) → Sto → Res D := fun kvs M => .ok (.obj M.length) (M ++ [.dt kvs])
def dcS (g : G) (own : List (Str × Nat)) (t : Ts) (k v : E) : D → Sto → Res (Option (D × D)) := fun d M => match bindG g d (wipeE env own) with
  | some env2 => (evTs c t env2 M).bind fun b M => if b = true then (evE c k env2 M).bind fun y M => (evE c v env2 M).bind fun z M => .ok (some (y, z)) M else .ok none M
  | none => .stk
def dcK (g : G) (own : List (Str × Nat)) (t : Ts) (k v : E) : List D → Sto → Res D := fun ds M => (dcompL keyD (dcS c env g own t k v) ds [] M).bind dkK
def dcT (g : G) (own : List (Str × Nat)) (t : Ts) (k v : E) : List D → Sto → Res D := fun ds M => (dcompL tkeyD (dcS c env g own t k v) ds [] M).bind dtK
def rng1K : D → Sto → Res (List D) := fun x M => (match x with | .int n => if rngOk n && decide (n.toNat ≤ line) then .ok (iota 0 n.toNat) M else .stk | _ => .stk)
def rng2K (x : D) : D → Sto → Res (List D) := fun y M => (match x, y with | .int i, .int j => if rngOk i && rngOk j && decide ((j - i).toNat ≤ line) then .ok (iota i (j - i).toNat) M else .stk | _, _ => .stk)
def rng2J (b : E) : D → Sto → Res (List D) := fun x M => (evE c b env M).bind (rng2K x)
end
section
variable {c : Cal} {env : Env} {M : Sto}
theorem lkK_val (d : D) : lkK (some (.val d)) M = .ok d M := id rfl
theorem pkK_own (d : List D) : pkK (some (.own d)) M = .ok (.lst d) M := id rfl
theorem x_cint (i : Int) : evE c (.cint i) env M = .ok (.int i) M := by simp only [evE]
theorem x_cstr (i : Str) : evE c (.cstr i) env M = .ok (.str i) M := by simp only [evE]
theorem x_cbl (i : Bool) : evE c (.cbl i) env M = .ok (.bl i) M := by simp only [evE]
theorem x_cnon : evE c .cnon env M = .ok .non M := by simp only [evE]
theorem x_var (i : Nat) : evE c (.var i) env M = lkK env[i]? M := by
  simp only [evE]
  cases e : env[i]? with
  | none => rfl
  | some s => cases s <;> rfl
theorem x_glob (k : Nat) : evE c (.glob k) env M = .ok (c.gl k) M := by simp only [evE]
theorem x_fnv (k : Nat) : evE c (.fnv k) env M = .ok (.fn k) M := by simp only [evE]
theorem x_tup (es : Es) : evE c (.tup es) env M = (evEs c es env M).bind tupK := by simp only [evE]; rfl
theorem x_lst (es : Es) : evE c (.lst es) env M = (evEs c es env M).bind lstK := by simp only [evE]; rfl
theorem x_bin (o a b) : evE c (.bin o a b) env M = (evE c a env M).bind (bin1 c env o b) := by simp only [evE]; rfl
theorem x_neg (a) : evE c (.neg a) env M = (evE c a env M).bind negK := by
  simp only [evE]
  congr 1
  funext x M
  cases x <;> rfl
theorem x_cmp (o a b) : evE c (.cmp o a b) env M = (peek a env M (evE c a env M)).bind (cmp1 c env o b) := by simp only [evE]; rfl
theorem x_chn (o p a b d) : evE c (.chn o p a b d) env M = (evE c a env M).bind (chn1 c env o p b d) := by simp only [evE]; rfl
theorem x_andv (a b) : evE c (.andv a b) env M = (evE c a env M).bind (and1 c env b) := by simp only [evE]; rfl
theorem x_orv (a b) : evE c (.orv a b) env M = (evE c a env M).bind (or1 c env b) := by simp only [evE]; rfl
theorem x_one (a) : evE c (.one a) env M = evE c a env M := by simp only [evE]
theorem x_notv (a) : evE c (.notv a) env M = (evE c a env M).bind nonK := by simp only [evE]; rfl
theorem x_ife (t a b) : evE c (.ife t a b) env M = (evT c t env M).bind (ifeK c env a b) := by simp only [evE]; rfl
theorem x_idx (a b) : evE c (.idx a b) env M = (peek a env M (evE c a env M)).bind (idx1 c env b) := by simp only [evE]; rfl
theorem x_dgt (a b) : evE c (.dgt a b) env M = (evE c a env M).bind (dgt1 c env b) := by simp only [evE]; rfl
theorem x_slc (a lo hi) : evE c (.slc a lo hi) env M = (peek a env M (evE c a env M)).bind (slc1 c env lo hi) := by simp only [evE]; rfl
theorem x_call (f sh es ks) : evE c (.call f sh es ks) env M = (evEs c es env M).bind (cal1 c env f sh ks) := by simp only [evE]; rfl
theorem x_blt (b es) : evE c (.blt b es) env M = (evPs c es env M).bind (bltD b) := by simp only [evE]
theorem x_isi (e t) : evE c (.isi e t) env M = (peek e env M (evE c e env M)).bind (isiK t) := by simp only [evE]; rfl
theorem x_comp (g own it t elt) : evE c (.comp g own it t elt) env M = if ownFree env own = false then .stk else (evI c it env M).bind (compK c env g own t elt) := by simp only [evE]; rfl
theorem x_dsp (ks vs) : evE c (.dsp ks vs) env M = (evEs c vs env M).bind (dspK ks) := by simp only [evE]; rfl
theorem x_dnew (t) : evE c (.dnew t) env M = .ok (.obj M.length) (M ++ [if t = true then .dt [] else .dk []]) := by simp only [evE]
theorem x_get2 (a k z) : evE c (.get2 a k z) env M = (evE c a env M).bind (g2a c env k z) := by simp only [evE]; rfl
theorem x_get1 (a k) : evE c (.get1 a k) env M = (evE c a env M).bind (g1a c env k) := by simp only [evE]; rfl
theorem k_g2a (k z x) : g2a c env k z x M = if isDct x M = true then (evE c k env M).bind (g2b c env z x) else .stk := id rfl
theorem k_g2b (z x y) : g2b c env z x y M = (evE c z env M).bind (g2c x y) := id rfl
theorem k_g2c (x y w) : g2c x y w M = getD x y w M := id rfl
theorem k_g1a (k x) : g1a c env k x M = if isDct x M = true then (evE c k env M).bind (g1b x) else .stk := id rfl
theorem k_g1b (x y) : g1b x y M = getD x y .non M := id rfl
theorem pk_dnew (a r) : peek (.dnew a) env M r = r := id rfl
theorem pk_get2 (a b d r) : peek (.get2 a b d) env M r = r := id rfl
theorem pk_get1 (a b r) : peek (.get1 a b) env M r = r := id rfl
theorem xs_nil : evEs c .nil env M = .ok [] M := by simp only [evEs]
theorem xs_cons (e r) : evEs c (.cons e r) env M = (evE c e env M).bind (con1 c env r) := by simp only [evEs]; rfl
theorem xp_nil : evPs c .nil env M = .ok [] M := by simp only [evPs]
theorem xp_cons (e r) : evPs c (.cons e r) env M = (peek e env M (evE c e env M)).bind (pcon1 c env r) := by simp only [evPs]; rfl
theorem xo_non : evO c .non env M = .ok none M := by simp only [evO]
theorem xo_som (e) : evO c (.som e) env M = (evE c e env M).bind intO := by
  simp only [evO]
  congr 1
  funext x M
  cases x <;> rfl
theorem xt_val (e) : evT c (.val e) env M = (peek e env M (evE c e env M)).bind truD := by simp only [evT]
theorem xt_cmp (o a b) : evT c (.cmp o a b) env M = (peek a env M (evE c a env M)).bind (tcmp1 c env o b) := by
  simp only [evT]
  congr 1
  funext x M
  unfold tcmp1
  congr 1
  funext y M
  congr 1
  funext z M
  cases z <;> rfl
theorem xt_chn (o p a b d) : evT c (.chn o p a b d) env M = (evE c a env M).bind (tchn1 c env o p b d) := by
  simp only [evT]
  congr 1
  funext x M
  unfold tchn1
  congr 1
  funext y M
  unfold tchn2
  congr 1
  funext z M
  unfold tchn3
  cases z with
  | bl k =>
    cases k with
    | true =>
      simp only
      congr 1
      funext w M
      unfold tchn4
      congr 1
      funext z M
      cases z <;> rfl
    | false => rfl
  | _ => rfl
theorem xt_not (t) : evT c (.not t) env M = (evT c t env M).bind tnotK := by simp only [evT]; rfl
theorem xt_and (a b) : evT c (.and a b) env M = (evT c a env M).bind (tandK c env b) := by simp only [evT]; rfl
theorem xt_or (a b) : evT c (.or a b) env M = (evT c a env M).bind (torK c env b) := by simp only [evT]; rfl
theorem xt_one (a) : evT c (.one a) env M = evT c a env M := by simp only [evT]
theorem xq_nil : evTs c .nil env M = .ok true M := by simp only [evTs]
theorem xq_one (t) : evTs c (.one t) env M = evT c t env M := by simp only [evTs]
theorem xi_seq (e) : evI c (.seq e) env M = (evE c e env M).bind seqK := by
  simp only [evI]
  congr 1
  funext x M
  cases x <;> rfl
theorem xi_enum (e) : evI c (.enum e) env M = (evE c e env M).bind enuK := by
  simp only [evI]
  congr 1
  funext x M
  cases x <;> rfl
theorem xi_items (e) : evI c (.items e) env M = (evE c e env M).bind itmK := by
  simp only [evI]
  congr 1
  funext x M
  cases x <;> rfl
theorem xi_zip (a b) : evI c (.zip a b) env M = (evE c a env M).bind (zip1 c env b) := by simp only [evI]; rfl
theorem k_zip1 (b x) : zip1 c env b x M = (evE c b env M).bind (zip2 x) := id rfl
theorem k_zipT (a b) : zip2 (.tup a) (.tup b) M = .ok (zipD a b) M := id rfl
theorem k_zipL (a b) : zip2 (.lst a) (.lst b) M = .ok (zipD a b) M := id rfl
theorem k_enuT (ds) : enuK (.tup ds) M = .ok (enumD 0 ds) M := id rfl
theorem k_enuL (ds) : enuK (.lst ds) M = .ok (enumD 0 ds) M := id rfl
theorem k_itm {a o M' ds} (h : lockM M a = some (o, M')) (h2 : itemsO o = some ds) : itmK (.obj a) M = .ok ds M' := by
  unfold itmK
  simp only [h, h2]
theorem k_seqO {a o M' ds} (h : lockM M a = some (o, M')) (h2 : walkO o = some ds) : seqK (.obj a) M = .ok ds M' := by
  unfold seqK
  simp only [h, h2]
theorem x_stp (a k) : evE c (.stp a k) env M = (peek a env M (evE c a env M)).bind (stp1 c env k) := by
  simp only [evE]
  congr 1
  funext x M
  unfold stp1
  congr 1
  funext y M
  cases y <;> rfl
theorem k_stp1 (k x) : stp1 c env k x M = (evE c k env M).bind (stp2 x) := id rfl
theorem k_revT (ds) : stp2 (.tup ds) (.int (-1)) M = .ok (.tup ds.reverse) M := id rfl
theorem k_revL (ds) : stp2 (.lst ds) (.int (-1)) M = .ok (.lst ds.reverse) M := id rfl
theorem k_evnT (ds) : stp2 (.tup ds) (.int 2) M = .ok (.tup (evens ds)) M := id rfl
theorem k_evnL (ds) : stp2 (.lst ds) (.int 2) M = .ok (.lst (evens ds)) M := id rfl
theorem x_lnew (es) : evE c (.lnew es) env M = (evEs c es env M).bind lnwK := by simp only [evE]; rfl
theorem k_lnw (ds) : lnwK ds M = .ok (.obj M.length) (M ++ [.ls ds]) := id rfl
theorem x_lrng1 (t a) : evE c (.lrng t (.rng1 a)) env M = (evI c (.rng1 a) env M).bind (lrgK t) := by simp only [evE]; rfl
theorem x_lrng2 (t a b) : evE c (.lrng t (.rng2 a b)) env M = (evI c (.rng2 a b) env M).bind (lrgK t) := by simp only [evE]; rfl
theorem k_lrgT (ds) : lrgK true ds M = .ok (.tup ds) M := id rfl
theorem k_lrgF (ds) : lrgK false ds M = .ok (.lst ds) M := id rfl
theorem x_dcompK (g own it t k v) : evE c (.dcomp false g own it t k v) env M = if ownFree env own = false then .stk else (evI c it env M).bind (dcK c env g own t k v) := by
  simp only [evE, Bool.false_eq_true, if_false]; rfl
theorem x_dcompT (g own it t k v) : evE c (.dcomp true g own it t k v) env M = if ownFree env own = false then .stk else (evI c it env M).bind (dcT c env g own t k v) := by
  simp only [evE, if_true]; rfl
theorem k_dcK (g own t k v ds) : dcK c env g own t k v ds M = (dcompL keyD (dcS c env g own t k v) ds [] M).bind dkK := id rfl
theorem k_dcT (g own t k v ds) : dcT c env g own t k v ds M = (dcompL tkeyD (dcS c env g own t k v) ds [] M).bind dtK := id rfl
theorem k_dkK (kvs) : dkK kvs M = .ok (.obj M.length) (M ++ [.dk kvs]) := id rfl
theorem k_dtK (kvs) : dtK kvs M = .ok (.obj M.length) (M ++ [.dt kvs]) := id rfl
theorem pk_lnew (a r) : peek (.lnew a) env M r = r := id rfl
theorem pk_stp (a b r) : peek (.stp a b) env M r = r := id rfl
theorem pk_lrng (a b r) : peek (.lrng a b) env M r = r := id rfl
theorem pk_dcomp (a b d e f g h r) : peek (.dcomp a b d e f g h) env M r = r := id rfl
theorem xi_rng1 (e) : evI c (.rng1 e) env M = (evE c e env M).bind rng1K := by simp only [evI]; rfl
theorem xi_rng2 (a b) : evI c (.rng2 a b) env M = (evE c a env M).bind (rng2J c env b) := by simp only [evI]; rfl
/-! peeks -/
theorem pk_own (i : Nat) (r : Res D) : peek (.own i) env M r = pkK env[i]? M := by
  unfold peek
  simp only
  cases e : env[i]? with
  | none => rfl
  | some s => cases s <;> rfl
theorem pk_cint (i r) : peek (.cint i) env M r = r := id rfl
theorem pk_cstr (i r) : peek (.cstr i) env M r = r := id rfl
theorem pk_cbl (i r) : peek (.cbl i) env M r = r := id rfl
theorem pk_cnon (r) : peek .cnon env M r = r := id rfl
theorem pk_var (i r) : peek (.var i) env M r = r := id rfl
theorem pk_glob (i r) : peek (.glob i) env M r = r := id rfl
theorem pk_fnv (i r) : peek (.fnv i) env M r = r := id rfl
theorem pk_tup (i r) : peek (.tup i) env M r = r := id rfl
theorem pk_lst (i r) : peek (.lst i) env M r = r := id rfl
theorem pk_bin (o a b r) : peek (.bin o a b) env M r = r := id rfl
theorem pk_neg (a r) : peek (.neg a) env M r = r := id rfl
theorem pk_cmp (o a b r) : peek (.cmp o a b) env M r = r := id rfl
theorem pk_chn (o p a b d r) : peek (.chn o p a b d) env M r = r := id rfl
theorem pk_andv (a b r) : peek (.andv a b) env M r = r := id rfl
theorem pk_orv (a b r) : peek (.orv a b) env M r = r := id rfl
theorem pk_one (a r) : peek (.one a) env M r = r := id rfl
theorem pk_notv (a r) : peek (.notv a) env M r = r := id rfl
theorem pk_ife (t a b r) : peek (.ife t a b) env M r = r := id rfl
theorem pk_idx (a b r) : peek (.idx a b) env M r = r := id rfl
theorem pk_dgt (a b r) : peek (.dgt a b) env M r = r := id rfl
theorem pk_slc (a b d r) : peek (.slc a b d) env M r = r := id rfl
theorem pk_call (f s a b r) : peek (.call f s a b) env M r = r := id rfl
theorem pk_blt (a b r) : peek (.blt a b) env M r = r := id rfl
theorem pk_isi (a b r) : peek (.isi a b) env M r = r := id rfl
theorem pk_comp (a b d e f r) : peek (.comp a b d e f) env M r = r := id rfl
theorem pk_dsp (a b r) : peek (.dsp a b) env M r = r := id rfl
/-! the second halves -/
theorem k_tup (ds) : tupK ds M = .ok (.tup ds) M := id rfl
theorem k_lst (ds) : lstK ds M = .ok (.lst ds) M := id rfl
theorem k_con1 (r x) : con1 c env r x M = (evEs c r env M).bind (con2 x) := id rfl
theorem k_pcon1 (r x) : pcon1 c env r x M = (evPs c r env M).bind (con2 x) := id rfl
theorem k_con2 (x xs) : con2 x xs M = .ok (x :: xs) M := id rfl
theorem k_bin1 (o b x) : bin1 c env o b x M = (evE c b env M).bind (binD o x) := id rfl
theorem k_cmp1 (o b x) : cmp1 c env o b x M = (peek b env M (evE c b env M)).bind (cmpD o x) := id rfl
theorem k_chn1 (o p b d x) : chn1 c env o p b d x M = (evE c b env M).bind (chn2 c env o p x d) := id rfl
theorem k_chn2 (o p x d y) : chn2 c env o p x d y M = (cmpD o x y M).bind (chn3 c env p y d) := id rfl
theorem k_chnT (p y d) : chn3 c env p y d (.bl true) M = (evE c d env M).bind (chn4 p y) := id rfl
theorem k_chnF (p y d) : chn3 c env p y d (.bl false) M = .ok (.bl false) M := id rfl
theorem k_chn4 (p y w) : chn4 p y w M = cmpD p y w M := id rfl
theorem k_tchn1 (o p b d x) : tchn1 c env o p b d x M = (evE c b env M).bind (tchn2 c env o p x d) := id rfl
theorem k_tchn2 (o p x d y) : tchn2 c env o p x d y M = (cmpD o x y M).bind (tchn3 c env p y d) := id rfl
theorem k_tchnT (p y d) : tchn3 c env p y d (.bl true) M = (evE c d env M).bind (tchn4 p y) := id rfl
theorem k_tchnF (p y d) : tchn3 c env p y d (.bl false) M = .ok false M := id rfl
theorem k_tchn4 (p y w) : tchn4 p y w M = (cmpD p y w M).bind blK := id rfl
theorem k_idx1 (b x) : idx1 c env b x M = (evE c b env M).bind (idxD x) := id rfl
theorem k_dgt1 (b x) : dgt1 c env b x M = (evE c b env M).bind (dgtD x) := id rfl
theorem k_slc1 (lo hi x) : slc1 c env lo hi x M = (evO c lo env M).bind (slc2 c env x hi) := id rfl
theorem k_slc2 (x hi l) : slc2 c env x hi l M = (evO c hi env M).bind (slcD x l) := id rfl
theorem k_neg (i) : negK (.int i) M = .ok (.int (-i)) M := id rfl
theorem k_not (t) : notK t M = .ok (.bl (!t)) M := id rfl
theorem k_non (x) : nonK x M = (truD x M).bind notK := id rfl
theorem k_ifeT (a b) : ifeK c env a b true M = evE c a env M := id rfl
theorem k_ifeF (a b) : ifeK c env a b false M = evE c b env M := id rfl
theorem k_ife (a b t) : ifeK c env a b t M = if t = true then evE c a env M else evE c b env M := id rfl
theorem k_cal1 (f sh ks xs) : cal1 c env f sh ks xs M = (evEs c ks env M).bind (cal2 c f sh xs) := id rfl
theorem k_cal2 (f sh xs zs) : cal2 c f sh xs zs M = cal3 c f M (c.arr f sh xs zs) := by
  unfold cal2
  cases c.arr f sh xs zs <;> rfl
theorem k_cal3 (f ds) : cal3 c f M (some ds) = c.cal f ds M := id rfl
theorem k_isi (t x) : isiK t x M = if isiOk x then .ok (.bl (isiD x t)) M else .stk := id rfl
theorem k_intO (i) : intO (.int i) M = .ok (some i) M := id rfl
theorem k_bl (b) : blK (.bl b) M = .ok b M := id rfl
theorem k_tcmp1 (o b x) : tcmp1 c env o b x M = (peek b env M (evE c b env M)).bind fun y M => (cmpD o x y M).bind blK := id rfl
theorem k_tnot (b) : tnotK b M = .ok (!b) M := id rfl
theorem k_tandT (b) : tandK c env b true M = evT c b env M := id rfl
theorem k_tandF (b) : tandK c env b false M = .ok false M := id rfl
theorem k_torT (b) : torK c env b true M = .ok true M := id rfl
theorem k_torF (b) : torK c env b false M = evT c b env M := id rfl
theorem k_dsp (ks ys) : dspK ks ys M = .ok (.obj M.length) (M ++ [.dk ((ks.map Sum.inr).zip ys)]) := id rfl
theorem k_seqT (ds) : seqK (.tup ds) M = .ok ds M := id rfl
theorem k_seqL (ds) : seqK (.lst ds) M = .ok ds M := id rfl
theorem k_comp (g own t elt ds) : compK c env g own t elt ds M = (compL (compS c env g own t elt) ds [] M).bind lstK := id rfl
theorem k_rng1 {n : Int} (h : 0 ≤ n ∧ n ≤ 1000000) : rng1K (.int n) M = .ok (iota 0 n.toNat) M := by
  have h1 : (rngOk n && decide (n.toNat ≤ line)) = true := by
    unfold rngOk line
    simp only [Bool.and_eq_true, decide_eq_true_eq]
    omega
  show (if (rngOk n && decide (n.toNat ≤ line)) = true then _ else _) = _
  rw [if_pos h1]
/-! ### operators on figures -/
theorem d_add (i j : Int) : binD .add (.int i) (.int j) M = .ok (.int (i + j)) M := id rfl
theorem d_sub (i j : Int) : binD .sub (.int i) (.int j) M = .ok (.int (i - j)) M := id rfl
theorem d_mul {i j : Int} (h : widthOk i j = true) : binD .mul (.int i) (.int j) M = .ok (.int (i * j)) M := by
  simp only [binD, binI, h, if_true]
theorem d_mod {i j : Int} (h : 0 < j) : binD .mod (.int i) (.int j) M = .ok (.int (i % j)) M := by
  have : j ≠ 0 := by omega
  simp only [binD, binI, this, if_false, Int.fmod_eq_emod_of_nonneg i (Int.le_of_lt h)]
theorem d_fdiv {i j : Int} (h : 0 < j) (h2 : j.natAbs < 2 ^ 4000) : binD .fdiv (.int i) (.int j) M = .ok (.int (i / j)) M := by
  have h0 : j ≠ 0 := by omega
  have e : binI .fdiv i j = some (i / j) := by
    simp only [binI, h0, if_false, Int.fdiv_eq_ediv_of_nonneg i (Int.le_of_lt h), h, h2, and_self, if_true]
    split <;> rfl
  simp only [binD, e]
theorem d_pow {i j : Int} (h : 0 ≤ j ∧ j ≤ 1000 ∧ i.natAbs < 2 ^ 64) : binD .pow (.int i) (.int j) M = .ok (.int (i ^ j.toNat)) M := by
  simp only [binD, binI, h, and_self, if_true]
theorem d_lt (i j : Int) : cmpD .lt (.int i) (.int j) M = .ok (.bl (decide (i < j))) M := id rfl
theorem d_le (i j : Int) : cmpD .le (.int i) (.int j) M = .ok (.bl (decide (i ≤ j))) M := id rfl
theorem d_gt (i j : Int) : cmpD .gt (.int i) (.int j) M = .ok (.bl (decide (j < i))) M := id rfl
theorem d_ge (i j : Int) : cmpD .ge (.int i) (.int j) M = .ok (.bl (decide (j ≤ i))) M := id rfl
theorem d_eqS (a b : Str) : cmpD .eq (.str a) (.str b) M = .ok (.bl (decide (a = b))) M := id rfl
theorem d_neS (a b : Str) : cmpD .ne (.str a) (.str b) M = .ok (.bl (!decide (a = b))) M := id rfl
theorem d_eqI (a b : Int) : cmpD .eq (.int a) (.int b) M = .ok (.bl (decide (a = b))) M := by
  have h : eqOk (.int a) (.int b) = true := rfl
  have e : PyData.eqv (py (.int a)) (py (.int b)) = decide (a = b) := by
    simp only [py, PyData.eqv]
    rw [Bool.eq_iff_iff]
    simp
  simp only [cmpD, strP, h, if_true, e]
theorem d_neI (a b : Int) : cmpD .ne (.int a) (.int b) M = .ok (.bl (!decide (a = b))) M := by
  have h : eqOk (.int a) (.int b) = true := rfl
  have e : PyData.eqv (py (.int a)) (py (.int b)) = decide (a = b) := by
    simp only [py, PyData.eqv]
    rw [Bool.eq_iff_iff]
    simp
  simp only [cmpD, strP, h, if_true, e]
theorem pures_ints (ns : List Int) : pures (ns.map D.int) = true := by
  induction ns with
  | nil => rfl
  | cons i r ih => rw [List.map_cons, pures, ih] <;> rfl
theorem deps_ints (ns : List Int) : deps (ns.map D.int) = 0 := by
  induction ns with
  | nil => rfl
  | cons i r ih => rw [List.map_cons, deps, ih] <;> rfl
theorem d_neNil (ns : List Int) : cmpD .ne (.lst (ns.map .int)) (.lst []) M = .ok (.bl (!decide (ns = []))) M := by
  have h : eqOk (.lst (ns.map .int)) (.lst []) = true := by
    simp only [eqOk, pure?, pures_ints, dep, deps_ints, pures, deps, Bool.and_true, Bool.true_and, Bool.and_eq_true, decide_eq_true_eq]
    decide
  have e : PyData.eqv (py (.lst (ns.map .int))) (py (.lst [])) = decide (ns = []) := by
    cases ns with
    | nil => rfl
    | cons i r => rfl
  simp only [cmpD, strP, h, if_true, e]
theorem d_dgt {a : Nat} {y d : D} (h : look M a y = some (some d)) : dgtD (.obj a) y M = .ok d M := by
  simp only [dgtD, h]
/-! ### what stands in the store -/
theorem ob_of {a o} (h : M[a]? = some o) (n : openO o = o) : obAt M a = some o := by
  unfold obAt
  rw [h, Option.map_some, n]
theorem ob_dk {a kvs} (h : M[a]? = some (.dk kvs)) : obAt M a = some (.dk kvs) := ob_of h rfl
theorem ob_dt {a kvs} (h : M[a]? = some (.dt kvs)) : obAt M a = some (.dt kvs) := ob_of h rfl
theorem ob_ls {a kvs} (h : M[a]? = some (.ls kvs)) : obAt M a = some (.ls kvs) := ob_of h rfl
theorem ob_lk {a o} (h : M[a]? = some (.lk o)) : obAt M a = some o := by
  unfold obAt
  rw [h]
  rfl
theorem look_k {a kvs y k} (h : obAt M a = some (.dk kvs)) (hk : keyD y = some k) : look M a y = some (dget kvs k) := by
  unfold look
  simp only [h, hk, Option.map_some]
theorem look_t {a kvs y k} (h : obAt M a = some (.dt kvs)) (hk : tkeyD y = some k) : look M a y = some (dget kvs k) := by
  unfold look
  simp only [h, hk, Option.map_some]
theorem dct_k {a kvs} (h : obAt M a = some (.dk kvs)) : isDct (.obj a) M = true := by
  unfold isDct
  simp only [h]
theorem dct_t {a kvs} (h : obAt M a = some (.dt kvs)) : isDct (.obj a) M = true := by
  unfold isDct
  simp only [h]
theorem stor_k {a kvs y k x} (h : M[a]? = some (.dk kvs)) (hk : keyD y = some k) (hl : kvs.length < dline) : stor M a y x = some (M.set a (.dk (dput kvs k x))) := by
  unfold stor
  simp only [h, hk, Option.bind_some, hl, if_true]
theorem stor_t {a kvs y k x} (h : M[a]? = some (.dt kvs)) (hk : tkeyD y = some k) (hl : kvs.length < dline) : stor M a y x = some (M.set a (.dt (dput kvs k x))) := by
  unfold stor
  simp only [h, hk, Option.bind_some, hl, if_true]
theorem stor_l {a ds i x} (h : M[a]? = some (.ls ds)) (h0 : 0 ≤ i) (h1 : i < ds.length) : stor M a (.int i) x = some (M.set a (.ls (ds.set i.toNat x))) := by
  unfold stor
  simp only [h, h0, h1, and_self, if_true]
theorem apnd_l {a ds x} (h : M[a]? = some (.ls ds)) (hl : ds.length < line) : apnd M a x = some (M.set a (.ls (ds ++ [x]))) := by
  unfold apnd
  simp only [h, hl, if_true]
theorem lst_l {a ds} (h : obAt M a = some (.ls ds)) : isLst M a = true := by
  unfold isLst
  simp only [h]
theorem lock_n {a o} (h : M[a]? = some o) (n : openO o = o) : lockM M a = some (o, M.set a (.lk o)) := by
  unfold lockM
  rw [h]
  cases o with
  | lk o => cases o <;> cases n
  | _ => rfl
theorem lock_l {a o} (h : M[a]? = some (.lk o)) : lockM M a = some (o, M) := by
  unfold lockM
  rw [h]
theorem lenD_o {a o n} (h : obAt M a = some o) (hn : lenO o = some n) : bltD .len [.obj a] M = .ok (.int n) M := by
  simp only [bltD, h, Option.bind_some, hn]
theorem getD_k {a y w r} (h : look M a y = some r) : getD (.obj a) y w M = .ok (r.getD w) M := by
  unfold getD
  simp only [h]
  cases r <;> rfl
theorem inD_o {a x r} (h : look M a x = some r) : inD x (.obj a) M = some r.isSome := by
  unfold inD
  simp only [h, Option.map_some]
theorem i_obD {a y kvs} (h : obAt M a = some (.dk kvs)) : idxD (.obj a) y M = dgtD (.obj a) y M := by
  unfold idxD
  simp only [h]
theorem i_obT {a y kvs} (h : obAt M a = some (.dt kvs)) : idxD (.obj a) y M = dgtD (.obj a) y M := by
  unfold idxD
  simp only [h]
theorem i_obL {a i ds d} (h : obAt M a = some (.ls ds)) (e : L2.atI ds i = some d) : idxD (.obj a) (.int i) M = .ok d M := by
  unfold idxD
  simp only [h, e]
/-! ### what a def leaves behind -/
theorem gc_len {M' d} (h : M'.length = M.length) : gcR M (.ok d M') = .ok d M' := by
  unfold gcR
  simp only
  split
  · rw [← h, List.take_length]
  · rfl
theorem gc_same (d) : gcR M (.ok d M) = .ok d M := gc_len rfl
theorem gc_keep {M' d} (h : scp M.length d = false) : gcR M (.ok d M') = .ok d M' := by
  unfold gcR
  simp only
  split
  · rename_i g
    have := g.1
    rw [scps, h] at this
    cases this
  · rfl
theorem gc_new (o) : gcR M (.ok (.obj M.length) (M ++ [o])) = .ok (.obj M.length) (M ++ [o]) := gc_keep (by rw [scp]; exact decide_eq_false (Nat.lt_irrefl _))
theorem gc_drop {J d} (h : scp M.length d = true) : gcR M (.ok d (M ++ J)) = .ok d M := by
  unfold gcR
  simp only
  rw [if_pos, List.take_left]
  refine ⟨by rw [scps, h, scps] <;> rfl, .inl (by rw [List.take_left])⟩
theorem gc_stk : gcR M .stk = .stk := id rfl
theorem p_gc (p : Prop) [Decidable p] (a b : Res D) : gcR M (if p then a else b) = if p then gcR M a else gcR M b := by
  split <;> rfl
mutual
theorem scp_pure (n : Nat) : ∀ d : D, pure? d = true → scp n d = true
  | .tup ds, h => by rw [scp]; rw [pure?] at h; exact scps_pure n ds h
  | .lst ds, h => by rw [scp]; rw [pure?] at h; exact scps_pure n ds h
  | .obj i, h => by rw [pure?] at h; cases h
  | .fn i, h => by rw [pure?] at h; cases h
  | .non, _ => by rw [scp] <;> simp
  | .bl _, _ => by rw [scp] <;> simp
  | .int _, _ => by rw [scp] <;> simp
  | .str _, _ => by rw [scp] <;> simp
theorem scps_pure (n : Nat) : ∀ ds : List D, pures ds = true → scps n ds = true
  | [], _ => by rw [scps]
  | d :: ds, h => by
    rw [pures, Bool.and_eq_true] at h
    rw [scps, scp_pure n d h.1, scps_pure n ds h.2] <;> rfl
end
theorem scp_int (n i) : scp n (.int i) = true := by rw [scp] <;> simp
theorem scp_str (n i) : scp n (.str i) = true := by rw [scp] <;> simp
theorem scp_bl (n i) : scp n (.bl i) = true := by rw [scp] <;> simp
theorem scp_non (n) : scp n .non = true := by rw [scp] <;> simp
theorem scp_tup (n ds) : scp n (.tup ds) = scps n ds := by rw [scp]
theorem scp_lst (n ds) : scp n (.lst ds) = scps n ds := by rw [scp]
theorem scps_nil (n) : scps n [] = true := by rw [scps]
theorem scps_cons (n d ds) : scps n (d :: ds) = (scp n d && scps n ds) := by rw [scps]
theorem d_in (x y) : cmpD .in_ x y M = match inD x y M with | some b => .ok (.bl b) M | none => .stk := id rfl
theorem d_inB {x y b} (h : inD x y M = some b) : cmpD .in_ x y M = .ok (.bl b) M := by
  simp only [cmpD, h]
theorem d_niB {x y b} (h : inD x y M = some b) : cmpD .notin x y M = .ok (.bl (!b)) M := by
  simp only [cmpD, h]
theorem d_min (i j : Int) : bltD .min [.int i, .int j] M = .ok (.int (if j < i then j else i)) M := id rfl
theorem d_max (i j : Int) : bltD .max [.int i, .int j] M = .ok (.int (if j > i then j else i)) M := id rfl
theorem d_abs (i : Int) : bltD .abs [.int i] M = .ok (.int (if i < 0 then -i else i)) M := id rfl
theorem d_lenT (ds) : bltD .len [.tup ds] M = .ok (.int ds.length) M := id rfl
theorem d_lenL (ds) : bltD .len [.lst ds] M = .ok (.int ds.length) M := id rfl
theorem d_tupL (ds) : bltD .tuple [.lst ds] M = .ok (.tup ds) M := id rfl
theorem d_tupT (ds) : bltD .tuple [.tup ds] M = .ok (.tup ds) M := id rfl
theorem d_lstL (ds) : bltD .list [.lst ds] M = .ok (.lst ds) M := id rfl
theorem d_lstT (ds) : bltD .list [.tup ds] M = .ok (.lst ds) M := id rfl
theorem d_repr (x) : bltD .repr [x] M = reprD x M := id rfl
theorem i_tn {ds : List D} {k : Nat} {d : D} (h : ds[k]? = some d) : idxD (.tup ds) (.int (k : Int)) M = .ok d M := by
  simp only [idxD, L2.atI_nat h]
theorem i_ln {ds : List D} {k : Nat} {d : D} (h : ds[k]? = some d) : idxD (.lst ds) (.int (k : Int)) M = .ok d M := by
  simp only [idxD, L2.atI_nat h]
theorem i_t0 (x0 : D) (l) : idxD (.tup (x0 :: l)) (.int 0) M = .ok x0 M := i_tn (k := 0) rfl
theorem i_l0 (x0 : D) (l) : idxD (.lst (x0 :: l)) (.int 0) M = .ok x0 M := i_ln (k := 0) rfl
theorem i_t1 (x0 x1 : D) (l) : idxD (.tup (x0 :: x1 :: l)) (.int 1) M = .ok x1 M := i_tn (k := 1) rfl
theorem i_l1 (x0 x1 : D) (l) : idxD (.lst (x0 :: x1 :: l)) (.int 1) M = .ok x1 M := i_ln (k := 1) rfl
theorem i_t2 (x0 x1 x2 : D) (l) : idxD (.tup (x0 :: x1 :: x2 :: l)) (.int 2) M = .ok x2 M := i_tn (k := 2) rfl
theorem i_l2 (x0 x1 x2 : D) (l) : idxD (.lst (x0 :: x1 :: x2 :: l)) (.int 2) M = .ok x2 M := i_ln (k := 2) rfl
theorem i_t3 (x0 x1 x2 x3 : D) (l) : idxD (.tup (x0 :: x1 :: x2 :: x3 :: l)) (.int 3) M = .ok x3 M := i_tn (k := 3) rfl
theorem i_l3 (x0 x1 x2 x3 : D) (l) : idxD (.lst (x0 :: x1 :: x2 :: x3 :: l)) (.int 3) M = .ok x3 M := i_ln (k := 3) rfl
theorem i_t4 (x0 x1 x2 x3 x4 : D) (l) : idxD (.tup (x0 :: x1 :: x2 :: x3 :: x4 :: l)) (.int 4) M = .ok x4 M := i_tn (k := 4) rfl
theorem i_l4 (x0 x1 x2 x3 x4 : D) (l) : idxD (.lst (x0 :: x1 :: x2 :: x3 :: x4 :: l)) (.int 4) M = .ok x4 M := i_ln (k := 4) rfl
theorem i_t5 (x0 x1 x2 x3 x4 x5 : D) (l) : idxD (.tup (x0 :: x1 :: x2 :: x3 :: x4 :: x5 :: l)) (.int 5) M = .ok x5 M := i_tn (k := 5) rfl
theorem i_l5 (x0 x1 x2 x3 x4 x5 : D) (l) : idxD (.lst (x0 :: x1 :: x2 :: x3 :: x4 :: x5 :: l)) (.int 5) M = .ok x5 M := i_ln (k := 5) rfl
theorem i_t6 (x0 x1 x2 x3 x4 x5 x6 : D) (l) : idxD (.tup (x0 :: x1 :: x2 :: x3 :: x4 :: x5 :: x6 :: l)) (.int 6) M = .ok x6 M := i_tn (k := 6) rfl
theorem i_l6 (x0 x1 x2 x3 x4 x5 x6 : D) (l) : idxD (.lst (x0 :: x1 :: x2 :: x3 :: x4 :: x5 :: x6 :: l)) (.int 6) M = .ok x6 M := i_ln (k := 6) rfl
theorem i_t7 (x0 x1 x2 x3 x4 x5 x6 x7 : D) (l) : idxD (.tup (x0 :: x1 :: x2 :: x3 :: x4 :: x5 :: x6 :: x7 :: l)) (.int 7) M = .ok x7 M := i_tn (k := 7) rfl
theorem i_l7 (x0 x1 x2 x3 x4 x5 x6 x7 : D) (l) : idxD (.lst (x0 :: x1 :: x2 :: x3 :: x4 :: x5 :: x6 :: x7 :: l)) (.int 7) M = .ok x7 M := i_ln (k := 7) rfl
theorem tr_bl (b) : truD (.bl b) M = .ok b M := id rfl
theorem tr_int (i) : truD (.int i) M = .ok (i != 0) M := id rfl
theorem tr_non : truD .non M = .ok false M := id rfl
theorem tr_tup (ds) : truD (.tup ds) M = .ok (!ds.isEmpty) M := id rfl
theorem tr_lst (ds) : truD (.lst ds) M = .ok (!ds.isEmpty) M := id rfl
theorem k_ifeD (a b) (p : Prop) [Decidable p] : ifeK c env a b (decide p) M = if p then evE c a env M else evE c b env M := by
  by_cases h : p <;> simp [ifeK, h]
/-! ### statements -/
def asgK (g : G) (env : Env) : D → Sto → SRes := fun x M => (match bindM M g x env with | some env' => .next env' M | none => .stk)
def par1 (c : Cal) (env : Env) (i j : Nat) (b : E) : D → Sto → SRes := fun x M => .of (evE c b env M) fun y M => .next ((env.set i (.val x)).set j (.val y)) M
def par2 (env : Env) (i j : Nat) (x : D) : D → Sto → SRes := fun y M => .next ((env.set i (.val x)).set j (.val y)) M
def ownK (env : Env) (i : Nat) : List D → Sto → SRes := fun xs M => if i < env.length then .next (env.set i (.own xs)) M else .stk
def appK (c : Cal) (env : Env) (M : Sto) (i : Nat) (e : E) : Option Slot → SRes
  | some (.own ds) => .of (evE c e env M) fun x M => if ds.length < line then .next (env.set i (.own (ds ++ [x]))) M else .stk
  | _ => .stk
def app2 (env : Env) (i : Nat) (ds : List D) : D → Sto → SRes := fun x M => if ds.length < line then .next (env.set i (.own (ds ++ [x]))) M else .stk
def augK (c : Cal) (env : Env) (M : Sto) (i : Nat) (o : Bop) (e : E) : Option Slot → SRes
  | some (.val y) => .of (evE c e env M) fun x M => (match y, x with | .int i0, .int j0 => if AugOk o = true then .of (binD o (.int i0) (.int j0) M) fun z M => .next (env.set i (.val z)) M else .stk | .tup a0, .tup b0 => if AugT o = true then .of (binD .add (.tup a0) (.tup b0) M) fun z M => .next (env.set i (.val z)) M else .stk | _, _ => .stk)
  | _ => .stk
def aug2 (env : Env) (i : Nat) (o : Bop) (y : D) : D → Sto → SRes := fun x M => (match y, x with | .int i0, .int j0 => if AugOk o = true then .of (binD o (.int i0) (.int j0) M) fun z M => .next (env.set i (.val z)) M else .stk | .tup a0, .tup b0 => if AugT o = true then .of (binD .add (.tup a0) (.tup b0) M) fun z M => .next (env.set i (.val z)) M else .stk | _, _ => .stk)
def storK (env : Env) : Option Sto → SRes
  | some M' => .next env M'
  | none => .stk
def set3 (env : Env) (x o : D) : D → Sto → SRes := fun k M => (match o with
      | .obj n => (match stor M n k x with | some M' => .next env M' | none => .stk)
      | _ => .stk)
def set2 (c : Cal) (env : Env) (x : D) (k : E) : D → Sto → SRes := fun o M => .of (evE c k env M) fun k M => (match o with
      | .obj n => (match stor M n k x with | some M' => .next env M' | none => .stk)
      | _ => .stk)
def set1 (c : Cal) (env : Env) (a k : E) : D → Sto → SRes := fun x M => .of (evE c a env M) fun o M => .of (evE c k env M) fun k M => (match o with
      | .obj n => (match stor M n k x with | some M' => .next env M' | none => .stk)
      | _ => .stk)
def exprK (env : Env) : D → Sto → SRes := fun _ M => .next env M
def retK : D → Sto → SRes := fun x M => .ret x M
noncomputable def ifsK (c : Cal) (env : Env) (a b : List S) : Bool → Sto → SRes := fun t M => if t = true then evSs c a env M else evSs c b env M
noncomputable def forS (c : Cal) (g : G) (b : List S) : D → Env → Sto → SRes := fun d env M => match bindG g d env with | some env' => evSs c b env' M | none => .stk
noncomputable def forK (c : Cal) (env : Env) (g : G) (b : List S) : List D → Sto → SRes := fun ds M => forL (forS c g b) ds env M
noncomputable def frzK (c : Cal) (env : Env) (M : Sto) (i : Nat) (s : S) : Option Slot → SRes
  | some (.own ds) => evS c s (env.set i (.val (.lst ds))) M
  | _ => .stk
theorem y_nil : evSs c [] env M = .next env M := by simp only [evSs]
theorem y_cons (s r) : evSs c (s :: r) env M = (evS c s env M).andThen (evSs c r) := by simp only [evSs]
theorem y_next (k : Env → Sto → SRes) : (SRes.next env M).andThen k = k env M := id rfl
theorem y_ret (d) (k : Env → Sto → SRes) : (SRes.ret d M).andThen k = .ret d M := id rfl
theorem y_brk (k : Env → Sto → SRes) : (SRes.brk env M).andThen k = .brk env M := id rfl
theorem y_cnt (k : Env → Sto → SRes) : (SRes.cnt env M).andThen k = .cnt env M := id rfl
theorem y_asg (g e) : evS c (.asg g e) env M = .of (evE c e env M) (asgK g env) := by simp only [evS]; rfl
theorem y_par (i j a b) : evS c (.par i j a b) env M = .of (evE c a env M) (par1 c env i j b) := by simp only [evS]; rfl
theorem y_par1 (i j b x) : par1 c env i j b x M = .of (evE c b env M) (par2 env i j x) := id rfl
theorem y_par2 (i j x y) : par2 env i j x y M = .next ((env.set i (.val x)).set j (.val y)) M := id rfl
theorem y_ownL (i es) : evS c (.ownL i es) env M = .of (evEs c es env M) (ownK env i) := by simp only [evS]; rfl
theorem y_ownK (i xs) : ownK env i xs M = if i < env.length then .next (env.set i (.own xs)) M else .stk := id rfl
def ownFK (env : Env) (i : Nat) : D → Sto → SRes := fun x M => (match x with | .lst ds => if i < env.length then .next (env.set i (.own ds)) M else .stk | _ => .stk)
theorem y_ownF (i e) : evS c (.ownF i e) env M = .of (evE c e env M) (ownFK env i) := by simp only [evS]; rfl
def ownCK (env : Env) (i : Nat) : D → Sto → SRes := fun x M => (match seqO x with | some ds => if i < env.length then .next (env.set i (.own ds)) M else .stk | none => .stk)
theorem y_ownC (i e) : evS c (.ownC i e) env M = .of (peek e env M (evE c e env M)) (ownCK env i) := by simp only [evS]; rfl
theorem y_ownCT (i ds) : ownCK env i (.tup ds) M = if i < env.length then .next (env.set i (.own ds)) M else .stk := id rfl
theorem y_ownCL (i ds) : ownCK env i (.lst ds) M = if i < env.length then .next (env.set i (.own ds)) M else .stk := id rfl
theorem y_ownFK (i ds) : ownFK env i (.lst ds) M = if i < env.length then .next (env.set i (.own ds)) M else .stk := id rfl
theorem y_app (i e) : evS c (.app i e) env M = appK c env M i e env[i]? := by
  simp only [evS]
  cases e : env[i]? with
  | none => rfl
  | some s => cases s <;> rfl
theorem y_appK (i e ds) : appK c env M i e (some (.own ds)) = .of (evE c e env M) (app2 env i ds) := id rfl
theorem y_app2 (i ds x) : app2 env i ds x M = if ds.length < line then .next (env.set i (.own (ds ++ [x]))) M else .stk := id rfl
def extK (c : Cal) (env : Env) (M : Sto) (i : Nat) (e : E) : Option Slot → SRes
  | some (.own ds) => .of (evE c e env M) fun x M => (match seqO x with | some es => if ds.length + es.length ≤ line then .next (env.set i (.own (ds ++ es))) M else .stk | none => .stk)
  | _ => .stk
def ext2 (env : Env) (i : Nat) (ds : List D) : D → Sto → SRes := fun x M => (match seqO x with | some es => if ds.length + es.length ≤ line then .next (env.set i (.own (ds ++ es))) M else .stk | none => .stk)
theorem y_ext (i e) : evS c (.ext i e) env M = extK c env M i e env[i]? := by
  simp only [evS]
  cases e : env[i]? with
  | none => rfl
  | some s => cases s <;> rfl
theorem y_extK (i e ds) : extK c env M i e (some (.own ds)) = .of (evE c e env M) (ext2 env i ds) := id rfl
theorem y_extT (i ds es) : ext2 env i ds (.tup es) M = if ds.length + es.length ≤ line then .next (env.set i (.own (ds ++ es))) M else .stk := id rfl
theorem y_extL (i ds es) : ext2 env i ds (.lst es) M = if ds.length + es.length ≤ line then .next (env.set i (.own (ds ++ es))) M else .stk := id rfl
def starK (gs : List G) (i : Nat) (env : Env) : D → Sto → SRes := fun x M => (match starD gs i x env with | some env' => .next env' M | none => .stk)
theorem y_star (gs i e) : evS c (.star gs i e) env M = .of (evE c e env M) (starK gs i env) := by simp only [evS]; rfl
theorem y_starK {gs i x env'} (h : starD gs i x env = some env') : starK gs i env x M = .next env' M := by
  unfold starK
  rw [h]
def rowK (ts : List Nat) (env : Env) : List Slot → Sto → SRes := fun ss M => if ts.length = ss.length ∧ (ts.all fun t => decide (t < env.length)) = true then .next (setsE ts ss env) M else .stk
theorem y_row (ts rs) : evS c (.row ts rs) env M = .of (evRs c rs env M) (rowK ts env) := by simp only [evS]; rfl
theorem y_aug (i o e) : evS c (.aug i o e) env M = augK c env M i o e env[i]? := by
  simp only [evS]
  cases e : env[i]? with
  | none => rfl
  | some s => cases s <;> rfl
theorem y_augK (i o e y) : augK c env M i o e (some (.val y)) = .of (evE c e env M) (aug2 env i o y) := id rfl
theorem y_augA (i a b) : aug2 env i .add (.int a) (.int b) M = .next (env.set i (.val (.int (a + b)))) M := id rfl
theorem y_augT {i a b} (h : a.length + b.length ≤ line) : aug2 env i .add (.tup a) (.tup b) M = .next (env.set i (.val (.tup (a ++ b)))) M := by
  have e : aug2 env i .add (.tup a) (.tup b) M = .of (binD .add (.tup a) (.tup b) M) fun z M => .next (env.set i (.val z)) M := id rfl
  rw [e]
  simp only [binD, h, if_true, SRes.of_ok]
theorem y_augS (i a b) : aug2 env i .sub (.int a) (.int b) M = .next (env.set i (.val (.int (a - b)))) M := id rfl
theorem y_setd (a k e) : evS c (.setd a k e) env M = .of (evE c e env M) (set1 c env a k) := by simp only [evS]; rfl
theorem y_set1 (a k x) : set1 c env a k x M = .of (evE c a env M) (set2 c env x k) := id rfl
theorem y_set2 (x k o) : set2 c env x k o M = .of (evE c k env M) (set3 env x o) := id rfl
theorem y_set3 (x n k) : set3 env x (.obj n) k M = storK env (stor M n k x) := by
  unfold set3
  simp only
  cases stor M n k x <;> rfl
theorem y_storK (M') : storK env (some M') = .next env M' := id rfl
theorem y_expr (e) : evS c (.expr e) env M = .of (evE c e env M) (exprK env) := by simp only [evS]; rfl
theorem y_exprK (d) : exprK env d M = .next env M := id rfl
theorem y_ret1 (e) : evS c (.ret e) env M = .of (evE c e env M) retK := by simp only [evS]; rfl
theorem y_retK (d) : retK d M = .ret d M := id rfl
theorem y_retn : evS c .retn env M = .ret .non M := by simp only [evS]
theorem y_ifs (t a b) : evS c (.ifs t a b) env M = .of (evT c t env M) (ifsK c env a b) := by simp only [evS]; rfl
theorem y_ifsT (a b) : ifsK c env a b true M = evSs c a env M := id rfl
theorem y_ifsF (a b) : ifsK c env a b false M = evSs c b env M := id rfl
theorem y_forr (g it b) : evS c (.forr g it b) env M = .of (evI c it env M) (forK c env g b) := by simp only [evS]; rfl
theorem y_forK (g b ds) : forK c env g b ds M = forL (forS c g b) ds env M := id rfl
theorem y_forS (g b d) : forS c g b d env M = match bindG g d env with | some env' => evSs c b env' M | none => .stk := id rfl
theorem y_whil (t b) : evS c (.whil t b) env M = whileD (evT c t) (evSs c b) env M := by simp only [evS]
theorem y_pas : evS c .pas env M = .next env M := by simp only [evS]
theorem y_brk1 : evS c .brk env M = .brk env M := by simp only [evS]
theorem y_cnt1 : evS c .cnt env M = .cnt env M := by simp only [evS]
theorem y_frz (i s) : evS c (.frz i s) env M = frzK c env M i s env[i]? := by
  simp only [evS]
  cases e : env[i]? with
  | none => rfl
  | some s => cases s <;> rfl
theorem y_frzK (i s ds) : frzK c env M i s (some (.own ds)) = evS c s (env.set i (.val (.lst ds))) M := id rfl
theorem m_nm (i d) : bindM M (.nm i) d env = bindG (.nm i) d env := id rfl
theorem m_tpT (gs ds) : bindM M (.tp gs) (.tup ds) env = bindGs gs ds env := id rfl
theorem m_tpL (gs ds) : bindM M (.tp gs) (.lst ds) env = bindGs gs ds env := id rfl
theorem g_tpL (gs ds) : bindG (.tp gs) (.lst ds) env = bindGs gs ds env := id rfl
def apo2 (env : Env) (n : Nat) : D → Sto → SRes := fun x M => storK env (apnd M n x)
def apo1 (c : Cal) (env : Env) (e : E) : D → Sto → SRes := fun o M => (match o with
      | .obj n => if isLst M n = true then .of (evE c e env M) (apo2 env n) else .stk
      | _ => .stk)
theorem y_appo (a e) : evS c (.appo a e) env M = .of (evE c a env M) (apo1 c env e) := by
  simp only [evS]
  unfold apo1 apo2 storK
  rfl
theorem y_apo1 (e n) : apo1 c env e (.obj n) M = if isLst M n = true then .of (evE c e env M) (apo2 env n) else .stk := id rfl
theorem y_apo2 (n x) : apo2 env n x M = storK env (apnd M n x) := id rfl
theorem y_asgK (g x) : asgK g env x M = match bindM M g x env with | some env' => .next env' M | none => .stk := id rfl
theorem y_ifsD (a b) (p : Prop) [Decidable p] : ifsK c env a b (decide p) M = if p then evSs c a env M else evSs c b env M := by
  by_cases h : p <;> simp [ifsK, h]
theorem fin_ret (d) : fin (.ret d M) = .ok d M := id rfl
theorem fin_next : fin (.next env M) = .ok .non M := id rfl
theorem g_nm (i d) : bindG (.nm i) d env = if i < env.length then some (env.set i (.val d)) else none := id rfl
theorem g_tp (gs ds) : bindG (.tp gs) (.tup ds) env = bindGs gs ds env := id rfl
theorem g_nil : bindGs [] [] env = some env := id rfl
theorem g_cons (g gs d ds) : bindGs (g :: gs) (d :: ds) env = (bindG g d env).bind (bindGs gs ds) := id rfl
theorem k_ifeN (a b) (p : Prop) [Decidable p] : ifeK c env a b (!decide p) M = if p then evE c b env M else evE c a env M := by
  by_cases h : p <;> simp [ifeK, h]
theorem y_ifsN (a b) (p : Prop) [Decidable p] : ifsK c env a b (!decide p) M = if p then evSs c b env M else evSs c a env M := by
  by_cases h : p <;> simp [ifsK, h]
def ofS : Option Slot → Bool
  | some (.own _) => false
  | _ => true
theorem of_nil : ownFree env [] = true := id rfl
theorem of_cons (p ps) : ownFree env (p :: ps) = (ofS env[p.2]? && ownFree env ps) := by
  unfold ownFree
  rw [List.all_cons]
  cases e : env[p.2]? with
  | none => rfl
  | some s => cases s <;> rfl
theorem ofS_non : ofS (some .non) = true := id rfl
theorem ofS_val (d) : ofS (some (.val d)) = true := id rfl
theorem ofS_none : ofS none = true := id rfl
theorem wi_nil : wipeE env [] = env := id rfl
theorem wi_cons (p ps) : wipeE env (p :: ps) = (wipeE env ps).set p.2 .non := id rfl
theorem q_tf : (true = false) = False := id (by simp)
theorem q_ta : (true && true) = true := id rfl
theorem k_andT (b) : and1 c env b (.bl true) M = evE c b env M := id rfl
theorem k_andF (b) : and1 c env b (.bl false) M = .ok (.bl false) M := id rfl
theorem k_orT (b) : or1 c env b (.bl true) M = .ok (.bl true) M := id rfl
theorem k_orF (b) : or1 c env b (.bl false) M = evE c b env M := id rfl
/-! pushing out -/
theorem p_bind {α β : Type} (p : Prop) [Decidable p] (a b : Res α) (k : α → Sto → Res β) : (if p then a else b).bind k = if p then a.bind k else b.bind k := by
  split <;> rfl
theorem p_of {α : Type} (p : Prop) [Decidable p] (a b : Res α) (k : α → Sto → SRes) : SRes.of (if p then a else b) k = if p then SRes.of a k else SRes.of b k := by
  split <;> rfl
theorem p_then (p : Prop) [Decidable p] (a b : SRes) (k : Env → Sto → SRes) : (if p then a else b).andThen k = if p then a.andThen k else b.andThen k := by
  split <;> rfl
theorem p_fin (p : Prop) [Decidable p] (a b : SRes) : fin (if p then a else b) = if p then fin a else fin b := by
  split <;> rfl
/-! Euclid's loop -/
theorem gcd_loop {s0 s1 : Slot} (x y : Int) (hx : 0 ≤ x) (hy : 0 ≤ y) :
    whileD (evT c (.cmp .gt (.var 3) (.cint 0))) (evSs c [.par 2 3 (.var 3) (.bin .mod (.var 2) (.var 3))]) [s0, s1, .val (.int x), .val (.int y)] M = .next [s0, s1, .val (.int (Int.gcd x y)), .val (.int 0)] M := by
  have key : ∀ (k : Nat) (x y : Int), 0 ≤ x → 0 ≤ y → y.toNat ≤ k → Turns (evT c (.cmp .gt (.var 3) (.cint 0))) (evSs c [.par 2 3 (.var 3) (.bin .mod (.var 2) (.var 3))]) [s0, s1, .val (.int x), .val (.int y)] M [s0, s1, .val (.int (Int.gcd x y)), .val (.int 0)] M := by
    intro k
    induction k with
    | zero =>
      intro x y hx hy hk
      have y0 : y = 0 := by omega
      subst y0
      have e : ((Int.gcd x 0 : Nat) : Int) = x := by
        rw [Int.gcd_zero_right]
        omega
      rw [e]
      exact .done (by simp only [xt_cmp, pk_var, x_var, lkK_val, k_tcmp1, pk_cint, x_cint, d_gt, k_bl, Res.bind_ok, List.getElem?_cons_zero, List.getElem?_cons_succ] <;> rfl)
    | succ k ih =>
      intro x y hx hy hk
      by_cases hy0 : y = 0
      · subst hy0
        have e : ((Int.gcd x 0 : Nat) : Int) = x := by
          rw [Int.gcd_zero_right]
          omega
        rw [e]
        exact .done (by simp only [xt_cmp, pk_var, x_var, lkK_val, k_tcmp1, pk_cint, x_cint, d_gt, k_bl, Res.bind_ok, List.getElem?_cons_zero, List.getElem?_cons_succ] <;> rfl)
      · have hyp : 0 < y := by omega
        have m0 := Int.emod_nonneg x hy0
        have m1 := Int.emod_lt_of_pos x hyp
        have e : Int.gcd x y = Int.gcd y (x % y) := by
          obtain ⟨a, rfl⟩ := Int.eq_ofNat_of_zero_le hx
          obtain ⟨b, rfl⟩ := Int.eq_ofNat_of_zero_le hy
          rw [← Int.natCast_emod]
          show Nat.gcd a b = Nat.gcd b (a % b)
          rw [Nat.gcd_comm a b, Nat.gcd_rec b a, Nat.gcd_comm]
        rw [e]
        refine .more (M1 := M) (e2 := [s0, s1, .val (.int y), .val (.int (x % y))]) (M2 := M) ?_ ?_ (ih y (x % y) hy m0 (by omega))
        · simp only [xt_cmp, pk_var, x_var, lkK_val, k_tcmp1, pk_cint, x_cint, d_gt, k_bl, Res.bind_ok, List.getElem?_cons_zero, List.getElem?_cons_succ, hyp, decide_true]
        · simp only [y_cons, y_par, y_par1, y_par2, y_nil, y_next, x_var, x_bin, k_bin1, d_mod hyp, lkK_val, Res.bind_ok, SRes.of_ok, List.getElem?_cons_zero, List.getElem?_cons_succ, List.set_cons_zero, List.set_cons_succ]
  exact whileD_turns (key y.toNat x y hx hy (Nat.le_refl _))
end
end Mp
end

section
set_option Elab.async false
set_option linter.all false
set_option maxRecDepth 100000
set_option maxHeartbeats 0
/-! The feed of figures. -/
namespace Mp
open PySem PySem.Spec
def feedD (cells : List Int) (at_ left count : Int) : Ob := .dk [(.inr "cells", .lst (cells.map .int)), (.inr "at", .int at_), (.inr "left", .int left), (.inr "count", .int count)]
structure FeedAt (i : Nat) (b : Int) (M : Sto) : Prop where
  ex : ∃ cells at_ left count, M[i]? = some (feedD cells at_ left count) ∧ 0 ≤ at_ ∧ 0 ≤ left ∧ 0 ≤ count ∧ count ≤ b
theorem FeedAt.up {i : Nat} {b b' : Int} {M : Sto} (h : FeedAt i b M) (hb : b ≤ b') : FeedAt i b' M := by
  obtain ⟨x, y, z, w, h1, h2, h3, h4, h5⟩ := h.ex
  exact ⟨x, y, z, w, h1, h2, h3, h4, by omega⟩
def cellE (c3 : Int) : E := .ife (.cmp .ne (.dgt (.var 0) (.cstr "cells")) (.lst (.nil))) (.idx (.dgt (.var 0) (.cstr "cells")) (.bin .mod (.var 2) (.blt .len (.cons (.dgt (.var 0) (.cstr "cells")) .nil)))) (.cint c3)
def drawB (c1 c2 c3 p e c4 c5 c6 c7 c8 c9 c10 c11 c12 c13 : Int) : List S :=
  [.setd (.var 0) (.cstr "count") (.bin .add (.dgt (.var 0) (.cstr "count")) (.cint c1)),
   .ifs (.cmp .gt (.dgt (.var 0) (.cstr "left")) (.cint 0)) [.asg (.nm 5) (.bin .mod (.dgt (.var 0) (.cstr "left")) (.var 1)), .setd (.var 0) (.cstr "left") (.bin .fdiv (.dgt (.var 0) (.cstr "left")) (.var 1)), .ret (.var 5)] [],
   .asg (.nm 2) (.dgt (.var 0) (.cstr "at")), .setd (.var 0) (.cstr "at") (.bin .add (.var 2) (.cint c2)),
   .asg (.nm 3) (cellE c3),
   .ifs (.and (.cmp .ge (.var 3) (.bin .pow (.cint p) (.cint e))) (.one (.cmp .lt (.var 2) (.blt .len (.cons (.dgt (.var 0) (.cstr "cells")) .nil))))) [.setd (.var 0) (.cstr "left") (.bin .fdiv (.var 3) (.var 1)), .ret (.bin .mod (.var 3) (.var 1))] [],
   .asg (.nm 4) (.bin .mod (.bin .add (.bin .add (.bin .mod (.var 3) (.cint c4)) (.bin .mul (.cint c5) (.dgt (.var 0) (.cstr "count")))) (.cint c6)) (.cint c7)),
   .asg (.nm 4) (.bin .mod (.bin .add (.bin .add (.bin .mul (.var 4) (.var 4)) (.bin .mul (.cint c8) (.dgt (.var 0) (.cstr "count")))) (.cint c9)) (.cint c10)),
   .ret (.bin .mod (.bin .fdiv (.bin .mod (.bin .add (.bin .mul (.var 4) (.var 4)) (.bin .mul (.cint c11) (.var 4))) (.cint c12)) (.cint c13)) (.var 1))]
def fkv (x a l k : D) : List (L2.Key × D) := [(.inr "cells", x), (.inr "at", a), (.inr "left", l), (.inr "count", k)]
theorem put_count (x a l k v : D) : dput (fkv x a l k) (.inr "count") v = fkv x a l v := by rfl
theorem put_at (x a l k v : D) : dput (fkv x a l k) (.inr "at") v = fkv x v l k := by rfl
theorem put_left (x a l k v : D) : dput (fkv x a l k) (.inr "left") v = fkv x a v k := by rfl
theorem get_cells (x a l k : D) : dget (fkv x a l k) (.inr "cells") = some x := by rfl
theorem get_count (x a l k : D) : dget (fkv x a l k) (.inr "count") = some k := by rfl
theorem get_at (x a l k : D) : dget (fkv x a l k) (.inr "at") = some a := by rfl
theorem get_left (x a l k : D) : dget (fkv x a l k) (.inr "left") = some l := by rfl
section
variable {c : Cal} {env : Env} {M : Sto} {i : Nat}
theorem rd_cells {x a l k : D} (h : M[i]? = some (.dk (fkv x a l k))) : dgtD (.obj i) (.str "cells") M = .ok x M := d_dgt (by unfold look obAt; rw [h]; exact congrArg some (get_cells ..))
theorem rd_at {x a l k : D} (h : M[i]? = some (.dk (fkv x a l k))) : dgtD (.obj i) (.str "at") M = .ok a M := d_dgt (by unfold look obAt; rw [h]; exact congrArg some (get_at ..))
theorem rd_left {x a l k : D} (h : M[i]? = some (.dk (fkv x a l k))) : dgtD (.obj i) (.str "left") M = .ok l M := d_dgt (by unfold look obAt; rw [h]; exact congrArg some (get_left ..))
theorem rd_count {x a l k : D} (h : M[i]? = some (.dk (fkv x a l k))) : dgtD (.obj i) (.str "count") M = .ok k M := d_dgt (by unfold look obAt; rw [h]; exact congrArg some (get_count ..))
theorem wr_at {x a l k v : D} (h : M[i]? = some (.dk (fkv x a l k))) : set3 env v (.obj i) (.str "at") M = .next env (M.set i (.dk (fkv x v l k))) := by
  have e : stor M i (.str _) v = some _ := (by unfold stor; rw [h]; exact congrArg (fun z => some (M.set i (.dk z))) (put_at x a l k v))
  rw [y_set3, e, y_storK]
theorem wr_left {x a l k v : D} (h : M[i]? = some (.dk (fkv x a l k))) : set3 env v (.obj i) (.str "left") M = .next env (M.set i (.dk (fkv x a v k))) := by
  have e : stor M i (.str _) v = some _ := (by unfold stor; rw [h]; exact congrArg (fun z => some (M.set i (.dk z))) (put_left x a l k v))
  rw [y_set3, e, y_storK]
theorem wr_count {x a l k v : D} (h : M[i]? = some (.dk (fkv x a l k))) : set3 env v (.obj i) (.str "count") M = .next env (M.set i (.dk (fkv x a l v))) := by
  have e : stor M i (.str _) v = some _ := (by unfold stor; rw [h]; exact congrArg (fun z => some (M.set i (.dk z))) (put_count x a l k v))
  rw [y_set3, e, y_storK]
/-- a cell, where there are some -/
theorem cell_ix {ns : List Int} {a : Int} (h : ns ≠ []) : ∃ z : Int, idxD (.lst (ns.map .int)) (.int (a % (ns.map D.int).length)) M = .ok (.int z) M := by
  have hl : 0 < ns.length := List.length_pos_iff.mpr h
  rw [List.length_map]
  have h0 := Int.emod_nonneg a (show (ns.length : Int) ≠ 0 by omega)
  have h1 := Int.emod_lt_of_pos a (show (0 : Int) < ns.length by omega)
  obtain ⟨k, hk⟩ := Int.eq_ofNat_of_zero_le h0
  have hk2 : k < ns.length := by omega
  refine ⟨ns[k], ?_⟩
  rw [hk]
  exact i_ln (by rw [List.getElem?_map, List.getElem?_eq_getElem hk2] <;> rfl)
end
theorem w2 {i : Int} (h : -(2 ^ 200) < i) (h2 : i < 2 ^ 200) : i.natAbs < 2 ^ 4000 := by
  have e : (2 : Nat) ^ 200 ≤ 2 ^ 4000 := Nat.pow_le_pow_right (by decide) (by decide)
  exact Nat.lt_of_lt_of_le (by omega) e
theorem ww {i j : Int} (h : -(2 ^ 200) < i) (h2 : i < 2 ^ 200) (h3 : -(2 ^ 200) < j) (h4 : j < 2 ^ 200) : widthOk i j = true := widthOk_of (w2 h h2) (w2 h3 h4)
theorem idx_dom {ds : List D} {r : Int} (h : 0 ≤ r) (h2 : r < ds.length) : ∃ d ∈ ds, ∀ M : Sto, idxD (.lst ds) (.int r) M = .ok d M := by
  obtain ⟨k, rfl⟩ := Int.eq_ofNat_of_zero_le h
  have hk : k < ds.length := by omega
  exact ⟨ds[k], List.getElem_mem hk, fun M => i_ln (List.getElem?_eq_getElem hk)⟩
theorem idx_domT {ds : List D} {r : Int} (h : 0 ≤ r) (h2 : r < ds.length) : ∃ d ∈ ds, ∀ M : Sto, idxD (.tup ds) (.int r) M = .ok d M := by
  obtain ⟨k, rfl⟩ := Int.eq_ofNat_of_zero_le h
  have hk : k < ds.length := by omega
  exact ⟨ds[k], List.getElem_mem hk, fun M => i_tn (List.getElem?_eq_getElem hk)⟩
theorem evSs_append {c : Cal} : ∀ (a b : List S) (env : Env) (M : Sto), evSs c (a ++ b) env M = (evSs c a env M).andThen (evSs c b)
  | [], b, env, M => by rw [List.nil_append, y_nil, y_next]
  | s :: a, b, env, M => by
    rw [List.cons_append, y_cons, y_cons]
    cases evS c s env M with
    | next e M' => rw [y_next, y_next]; exact evSs_append a b e M'
    | _ => rfl
/-! ### what repr writes -/
structure Sw (x : D) (w d : Nat) : Prop where
  p : pure? x = true
  s : small? x = true
  d : dep x ≤ d
  w : wt x ≤ w
structure Sws (xs : List D) (w d : Nat) : Prop where
  p : pures xs = true
  s : smalls xs = true
  d : deps xs ≤ d
  w : wts xs ≤ w
theorem Sw.int {i : Int} (h : i.natAbs < 2 ^ 1900) : Sw (.int i) 2000 0 := ⟨rfl, decide_eq_true h, Nat.le_refl _, Nat.le_refl _⟩
theorem Sw.bl (b : Bool) : Sw (.bl b) 5 0 := ⟨rfl, rfl, Nat.le_refl _, Nat.le_refl _⟩
theorem Sw.non : Sw .non 5 0 := ⟨rfl, rfl, Nat.le_refl _, Nat.le_refl _⟩
theorem Sws.nil : Sws [] 0 0 := ⟨rfl, rfl, Nat.le_refl _, Nat.le_refl _⟩
theorem Sws.cons {x : D} {xs : List D} {w d w' d' : Nat} (h : Sw x w d) (g : Sws xs w' d') : Sws (x :: xs) (w + 2 + w') (max d d') := by
  refine ⟨by rw [pures, h.p, g.p] <;> rfl, by rw [smalls, h.s, g.s] <;> rfl, ?_, ?_⟩
  · rw [deps]
    have := h.d
    have := g.d
    omega
  · rw [wts]
    have := h.w
    have := g.w
    omega
theorem Sw.tup {xs : List D} {w d : Nat} (h : Sws xs w d) : Sw (.tup xs) (w + 3) (d + 1) := ⟨by rw [pure?]; exact h.p, by rw [small?]; exact h.s, by rw [dep]; exact Nat.succ_le_succ h.d, by rw [wt]; exact Nat.add_le_add_right h.w 3⟩
theorem Sw.lst {xs : List D} {w d : Nat} (h : Sws xs w d) : Sw (.lst xs) (w + 3) (d + 1) := ⟨by rw [pure?]; exact h.p, by rw [small?]; exact h.s, by rw [dep]; exact Nat.succ_le_succ h.d, by rw [wt]; exact Nat.add_le_add_right h.w 3⟩
theorem Sws.ints : ∀ {ns : List Int}, (∀ i ∈ ns, i.natAbs < 2 ^ 1900) → Sws (ns.map .int) (2002 * ns.length) 0
  | [], _ => .nil
  | i :: ns, h => by
    have a := Sws.cons (Sw.int (h i List.mem_cons_self)) (Sws.ints (ns := ns) fun j hj => h j (List.mem_cons_of_mem _ hj))
    exact ⟨a.p, a.s, a.d, Nat.le_trans a.w (by rw [List.length_cons]; omega)⟩
theorem Sw.up {x : D} {w d w' d' : Nat} (h : Sw x w d) (hw : w ≤ w') (hd : d ≤ d') : Sw x w' d' := ⟨h.p, h.s, Nat.le_trans h.d hd, Nat.le_trans h.w hw⟩
theorem Sw.repr {x : D} {w d : Nat} (h : Sw x w d) (hd : d ≤ 60 := by decide) (hw : w ≤ line := by decide) (M : Sto) : bltD .repr [x] M = .ok (.str (PyData.shown (py x))) M := by
  have e : (pure? x && small? x && decide (dep x ≤ 60) && decide (wt x ≤ line)) = true := by
    rw [h.p, h.s, decide_eq_true (Nat.le_trans h.d hd), decide_eq_true (Nat.le_trans h.w hw)] <;> rfl
  show (if (pure? x && small? x && decide (dep x ≤ 60) && decide (wt x ≤ line)) = true then _ else _) = _
  rw [if_pos e]
end Mp
end

section
set_option Elab.async false
set_option linter.all false
set_option maxRecDepth 100000
set_option maxHeartbeats 0
/-! A figure drawn. -/
namespace Mp
open PySem PySem.Spec
structure Cst (x : Int) : Prop where
  pos : 0 < x
  sm : x < 2 ^ 64
theorem Cst.w {x : Int} (h : Cst x) : x.natAbs < 2 ^ 4000 := w2 (by have := h.pos; omega) (by have := h.sm; omega)
def mixB (c4 c5 c6 c7 c8 c9 c10 c11 c12 c13 : Int) : List S :=
  [.asg (.nm 4) (.bin .mod (.bin .add (.bin .add (.bin .mod (.var 3) (.cint c4)) (.bin .mul (.cint c5) (.dgt (.var 0) (.cstr "count")))) (.cint c6)) (.cint c7)),
   .asg (.nm 4) (.bin .mod (.bin .add (.bin .add (.bin .mul (.var 4) (.var 4)) (.bin .mul (.cint c8) (.dgt (.var 0) (.cstr "count")))) (.cint c9)) (.cint c10)),
   .ret (.bin .mod (.bin .fdiv (.bin .mod (.bin .add (.bin .mul (.var 4) (.var 4)) (.bin .mul (.cint c11) (.var 4))) (.cint c12)) (.cint c13)) (.var 1))]
section
variable {c : Cal} {M : Sto} {i : Nat}
theorem draw_run {c1 c2 c3 p e c4 c5 c6 c7 c8 c9 c10 c11 c12 c13 b m : Int} (hc1 : c1 = 1) (hc2 : c2 = 1) (hp0 : 0 ≤ e ∧ e ≤ 1000 ∧ p.natAbs < 2 ^ 64 ∧ 0 ≤ p ^ e.toNat) (h4 : Cst c4) (h5 : Cst c5) (h7 : Cst c7) (h8 : Cst c8) (h10 : Cst c10) (h11 : Cst c11) (h12 : Cst c12) (h13 : Cst c13)
    (F : FeedAt i b M) (hb : b < 2 ^ 100) (hm : 0 < m) (hm2 : m < 2 ^ 64) :
    ∃ r M', fin (evSs c (drawB c1 c2 c3 p e c4 c5 c6 c7 c8 c9 c10 c11 c12 c13) [.val (.obj i), .val (.int m), .non, .non, .non, .non] M) = .ok (.int r) M' ∧ 0 ≤ r ∧ r < m ∧ FeedAt i (b + 1) M' ∧ M'.length = M.length ∧ ∀ j, j ≠ i → M'[j]? = M[j]? := by
  obtain ⟨ns, a, l, k, hM, ha, hl, hk, hkb⟩ := F.ex
  subst hc1 hc2
  have hM : M[i]? = some (.dk (fkv (.lst (ns.map .int)) (.int a) (.int l) (.int k))) := hM
  have hi : i < M.length := (List.getElem?_eq_some_iff.mp hM).1
  have hst : ∀ o : Ob, (M.set i o)[i]? = some o := fun o => List.getElem?_set_self hi
  have hmw : m.natAbs < 2 ^ 4000 := Cst.w ⟨hm, hm2⟩
  have hM1 := hst (.dk (fkv (.lst (ns.map .int)) (.int a) (.int l) (.int (k + 1))))
  have same : ∀ (o : Ob) (j : Nat), j ≠ i → (M.set i o)[j]? = M[j]? := fun o j hj => List.getElem?_set_ne (fun z => hj z.symm)
  have feed : ∀ a' l' : Int, 0 ≤ a' → 0 ≤ l' → FeedAt i (b + 1) (M.set i (.dk (fkv (.lst (ns.map .int)) (.int a') (.int l') (.int (k + 1))))) := fun a' l' h1 h2 => ⟨ns, a', l', k + 1, hst _, h1, h2, by omega, by omega⟩
  by_cases hl0 : 0 < l
  · refine ⟨l % m, M.set i (.dk (fkv (.lst (ns.map .int)) (.int a) (.int (l / m)) (.int (k + 1)))), ?_, Int.emod_nonneg l (by omega), Int.emod_lt_of_pos l hm, feed _ _ ha (Int.ediv_nonneg hl (by omega)), List.length_set, fun j hj => same _ j hj⟩
    simp only [drawB, Bool.not_false, Bool.not_true, List.getElem?_cons_succ, List.getElem?_cons_zero, List.length_cons, List.length_nil, List.set_cons_succ, List.set_cons_zero, Nat.reduceAdd, Nat.reduceLT, Nat.zero_add, Option.bind_some, Res.bind_ok, SRes.of_ok, d_abs, d_add, d_eqI, d_eqS, d_ge, d_gt, d_le, d_lenL, d_lenT, d_lstL, d_lstT, d_lt, d_max, d_min, d_neI, d_neNil, d_neS, d_sub, d_tupL, d_tupT, decide_false, decide_true, eq_self, fin_next, fin_ret, g_cons, g_nil, g_nm, g_tp, g_tpL, gc_new, gc_same, gc_stk, i_l0, i_l1, i_l2, i_l3, i_l4, i_l5, i_l6, i_l7, i_t0, i_t1, i_t2, i_t3, i_t4, i_t5, i_t6, i_t7, if_false, if_true, k_andF, k_andT, k_bin1, k_bl, k_cal1, k_cal2, k_cal3, k_chn1, k_chn2, k_chn4, k_chnF, k_chnT, k_cmp1, k_comp, k_con1, k_con2, k_dcK, k_dcT, k_dgt1, k_dkK, k_dsp, k_dtK, k_enuL, k_enuT, k_evnL, k_evnT, k_g1a, k_g1b, k_g2a, k_g2b, k_g2c, k_idx1, k_ifeF, k_ifeT, k_intO, k_isi, k_lnw, k_lrgF, k_lrgT, k_lst, k_neg, k_non, k_not, k_orF, k_orT, k_pcon1, k_revL, k_revT, k_seqL, k_seqT, k_slc1, k_slc2, k_stp1, k_tandF, k_tandT, k_tchn1, k_tchn2, k_tchn4, k_tchnF, k_tchnT, k_tcmp1, k_tnot, k_torF, k_torT, k_tup, k_zip1, k_zipL, k_zipT, lkK_val, m_nm, m_tpL, m_tpT, not_false_eq_true, not_true_eq_false, ofS_non, ofS_none, ofS_val, of_cons, of_nil, pkK_own, pk_andv, pk_bin, pk_blt, pk_call, pk_cbl, pk_chn, pk_cint, pk_cmp, pk_cnon, pk_comp, pk_cstr, pk_dcomp, pk_dgt, pk_dnew, pk_dsp, pk_fnv, pk_get1, pk_get2, pk_glob, pk_idx, pk_ife, pk_isi, pk_lnew, pk_lrng, pk_lst, pk_neg, pk_notv, pk_one, pk_orv, pk_own, pk_slc, pk_stp, pk_tup, pk_var, q_ta, q_tf, scp_bl, scp_int, scp_lst, scp_non, scp_str, scp_tup, scps_cons, scps_nil, tr_bl, tr_int, tr_lst, tr_non, tr_tup, wi_cons, wi_nil, x_andv, x_bin, x_blt, x_call, x_cbl, x_chn, x_cint, x_cmp, x_cnon, x_comp, x_cstr, x_dcompK, x_dcompT, x_dgt, x_dnew, x_dsp, x_fnv, x_get1, x_get2, x_glob, x_idx, x_ife, x_isi, x_lnew, x_lrng1, x_lrng2, x_lst, x_neg, x_notv, x_one, x_orv, x_slc, x_stp, x_tup, x_var, xi_enum, xi_items, xi_rng1, xi_rng2, xi_seq, xi_zip, xo_non, xo_som, xp_cons, xp_nil, xq_nil, xq_one, xs_cons, xs_nil, xt_and, xt_chn, xt_cmp, xt_not, xt_one, xt_or, xt_val, y_apo1, y_apo2, y_app, y_app2, y_appK, y_appo, y_asg, y_asgK, y_aug, y_augA, y_augK, y_augS, y_brk, y_brk1, y_cnt, y_cnt1, y_cons, y_expr, y_exprK, y_ext, y_extK, y_extL, y_extT, y_forK, y_forr, y_frz, y_frzK, y_ifs, y_ifsF, y_ifsT, y_next, y_nil, y_ownK, y_ownL, y_par, y_par1, y_par2, y_pas, y_ret, y_ret1, y_retK, y_retn, y_row, y_set1, y_set2, y_set3, y_setd, y_star, y_storK, y_whil, rd_count hM, wr_count hM, rd_left hM1, hl0, d_mod hm, d_fdiv hm hmw, wr_left hM1, List.set_set]
  · have hM2 := hst (.dk (fkv (.lst (ns.map .int)) (.int (a + 1)) (.int l) (.int (k + 1))))
    -- the cell
    have cell : ∃ z : Int, ∀ env : Env, env[0]? = some (.val (.obj i)) → env[2]? = some (.val (.int a)) → evE c (cellE c3) env (M.set i (.dk (fkv (.lst (ns.map .int)) (.int (a + 1)) (.int l) (.int (k + 1))))) = .ok (.int z) (M.set i (.dk (fkv (.lst (ns.map .int)) (.int (a + 1)) (.int l) (.int (k + 1))))) := by
      by_cases hn : ns = []
      · subst hn
        refine ⟨c3, fun env e0 e2 => ?_⟩
        simp only [cellE, Bool.not_false, Bool.not_true, List.getElem?_cons_succ, List.getElem?_cons_zero, List.length_cons, List.length_nil, List.set_cons_succ, List.set_cons_zero, Nat.reduceAdd, Nat.reduceLT, Nat.zero_add, Option.bind_some, Res.bind_ok, SRes.of_ok, d_abs, d_add, d_eqI, d_eqS, d_ge, d_gt, d_le, d_lenL, d_lenT, d_lstL, d_lstT, d_lt, d_max, d_min, d_neI, d_neNil, d_neS, d_sub, d_tupL, d_tupT, decide_false, decide_true, eq_self, fin_next, fin_ret, g_cons, g_nil, g_nm, g_tp, g_tpL, gc_new, gc_same, gc_stk, i_l0, i_l1, i_l2, i_l3, i_l4, i_l5, i_l6, i_l7, i_t0, i_t1, i_t2, i_t3, i_t4, i_t5, i_t6, i_t7, if_false, if_true, k_andF, k_andT, k_bin1, k_bl, k_cal1, k_cal2, k_cal3, k_chn1, k_chn2, k_chn4, k_chnF, k_chnT, k_cmp1, k_comp, k_con1, k_con2, k_dcK, k_dcT, k_dgt1, k_dkK, k_dsp, k_dtK, k_enuL, k_enuT, k_evnL, k_evnT, k_g1a, k_g1b, k_g2a, k_g2b, k_g2c, k_idx1, k_ifeF, k_ifeT, k_intO, k_isi, k_lnw, k_lrgF, k_lrgT, k_lst, k_neg, k_non, k_not, k_orF, k_orT, k_pcon1, k_revL, k_revT, k_seqL, k_seqT, k_slc1, k_slc2, k_stp1, k_tandF, k_tandT, k_tchn1, k_tchn2, k_tchn4, k_tchnF, k_tchnT, k_tcmp1, k_tnot, k_torF, k_torT, k_tup, k_zip1, k_zipL, k_zipT, lkK_val, m_nm, m_tpL, m_tpT, not_false_eq_true, not_true_eq_false, ofS_non, ofS_none, ofS_val, of_cons, of_nil, pkK_own, pk_andv, pk_bin, pk_blt, pk_call, pk_cbl, pk_chn, pk_cint, pk_cmp, pk_cnon, pk_comp, pk_cstr, pk_dcomp, pk_dgt, pk_dnew, pk_dsp, pk_fnv, pk_get1, pk_get2, pk_glob, pk_idx, pk_ife, pk_isi, pk_lnew, pk_lrng, pk_lst, pk_neg, pk_notv, pk_one, pk_orv, pk_own, pk_slc, pk_stp, pk_tup, pk_var, q_ta, q_tf, scp_bl, scp_int, scp_lst, scp_non, scp_str, scp_tup, scps_cons, scps_nil, tr_bl, tr_int, tr_lst, tr_non, tr_tup, wi_cons, wi_nil, x_andv, x_bin, x_blt, x_call, x_cbl, x_chn, x_cint, x_cmp, x_cnon, x_comp, x_cstr, x_dcompK, x_dcompT, x_dgt, x_dnew, x_dsp, x_fnv, x_get1, x_get2, x_glob, x_idx, x_ife, x_isi, x_lnew, x_lrng1, x_lrng2, x_lst, x_neg, x_notv, x_one, x_orv, x_slc, x_stp, x_tup, x_var, xi_enum, xi_items, xi_rng1, xi_rng2, xi_seq, xi_zip, xo_non, xo_som, xp_cons, xp_nil, xq_nil, xq_one, xs_cons, xs_nil, xt_and, xt_chn, xt_cmp, xt_not, xt_one, xt_or, xt_val, y_apo1, y_apo2, y_app, y_app2, y_appK, y_appo, y_asg, y_asgK, y_aug, y_augA, y_augK, y_augS, y_brk, y_brk1, y_cnt, y_cnt1, y_cons, y_expr, y_exprK, y_ext, y_extK, y_extL, y_extT, y_forK, y_forr, y_frz, y_frzK, y_ifs, y_ifsF, y_ifsT, y_next, y_nil, y_ownK, y_ownL, y_par, y_par1, y_par2, y_pas, y_ret, y_ret1, y_retK, y_retn, y_row, y_set1, y_set2, y_set3, y_setd, y_star, y_storK, y_whil, e0, e2, rd_cells hM2, d_neNil]
      · obtain ⟨z, hz⟩ := cell_ix (M := M.set i (.dk (fkv (.lst (ns.map .int)) (.int (a + 1)) (.int l) (.int (k + 1))))) (a := a) hn
        have hl1 : (0 : Int) < ((ns.map D.int).length : Nat) := by
          rw [List.length_map]
          have := List.length_pos_iff.mpr hn
          omega
        refine ⟨z, fun env e0 e2 => ?_⟩
        simp only [cellE, Bool.not_false, Bool.not_true, List.getElem?_cons_succ, List.getElem?_cons_zero, List.length_cons, List.length_nil, List.set_cons_succ, List.set_cons_zero, Nat.reduceAdd, Nat.reduceLT, Nat.zero_add, Option.bind_some, Res.bind_ok, SRes.of_ok, d_abs, d_add, d_eqI, d_eqS, d_ge, d_gt, d_le, d_lenL, d_lenT, d_lstL, d_lstT, d_lt, d_max, d_min, d_neI, d_neNil, d_neS, d_sub, d_tupL, d_tupT, decide_false, decide_true, eq_self, fin_next, fin_ret, g_cons, g_nil, g_nm, g_tp, g_tpL, gc_new, gc_same, gc_stk, i_l0, i_l1, i_l2, i_l3, i_l4, i_l5, i_l6, i_l7, i_t0, i_t1, i_t2, i_t3, i_t4, i_t5, i_t6, i_t7, if_false, if_true, k_andF, k_andT, k_bin1, k_bl, k_cal1, k_cal2, k_cal3, k_chn1, k_chn2, k_chn4, k_chnF, k_chnT, k_cmp1, k_comp, k_con1, k_con2, k_dcK, k_dcT, k_dgt1, k_dkK, k_dsp, k_dtK, k_enuL, k_enuT, k_evnL, k_evnT, k_g1a, k_g1b, k_g2a, k_g2b, k_g2c, k_idx1, k_ifeF, k_ifeT, k_intO, k_isi, k_lnw, k_lrgF, k_lrgT, k_lst, k_neg, k_non, k_not, k_orF, k_orT, k_pcon1, k_revL, k_revT, k_seqL, k_seqT, k_slc1, k_slc2, k_stp1, k_tandF, k_tandT, k_tchn1, k_tchn2, k_tchn4, k_tchnF, k_tchnT, k_tcmp1, k_tnot, k_torF, k_torT, k_tup, k_zip1, k_zipL, k_zipT, lkK_val, m_nm, m_tpL, m_tpT, not_false_eq_true, not_true_eq_false, ofS_non, ofS_none, ofS_val, of_cons, of_nil, pkK_own, pk_andv, pk_bin, pk_blt, pk_call, pk_cbl, pk_chn, pk_cint, pk_cmp, pk_cnon, pk_comp, pk_cstr, pk_dcomp, pk_dgt, pk_dnew, pk_dsp, pk_fnv, pk_get1, pk_get2, pk_glob, pk_idx, pk_ife, pk_isi, pk_lnew, pk_lrng, pk_lst, pk_neg, pk_notv, pk_one, pk_orv, pk_own, pk_slc, pk_stp, pk_tup, pk_var, q_ta, q_tf, scp_bl, scp_int, scp_lst, scp_non, scp_str, scp_tup, scps_cons, scps_nil, tr_bl, tr_int, tr_lst, tr_non, tr_tup, wi_cons, wi_nil, x_andv, x_bin, x_blt, x_call, x_cbl, x_chn, x_cint, x_cmp, x_cnon, x_comp, x_cstr, x_dcompK, x_dcompT, x_dgt, x_dnew, x_dsp, x_fnv, x_get1, x_get2, x_glob, x_idx, x_ife, x_isi, x_lnew, x_lrng1, x_lrng2, x_lst, x_neg, x_notv, x_one, x_orv, x_slc, x_stp, x_tup, x_var, xi_enum, xi_items, xi_rng1, xi_rng2, xi_seq, xi_zip, xo_non, xo_som, xp_cons, xp_nil, xq_nil, xq_one, xs_cons, xs_nil, xt_and, xt_chn, xt_cmp, xt_not, xt_one, xt_or, xt_val, y_apo1, y_apo2, y_app, y_app2, y_appK, y_appo, y_asg, y_asgK, y_aug, y_augA, y_augK, y_augS, y_brk, y_brk1, y_cnt, y_cnt1, y_cons, y_expr, y_exprK, y_ext, y_extK, y_extL, y_extT, y_forK, y_forr, y_frz, y_frzK, y_ifs, y_ifsF, y_ifsT, y_next, y_nil, y_ownK, y_ownL, y_par, y_par1, y_par2, y_pas, y_ret, y_ret1, y_retK, y_retn, y_row, y_set1, y_set2, y_set3, y_setd, y_star, y_storK, y_whil, e0, e2, rd_cells hM2, d_neNil, hn, d_mod hl1, hz]
    obtain ⟨z, hz⟩ := cell
    have hpw : binD .pow (.int p) (.int e) (M.set i (.dk (fkv (.lst (ns.map .int)) (.int (a + 1)) (.int l) (.int (k + 1))))) = .ok (.int (p ^ e.toNat)) (M.set i (.dk (fkv (.lst (ns.map .int)) (.int (a + 1)) (.int l) (.int (k + 1))))) := d_pow ⟨hp0.1, hp0.2.1, hp0.2.2.1⟩
    have mix : ∀ z : Int, fin (evSs c (mixB c4 c5 c6 c7 c8 c9 c10 c11 c12 c13) [.val (.obj i), .val (.int m), .val (.int a), .val (.int z), .non, .non] (M.set i (.dk (fkv (.lst (ns.map .int)) (.int (a + 1)) (.int l) (.int (k + 1)))))) =
        .ok (.int ((((((z % c4 + c5 * (k + 1) + c6) % c7) * ((z % c4 + c5 * (k + 1) + c6) % c7) + c8 * (k + 1) + c9) % c10 * (((z % c4 + c5 * (k + 1) + c6) % c7 * ((z % c4 + c5 * (k + 1) + c6) % c7) + c8 * (k + 1) + c9) % c10) + c11 * (((z % c4 + c5 * (k + 1) + c6) % c7 * ((z % c4 + c5 * (k + 1) + c6) % c7) + c8 * (k + 1) + c9) % c10)) % c12 / c13) % m)) (M.set i (.dk (fkv (.lst (ns.map .int)) (.int (a + 1)) (.int l) (.int (k + 1))))) := by
      intro z
      have u0 := Int.emod_nonneg (z % c4 + c5 * (k + 1) + c6) (show c7 ≠ 0 by have := h7.pos; omega)
      have u1 := Int.emod_lt_of_pos (z % c4 + c5 * (k + 1) + c6) h7.pos
      have w1 : widthOk c5 (k + 1) = true := widthOk_of h5.w (w2 (by omega) (by omega))
      have w8 : widthOk c8 (k + 1) = true := widthOk_of h8.w (w2 (by omega) (by omega))
      have s7 := h7.sm
      have s10 := h10.sm
      have uw := ww (i := (z % c4 + c5 * (k + 1) + c6) % c7) (j := (z % c4 + c5 * (k + 1) + c6) % c7) (by omega) (by omega) (by omega) (by omega)
      have v0 := Int.emod_nonneg ((z % c4 + c5 * (k + 1) + c6) % c7 * ((z % c4 + c5 * (k + 1) + c6) % c7) + c8 * (k + 1) + c9) (show c10 ≠ 0 by have := h10.pos; omega)
      have v1 := Int.emod_lt_of_pos ((z % c4 + c5 * (k + 1) + c6) % c7 * ((z % c4 + c5 * (k + 1) + c6) % c7) + c8 * (k + 1) + c9) h10.pos
      have vw := ww (i := ((z % c4 + c5 * (k + 1) + c6) % c7 * ((z % c4 + c5 * (k + 1) + c6) % c7) + c8 * (k + 1) + c9) % c10) (j := ((z % c4 + c5 * (k + 1) + c6) % c7 * ((z % c4 + c5 * (k + 1) + c6) % c7) + c8 * (k + 1) + c9) % c10) (by omega) (by omega) (by omega) (by omega)
      have xw := widthOk_of h11.w (w2 (i := ((z % c4 + c5 * (k + 1) + c6) % c7 * ((z % c4 + c5 * (k + 1) + c6) % c7) + c8 * (k + 1) + c9) % c10) (by omega) (by omega))
      simp only [mixB, Bool.not_false, Bool.not_true, List.getElem?_cons_succ, List.getElem?_cons_zero, List.length_cons, List.length_nil, List.set_cons_succ, List.set_cons_zero, Nat.reduceAdd, Nat.reduceLT, Nat.zero_add, Option.bind_some, Res.bind_ok, SRes.of_ok, d_abs, d_add, d_eqI, d_eqS, d_ge, d_gt, d_le, d_lenL, d_lenT, d_lstL, d_lstT, d_lt, d_max, d_min, d_neI, d_neNil, d_neS, d_sub, d_tupL, d_tupT, decide_false, decide_true, eq_self, fin_next, fin_ret, g_cons, g_nil, g_nm, g_tp, g_tpL, gc_new, gc_same, gc_stk, i_l0, i_l1, i_l2, i_l3, i_l4, i_l5, i_l6, i_l7, i_t0, i_t1, i_t2, i_t3, i_t4, i_t5, i_t6, i_t7, if_false, if_true, k_andF, k_andT, k_bin1, k_bl, k_cal1, k_cal2, k_cal3, k_chn1, k_chn2, k_chn4, k_chnF, k_chnT, k_cmp1, k_comp, k_con1, k_con2, k_dcK, k_dcT, k_dgt1, k_dkK, k_dsp, k_dtK, k_enuL, k_enuT, k_evnL, k_evnT, k_g1a, k_g1b, k_g2a, k_g2b, k_g2c, k_idx1, k_ifeF, k_ifeT, k_intO, k_isi, k_lnw, k_lrgF, k_lrgT, k_lst, k_neg, k_non, k_not, k_orF, k_orT, k_pcon1, k_revL, k_revT, k_seqL, k_seqT, k_slc1, k_slc2, k_stp1, k_tandF, k_tandT, k_tchn1, k_tchn2, k_tchn4, k_tchnF, k_tchnT, k_tcmp1, k_tnot, k_torF, k_torT, k_tup, k_zip1, k_zipL, k_zipT, lkK_val, m_nm, m_tpL, m_tpT, not_false_eq_true, not_true_eq_false, ofS_non, ofS_none, ofS_val, of_cons, of_nil, pkK_own, pk_andv, pk_bin, pk_blt, pk_call, pk_cbl, pk_chn, pk_cint, pk_cmp, pk_cnon, pk_comp, pk_cstr, pk_dcomp, pk_dgt, pk_dnew, pk_dsp, pk_fnv, pk_get1, pk_get2, pk_glob, pk_idx, pk_ife, pk_isi, pk_lnew, pk_lrng, pk_lst, pk_neg, pk_notv, pk_one, pk_orv, pk_own, pk_slc, pk_stp, pk_tup, pk_var, q_ta, q_tf, scp_bl, scp_int, scp_lst, scp_non, scp_str, scp_tup, scps_cons, scps_nil, tr_bl, tr_int, tr_lst, tr_non, tr_tup, wi_cons, wi_nil, x_andv, x_bin, x_blt, x_call, x_cbl, x_chn, x_cint, x_cmp, x_cnon, x_comp, x_cstr, x_dcompK, x_dcompT, x_dgt, x_dnew, x_dsp, x_fnv, x_get1, x_get2, x_glob, x_idx, x_ife, x_isi, x_lnew, x_lrng1, x_lrng2, x_lst, x_neg, x_notv, x_one, x_orv, x_slc, x_stp, x_tup, x_var, xi_enum, xi_items, xi_rng1, xi_rng2, xi_seq, xi_zip, xo_non, xo_som, xp_cons, xp_nil, xq_nil, xq_one, xs_cons, xs_nil, xt_and, xt_chn, xt_cmp, xt_not, xt_one, xt_or, xt_val, y_apo1, y_apo2, y_app, y_app2, y_appK, y_appo, y_asg, y_asgK, y_aug, y_augA, y_augK, y_augS, y_brk, y_brk1, y_cnt, y_cnt1, y_cons, y_expr, y_exprK, y_ext, y_extK, y_extL, y_extT, y_forK, y_forr, y_frz, y_frzK, y_ifs, y_ifsF, y_ifsT, y_next, y_nil, y_ownK, y_ownL, y_par, y_par1, y_par2, y_pas, y_ret, y_ret1, y_retK, y_retn, y_row, y_set1, y_set2, y_set3, y_setd, y_star, y_storK, y_whil, d_mod h4.pos, d_mul w1, rd_count hM2, d_mod h7.pos, d_mul uw, d_mul w8, d_mod h10.pos, d_mul vw, d_mul xw, d_mod h12.pos, d_fdiv h13.pos h13.w, d_mod hm]
    have out : ∀ z : Int, ∃ r, fin (evSs c (mixB c4 c5 c6 c7 c8 c9 c10 c11 c12 c13) [.val (.obj i), .val (.int m), .val (.int a), .val (.int z), .non, .non] (M.set i (.dk (fkv (.lst (ns.map .int)) (.int (a + 1)) (.int l) (.int (k + 1)))))) = .ok (.int r) (M.set i (.dk (fkv (.lst (ns.map .int)) (.int (a + 1)) (.int l) (.int (k + 1))))) ∧ 0 ≤ r ∧ r < m :=
      fun z => ⟨_, mix z, Int.emod_nonneg _ (by omega), Int.emod_lt_of_pos _ hm⟩
    have ok2 := feed (a + 1) l (by omega) hl
    by_cases hz1 : p ^ e.toNat ≤ z
    · by_cases hz2 : a < ((ns.map D.int).length : Nat)
      · have z0 : 0 ≤ z := Int.le_trans hp0.2.2.2 hz1
        refine ⟨z % m, M.set i (.dk (fkv (.lst (ns.map .int)) (.int (a + 1)) (.int (z / m)) (.int (k + 1)))), ?_, Int.emod_nonneg z (by omega), Int.emod_lt_of_pos z hm, feed _ _ (by omega) (Int.ediv_nonneg z0 (by omega)), List.length_set, fun j hj => same _ j hj⟩
        simp only [drawB, Bool.not_false, Bool.not_true, List.getElem?_cons_succ, List.getElem?_cons_zero, List.length_cons, List.length_nil, List.set_cons_succ, List.set_cons_zero, Nat.reduceAdd, Nat.reduceLT, Nat.zero_add, Option.bind_some, Res.bind_ok, SRes.of_ok, d_abs, d_add, d_eqI, d_eqS, d_ge, d_gt, d_le, d_lenL, d_lenT, d_lstL, d_lstT, d_lt, d_max, d_min, d_neI, d_neNil, d_neS, d_sub, d_tupL, d_tupT, decide_false, decide_true, eq_self, fin_next, fin_ret, g_cons, g_nil, g_nm, g_tp, g_tpL, gc_new, gc_same, gc_stk, i_l0, i_l1, i_l2, i_l3, i_l4, i_l5, i_l6, i_l7, i_t0, i_t1, i_t2, i_t3, i_t4, i_t5, i_t6, i_t7, if_false, if_true, k_andF, k_andT, k_bin1, k_bl, k_cal1, k_cal2, k_cal3, k_chn1, k_chn2, k_chn4, k_chnF, k_chnT, k_cmp1, k_comp, k_con1, k_con2, k_dcK, k_dcT, k_dgt1, k_dkK, k_dsp, k_dtK, k_enuL, k_enuT, k_evnL, k_evnT, k_g1a, k_g1b, k_g2a, k_g2b, k_g2c, k_idx1, k_ifeF, k_ifeT, k_intO, k_isi, k_lnw, k_lrgF, k_lrgT, k_lst, k_neg, k_non, k_not, k_orF, k_orT, k_pcon1, k_revL, k_revT, k_seqL, k_seqT, k_slc1, k_slc2, k_stp1, k_tandF, k_tandT, k_tchn1, k_tchn2, k_tchn4, k_tchnF, k_tchnT, k_tcmp1, k_tnot, k_torF, k_torT, k_tup, k_zip1, k_zipL, k_zipT, lkK_val, m_nm, m_tpL, m_tpT, not_false_eq_true, not_true_eq_false, ofS_non, ofS_none, ofS_val, of_cons, of_nil, pkK_own, pk_andv, pk_bin, pk_blt, pk_call, pk_cbl, pk_chn, pk_cint, pk_cmp, pk_cnon, pk_comp, pk_cstr, pk_dcomp, pk_dgt, pk_dnew, pk_dsp, pk_fnv, pk_get1, pk_get2, pk_glob, pk_idx, pk_ife, pk_isi, pk_lnew, pk_lrng, pk_lst, pk_neg, pk_notv, pk_one, pk_orv, pk_own, pk_slc, pk_stp, pk_tup, pk_var, q_ta, q_tf, scp_bl, scp_int, scp_lst, scp_non, scp_str, scp_tup, scps_cons, scps_nil, tr_bl, tr_int, tr_lst, tr_non, tr_tup, wi_cons, wi_nil, x_andv, x_bin, x_blt, x_call, x_cbl, x_chn, x_cint, x_cmp, x_cnon, x_comp, x_cstr, x_dcompK, x_dcompT, x_dgt, x_dnew, x_dsp, x_fnv, x_get1, x_get2, x_glob, x_idx, x_ife, x_isi, x_lnew, x_lrng1, x_lrng2, x_lst, x_neg, x_notv, x_one, x_orv, x_slc, x_stp, x_tup, x_var, xi_enum, xi_items, xi_rng1, xi_rng2, xi_seq, xi_zip, xo_non, xo_som, xp_cons, xp_nil, xq_nil, xq_one, xs_cons, xs_nil, xt_and, xt_chn, xt_cmp, xt_not, xt_one, xt_or, xt_val, y_apo1, y_apo2, y_app, y_app2, y_appK, y_appo, y_asg, y_asgK, y_aug, y_augA, y_augK, y_augS, y_brk, y_brk1, y_cnt, y_cnt1, y_cons, y_expr, y_exprK, y_ext, y_extK, y_extL, y_extT, y_forK, y_forr, y_frz, y_frzK, y_ifs, y_ifsF, y_ifsT, y_next, y_nil, y_ownK, y_ownL, y_par, y_par1, y_par2, y_pas, y_ret, y_ret1, y_retK, y_retn, y_row, y_set1, y_set2, y_set3, y_setd, y_star, y_storK, y_whil, rd_count hM, wr_count hM, rd_left hM1, hl0, rd_at hM1, wr_at hM1, List.set_set, hz, hpw, hz1, rd_cells hM2, hz2, d_fdiv hm hmw, d_mod hm, wr_left hM2]
      · obtain ⟨r, hr, r0, r1⟩ := out z
        refine ⟨r, _, ?_, r0, r1, ok2, List.length_set, fun j hj => same _ j hj⟩
        rw [← hr]
        simp only [drawB, Bool.not_false, Bool.not_true, List.getElem?_cons_succ, List.getElem?_cons_zero, List.length_cons, List.length_nil, List.set_cons_succ, List.set_cons_zero, Nat.reduceAdd, Nat.reduceLT, Nat.zero_add, Option.bind_some, Res.bind_ok, SRes.of_ok, d_abs, d_add, d_eqI, d_eqS, d_ge, d_gt, d_le, d_lenL, d_lenT, d_lstL, d_lstT, d_lt, d_max, d_min, d_neI, d_neNil, d_neS, d_sub, d_tupL, d_tupT, decide_false, decide_true, eq_self, fin_next, fin_ret, g_cons, g_nil, g_nm, g_tp, g_tpL, gc_new, gc_same, gc_stk, i_l0, i_l1, i_l2, i_l3, i_l4, i_l5, i_l6, i_l7, i_t0, i_t1, i_t2, i_t3, i_t4, i_t5, i_t6, i_t7, if_false, if_true, k_andF, k_andT, k_bin1, k_bl, k_cal1, k_cal2, k_cal3, k_chn1, k_chn2, k_chn4, k_chnF, k_chnT, k_cmp1, k_comp, k_con1, k_con2, k_dcK, k_dcT, k_dgt1, k_dkK, k_dsp, k_dtK, k_enuL, k_enuT, k_evnL, k_evnT, k_g1a, k_g1b, k_g2a, k_g2b, k_g2c, k_idx1, k_ifeF, k_ifeT, k_intO, k_isi, k_lnw, k_lrgF, k_lrgT, k_lst, k_neg, k_non, k_not, k_orF, k_orT, k_pcon1, k_revL, k_revT, k_seqL, k_seqT, k_slc1, k_slc2, k_stp1, k_tandF, k_tandT, k_tchn1, k_tchn2, k_tchn4, k_tchnF, k_tchnT, k_tcmp1, k_tnot, k_torF, k_torT, k_tup, k_zip1, k_zipL, k_zipT, lkK_val, m_nm, m_tpL, m_tpT, not_false_eq_true, not_true_eq_false, ofS_non, ofS_none, ofS_val, of_cons, of_nil, pkK_own, pk_andv, pk_bin, pk_blt, pk_call, pk_cbl, pk_chn, pk_cint, pk_cmp, pk_cnon, pk_comp, pk_cstr, pk_dcomp, pk_dgt, pk_dnew, pk_dsp, pk_fnv, pk_get1, pk_get2, pk_glob, pk_idx, pk_ife, pk_isi, pk_lnew, pk_lrng, pk_lst, pk_neg, pk_notv, pk_one, pk_orv, pk_own, pk_slc, pk_stp, pk_tup, pk_var, q_ta, q_tf, scp_bl, scp_int, scp_lst, scp_non, scp_str, scp_tup, scps_cons, scps_nil, tr_bl, tr_int, tr_lst, tr_non, tr_tup, wi_cons, wi_nil, x_andv, x_bin, x_blt, x_call, x_cbl, x_chn, x_cint, x_cmp, x_cnon, x_comp, x_cstr, x_dcompK, x_dcompT, x_dgt, x_dnew, x_dsp, x_fnv, x_get1, x_get2, x_glob, x_idx, x_ife, x_isi, x_lnew, x_lrng1, x_lrng2, x_lst, x_neg, x_notv, x_one, x_orv, x_slc, x_stp, x_tup, x_var, xi_enum, xi_items, xi_rng1, xi_rng2, xi_seq, xi_zip, xo_non, xo_som, xp_cons, xp_nil, xq_nil, xq_one, xs_cons, xs_nil, xt_and, xt_chn, xt_cmp, xt_not, xt_one, xt_or, xt_val, y_apo1, y_apo2, y_app, y_app2, y_appK, y_appo, y_asg, y_asgK, y_aug, y_augA, y_augK, y_augS, y_brk, y_brk1, y_cnt, y_cnt1, y_cons, y_expr, y_exprK, y_ext, y_extK, y_extL, y_extT, y_forK, y_forr, y_frz, y_frzK, y_ifs, y_ifsF, y_ifsT, y_next, y_nil, y_ownK, y_ownL, y_par, y_par1, y_par2, y_pas, y_ret, y_ret1, y_retK, y_retn, y_row, y_set1, y_set2, y_set3, y_setd, y_star, y_storK, y_whil, rd_count hM, wr_count hM, rd_left hM1, hl0, rd_at hM1, wr_at hM1, List.set_set, hz, hpw, hz1, rd_cells hM2, hz2, mixB]
    · obtain ⟨r, hr, r0, r1⟩ := out z
      refine ⟨r, _, ?_, r0, r1, ok2, List.length_set, fun j hj => same _ j hj⟩
      rw [← hr]
      simp only [drawB, Bool.not_false, Bool.not_true, List.getElem?_cons_succ, List.getElem?_cons_zero, List.length_cons, List.length_nil, List.set_cons_succ, List.set_cons_zero, Nat.reduceAdd, Nat.reduceLT, Nat.zero_add, Option.bind_some, Res.bind_ok, SRes.of_ok, d_abs, d_add, d_eqI, d_eqS, d_ge, d_gt, d_le, d_lenL, d_lenT, d_lstL, d_lstT, d_lt, d_max, d_min, d_neI, d_neNil, d_neS, d_sub, d_tupL, d_tupT, decide_false, decide_true, eq_self, fin_next, fin_ret, g_cons, g_nil, g_nm, g_tp, g_tpL, gc_new, gc_same, gc_stk, i_l0, i_l1, i_l2, i_l3, i_l4, i_l5, i_l6, i_l7, i_t0, i_t1, i_t2, i_t3, i_t4, i_t5, i_t6, i_t7, if_false, if_true, k_andF, k_andT, k_bin1, k_bl, k_cal1, k_cal2, k_cal3, k_chn1, k_chn2, k_chn4, k_chnF, k_chnT, k_cmp1, k_comp, k_con1, k_con2, k_dcK, k_dcT, k_dgt1, k_dkK, k_dsp, k_dtK, k_enuL, k_enuT, k_evnL, k_evnT, k_g1a, k_g1b, k_g2a, k_g2b, k_g2c, k_idx1, k_ifeF, k_ifeT, k_intO, k_isi, k_lnw, k_lrgF, k_lrgT, k_lst, k_neg, k_non, k_not, k_orF, k_orT, k_pcon1, k_revL, k_revT, k_seqL, k_seqT, k_slc1, k_slc2, k_stp1, k_tandF, k_tandT, k_tchn1, k_tchn2, k_tchn4, k_tchnF, k_tchnT, k_tcmp1, k_tnot, k_torF, k_torT, k_tup, k_zip1, k_zipL, k_zipT, lkK_val, m_nm, m_tpL, m_tpT, not_false_eq_true, not_true_eq_false, ofS_non, ofS_none, ofS_val, of_cons, of_nil, pkK_own, pk_andv, pk_bin, pk_blt, pk_call, pk_cbl, pk_chn, pk_cint, pk_cmp, pk_cnon, pk_comp, pk_cstr, pk_dcomp, pk_dgt, pk_dnew, pk_dsp, pk_fnv, pk_get1, pk_get2, pk_glob, pk_idx, pk_ife, pk_isi, pk_lnew, pk_lrng, pk_lst, pk_neg, pk_notv, pk_one, pk_orv, pk_own, pk_slc, pk_stp, pk_tup, pk_var, q_ta, q_tf, scp_bl, scp_int, scp_lst, scp_non, scp_str, scp_tup, scps_cons, scps_nil, tr_bl, tr_int, tr_lst, tr_non, tr_tup, wi_cons, wi_nil, x_andv, x_bin, x_blt, x_call, x_cbl, x_chn, x_cint, x_cmp, x_cnon, x_comp, x_cstr, x_dcompK, x_dcompT, x_dgt, x_dnew, x_dsp, x_fnv, x_get1, x_get2, x_glob, x_idx, x_ife, x_isi, x_lnew, x_lrng1, x_lrng2, x_lst, x_neg, x_notv, x_one, x_orv, x_slc, x_stp, x_tup, x_var, xi_enum, xi_items, xi_rng1, xi_rng2, xi_seq, xi_zip, xo_non, xo_som, xp_cons, xp_nil, xq_nil, xq_one, xs_cons, xs_nil, xt_and, xt_chn, xt_cmp, xt_not, xt_one, xt_or, xt_val, y_apo1, y_apo2, y_app, y_app2, y_appK, y_appo, y_asg, y_asgK, y_aug, y_augA, y_augK, y_augS, y_brk, y_brk1, y_cnt, y_cnt1, y_cons, y_expr, y_exprK, y_ext, y_extK, y_extL, y_extT, y_forK, y_forr, y_frz, y_frzK, y_ifs, y_ifsF, y_ifsT, y_next, y_nil, y_ownK, y_ownL, y_par, y_par1, y_par2, y_pas, y_ret, y_ret1, y_retK, y_retn, y_row, y_set1, y_set2, y_set3, y_setd, y_star, y_storK, y_whil, rd_count hM, wr_count hM, rd_left hM1, hl0, rd_at hM1, wr_at hM1, List.set_set, hz, hpw, hz1, mixB]
end
end Mp
end

section
set_option Elab.async false
set_option linter.all false
set_option maxRecDepth 100000
set_option maxHeartbeats 0
/-! What the laws' proofs share: the feed at the store's head, loops, rows of data. -/
namespace Mp
open PySem PySem.Spec

/-! ### the feed -/
structure Feed (f : Ob) (b : Nat) : Prop where
  at0 : FeedAt 0 b [f]
theorem Feed.up {f : Ob} {b b' : Nat} (h : Feed f b) (hb : b ≤ b') : Feed f b' := ⟨h.at0.up (by omega)⟩
theorem Feed.at {f : Ob} {b : Nat} (h : Feed f b) (R : Sto) : FeedAt 0 b (f :: R) := by
  obtain ⟨x, y, z, w, h1, h2⟩ := h.at0.ex
  exact ⟨x, y, z, w, h1, h2⟩
theorem Feed.of {f : Ob} {b : Nat} {R : Sto} (h : FeedAt 0 b (f :: R)) : Feed f b := by
  obtain ⟨x, y, z, w, h1, h2⟩ := h.ex
  exact ⟨⟨x, y, z, w, h1, h2⟩⟩
theorem head_of {f : Ob} {R M' : Sto} (hl : M'.length = (f :: R).length) (h : ∀ j, j ≠ 0 → M'[j]? = (f :: R)[j]?) : ∃ f', M' = f' :: R := by
  cases M' with
  | nil => simp at hl
  | cons f' R' =>
    refine ⟨f', ?_⟩
    congr 1
    apply List.ext_getElem?
    intro j
    have := h (j + 1) (by omega)
    simpa using this
theorem Feed.draw {c : Cal} {f : Ob} {R : Sto} {c1 c2 c3 p e c4 c5 c6 c7 c8 c9 c10 c11 c12 c13 m : Int} {b : Nat} (hc1 : c1 = 1) (hc2 : c2 = 1) (hp0 : 0 ≤ e ∧ e ≤ 1000 ∧ p.natAbs < 2 ^ 64 ∧ 0 ≤ p ^ e.toNat) (h4 : Cst c4) (h5 : Cst c5) (h7 : Cst c7) (h8 : Cst c8) (h10 : Cst c10) (h11 : Cst c11) (h12 : Cst c12) (h13 : Cst c13)
    (F : Feed f b) (hb : b < 2 ^ 90) (hm : 0 < m) (hm2 : m < 2 ^ 64) :
    ∃ r f', gcR (f :: R) (fin (evSs c (drawB c1 c2 c3 p e c4 c5 c6 c7 c8 c9 c10 c11 c12 c13) [.val (.obj 0), .val (.int m), .non, .non, .non, .non] (f :: R))) = .ok (.int r) (f' :: R) ∧ 0 ≤ r ∧ r < m ∧ Feed f' (b + 1) := by
  have hbb : (b : Int) < 2 ^ 100 := by omega
  obtain ⟨r, M', e1, h1, h2, h3, h4, h5⟩ := draw_run (c := c) (c3 := c3) (c6 := c6) (c9 := c9) hc1 hc2 hp0 h4 h5 h7 h8 h10 h11 h12 h13 (F.at R) hbb hm hm2
  obtain ⟨f', rfl⟩ := head_of h4 h5
  exact ⟨r, f', by rw [e1, gc_len h4], h1, h2, Feed.of (R := R) h3⟩
theorem Feed.new {ns : List Int} : Feed (.dk [(.inr "cells", .lst (ns.map .int)), (.inr "at", .int 0), (.inr "left", .int 0), (.inr "count", .int 0)]) 0 := ⟨⟨ns, 0, 0, 0, rfl, by omega, by omega, by omega, by omega⟩⟩

/-! ### choosing -/
theorem idx_in {ds : List D} {r : Int} {M : Sto} (h : 0 ≤ r) (h2 : r < ds.length) : ∃ d ∈ ds, idxD (.lst ds) (.int r) M = .ok d M := by
  obtain ⟨d, h1, h2⟩ := idx_dom h h2
  exact ⟨d, h1, h2 M⟩
theorem idx_inT {ds : List D} {r : Int} {M : Sto} (h : 0 ≤ r) (h2 : r < ds.length) : ∃ d ∈ ds, idxD (.tup ds) (.int r) M = .ok d M := by
  obtain ⟨d, h1, h2⟩ := idx_domT h h2
  exact ⟨d, h1, h2 M⟩

/-! ### loops -/
/-- a comprehension that turns each one into another -/
theorem compL_map {step : D → Sto → Res (Option D)} {M : Sto} (g : D → D) : ∀ (ds acc : List D), (∀ d ∈ ds, step d M = .ok (some (g d)) M) → compL step ds acc M = .ok (acc ++ ds.map g) M
  | [], acc, _ => by simp [compL]
  | d :: ds, acc, h => by
    simp only [compL, h d List.mem_cons_self]
    rw [compL_map g ds _ fun e he => h e (List.mem_cons_of_mem _ he)]
    simp
/-- .. and drops some -/
theorem compL_fm {step : D → Sto → Res (Option D)} {M : Sto} (g : D → Option D) : ∀ (ds acc : List D), (∀ d ∈ ds, step d M = .ok (g d) M) → compL step ds acc M = .ok (acc ++ ds.filterMap g) M
  | [], acc, _ => by simp [compL]
  | d :: ds, acc, h => by
    simp only [compL, h d List.mem_cons_self]
    cases e : g d with
    | none =>
      simp only
      rw [compL_fm g ds _ fun e he => h e (List.mem_cons_of_mem _ he), List.filterMap_cons_none e]
    | some y =>
      simp only
      rw [compL_fm g ds _ fun e he => h e (List.mem_cons_of_mem _ he), List.filterMap_cons_some e]
      simp
/-- a comprehension that draws: what holds of the store goes on, of each item something is told -/
theorem compL_dr {step : D → Sto → Res (Option D)} (I : Nat → Sto → Prop) (P : D → Prop) (N : Nat) : ∀ (ds acc : List D) (i : Nat) (M : Sto), i + ds.length ≤ N → I i M → (∀ d ∈ ds, ∀ i M, i < N → I i M → ∃ o M', step d M = .ok o M' ∧ I (i + 1) M' ∧ ∀ y, o = some y → P y) →
    ∃ ys M', compL step ds acc M = .ok (acc ++ ys) M' ∧ I (i + ds.length) M' ∧ (∀ y ∈ ys, P y) ∧ ys.length ≤ ds.length
  | [], acc, i, M, _, h, _ => ⟨[], M, by simp [compL], h, by simp, by simp⟩
  | d :: ds, acc, i, M, hN, h, hs => by
    rw [List.length_cons] at hN
    obtain ⟨o, M1, e1, h1, p1⟩ := hs d List.mem_cons_self i M (by omega) h
    have go := fun acc => compL_dr I P N ds acc (i + 1) M1 (by omega) h1 fun e he => hs e (List.mem_cons_of_mem _ he)
    simp only [compL, e1]
    cases o with
    | none =>
      obtain ⟨ys, M2, e2, h2, p2, l2⟩ := go acc
      exact ⟨ys, M2, e2, by rw [List.length_cons, Nat.add_comm ds.length, ← Nat.add_assoc]; exact h2, p2, by simp only [List.length_cons]; omega⟩
    | some y =>
      obtain ⟨ys, M2, e2, h2, p2, l2⟩ := go (acc ++ [y])
      refine ⟨y :: ys, M2, by simp only [e2, List.append_assoc, List.singleton_append], by rw [List.length_cons, Nat.add_comm ds.length, ← Nat.add_assoc]; exact h2, fun z hz => ?_, by simp only [List.length_cons]; omega⟩
      rcases List.mem_cons.mp hz with rfl | hz
      · exact p1 _ rfl
      · exact p2 z hz
/-- a loop that folds: the frame is told by what has been folded -/
theorem forL_fold {step : D → Env → Sto → SRes} {M : Sto} {σ : Type} (E : σ → Env) (g : σ → D → σ) : ∀ (ds : List D) (s : σ), (∀ d ∈ ds, ∀ s, step d (E s) M = .next (E (g s d)) M) → forL step ds (E s) M = .next (E (ds.foldl g s)) M
  | [], s, _ => by simp [forL]
  | d :: ds, s, h => by
    simp only [forL, h d List.mem_cons_self, List.foldl_cons]
    exact forL_fold E g ds _ fun e he => h e (List.mem_cons_of_mem _ he)
/-- a loop that looks for the first: each turn ends the def, or leaves a frame of the kind -/
theorem forL_find {step : D → Env → Sto → SRes} {M : Sto} (I : Env → Prop) (g : D → Option D) : ∀ (ds : List D) (env : Env), I env → (∀ d ∈ ds, ∀ env, I env → (∃ r, g d = some r ∧ step d env M = .ret r M) ∨ (g d = none ∧ ∃ env', (step d env M = .next env' M ∨ step d env M = .cnt env' M) ∧ I env')) →
    (∃ r, ds.findSome? g = some r ∧ forL step ds env M = .ret r M) ∨ (ds.findSome? g = none ∧ ∃ env', forL step ds env M = .next env' M ∧ I env')
  | [], env, h, _ => .inr ⟨rfl, env, by simp [forL], h⟩
  | d :: ds, env, h, hs => by
    rcases hs d List.mem_cons_self env h with ⟨r, h1, h2⟩ | ⟨h1, env', h2, h3⟩
    · exact .inl ⟨r, by simp [h1], by simp [forL, h2]⟩
    · have ih := forL_find I g ds env' h3 fun e he => hs e (List.mem_cons_of_mem _ he)
      simp only [List.findSome?_cons, h1]
      rcases h2 with h2 | h2 <;> simp only [forL, h2] <;> exact ih
/-- a loop under an invariant that ends by itself, each turn its own premise -/
theorem forL_inv {step : D → Env → Sto → SRes} (I : Nat → Env → Sto → Prop) (N : Nat) : ∀ (ds : List D) (i : Nat) (env : Env) (M : Sto), i + ds.length ≤ N → I i env M → (∀ d ∈ ds, ∀ i env M, i < N → I i env M → ∃ env' M', (step d env M = .next env' M' ∨ step d env M = .cnt env' M') ∧ I (i + 1) env' M') →
    ∃ env' M', forL step ds env M = .next env' M' ∧ I (i + ds.length) env' M'
  | [], i, env, M, _, h, _ => ⟨env, M, by simp [forL], h⟩
  | d :: ds, i, env, M, hN, h, hs => by
    rw [List.length_cons] at hN
    obtain ⟨env1, M1, e1, h1⟩ := hs d List.mem_cons_self i env M (by omega) h
    obtain ⟨env2, M2, e2, h2⟩ := forL_inv I N ds (i + 1) env1 M1 (by omega) h1 fun e he => hs e (List.mem_cons_of_mem _ he)
    refine ⟨env2, M2, ?_, by rw [List.length_cons, Nat.add_comm ds.length, ← Nat.add_assoc]; exact h2⟩
    rcases e1 with e1 | e1 <;> simp only [forL, e1] <;> exact e2
end Mp
end

section
set_option Elab.async false
set_option linter.all false
set_option maxRecDepth 100000
set_option maxHeartbeats 0
/-! The text that repr writes tells the thing. -/
namespace Mp
open PySem PySem.Spec
def cp (x : Str) : List Nat := x.cps.toList
theorem cp_inj {x y : Str} (h : cp x = cp y) : x = y := by
  cases x; cases y
  simp only [cp] at h
  congr 1
  exact Array.toList_inj.mp h
theorem cp_app (x y : Str) : cp (x ++ y) = cp x ++ cp y := PyProof.Rows.cps_toList_append x y
/-- a text that repr writes as it is, between plain quotes -/
def pl? (s : Str) : Bool := decide (cp (reprText s) = 39 :: (cp s ++ [39])) && !(cp s).contains 39
mutual
def sim? : D → Bool
  | .tup ds => sims ds
  | .lst ds => sims ds
  | .obj _ => false
  | .fn _ => false
  | .str s => pl? s
  | _ => true
def sims : List D → Bool
  | [] => true
  | d :: ds => sim? d && sims ds
end
def tx (d : D) : List Nat := cp (PyData.shown (py d))
def jn : List (List Nat) → List Nat
  | [] => []
  | [a] => a
  | a :: b :: r => a ++ 44 :: 32 :: jn (b :: r)
theorem jn_of : ∀ ds : List D, cp (Str.join ", " (PyData.shownAll (pys ds))) = jn (ds.map tx)
  | [] => by
    rw [pys, PyData.shownAll_nil, show Str.join ", " [] = Str.empty from rfl]
    decide
  | [d] => by
    rw [pys, pys, PyData.shownAll_cons, PyData.shownAll_nil, show ∀ x : Str, Str.join ", " [x] = x from fun _ => rfl]
    rfl
  | d :: e :: r => by
    rw [pys, pys, PyData.shownAll_cons, PyData.shownAll_cons, show ∀ (x y : Str) (r : List Str), Str.join ", " (x :: y :: r) = x ++ ", " ++ Str.join ", " (y :: r) from fun _ _ _ => rfl, cp_app, cp_app]
    have ih := jn_of (e :: r)
    rw [pys, PyData.shownAll_cons] at ih
    rw [ih]
    show _ ++ [44, 32] ++ _ = _
    simp [jn, tx]
theorem tx_tup (ds : List D) : tx (.tup ds) = 40 :: (jn (ds.map tx) ++ (if ds.length = 1 then [44, 41] else [41])) := by
  have hl : ∀ ds : List D, (pys ds).length = ds.length := fun ds => by induction ds with | nil => rfl | cons d ds ih => simp [pys, ih]
  unfold tx
  rw [py, PyData.shown_tuple, cp_app, cp_app, jn_of, hl]
  by_cases h : ds.length = 1
  · rw [if_pos h, h]
    rfl
  · rw [if_neg h]
    have : (ds.length == 1) = false := by simpa using h
    rw [this]
    rfl
theorem tx_lst (ds : List D) : tx (.lst ds) = 91 :: (jn (ds.map tx) ++ [93]) := by
  unfold tx
  rw [py, PyData.shown_list, cp_app, cp_app, jn_of]
  rfl
theorem tx_int (i : Int) : tx (.int i) = (toString i).toList.map Char.toNat := by
  unfold tx
  rw [py, PyData.shown_int]
  exact PyProof.Rows.signs_ofString _
theorem tx_non : tx .non = [78, 111, 110, 101] := by unfold tx; rw [py, PyData.shown_none]; decide
theorem tx_bl (b : Bool) : tx (.bl b) = if b = true then [84, 114, 117, 101] else [70, 97, 108, 115, 101] := by
  unfold tx; rw [py, PyData.shown_bool]; cases b <;> decide
theorem tx_str {s : Str} (h : pl? s = true) : tx (.str s) = 39 :: (cp s ++ [39]) := by
  unfold tx
  rw [py, PyData.shown_str]
  rw [pl?, Bool.and_eq_true, decide_eq_true_eq] at h
  exact h.1
/-- digits and the sign -/
def dg (c : Nat) : Prop := c = 45 ∨ (48 ≤ c ∧ c ≤ 57)
theorem int_dg (i : Int) : ∀ c ∈ tx (.int i), dg c := by
  intro c hc
  rw [tx_int] at hc
  obtain ⟨ch, h1, rfl⟩ := List.mem_map.mp hc
  rcases PyProof.Rows.int_sign i ch h1 with h | h
  · exact .inr (PyProof.Rows.digit_range h)
  · rw [h]; exact .inl rfl
theorem int_ne (i : Int) : tx (.int i) ≠ [] := by
  rw [tx_int]
  intro h
  have h : (toString i).toList = [] := by simpa using h
  rw [Int.toString_eq_repr, Int.repr_eq_if] at h
  split at h
  · rw [Nat.toList_repr] at h
    exact Nat.toDigits_ne_nil h
  · rw [String.toList_append, Nat.toList_repr] at h
    exact Nat.toDigits_ne_nil (List.append_eq_nil_iff.mp h).2
theorem int_inj {i j : Int} (h : tx (.int i) = tx (.int j)) : i = j := by
  rw [tx_int, tx_int] at h
  have hc : (toString i).toList = (toString j).toList := by
    refine List.map_inj_right (f := Char.toNat) (fun a b e => ?_) |>.mp h
    exact Char.toNat_inj.mp e
  have e : toString i = toString j := String.toList_inj.mp hc
  have a := Int.toInt?_repr i
  have b := Int.toInt?_repr j
  rw [← Int.toString_eq_repr] at a b
  rw [e, b] at a
  exact (Option.some.inj a).symm
/-- what may come behind a thing -/
def TailL (s : List Nat) : Prop := s = [] ∨ ∃ c r, s = c :: r ∧ (c = 44 ∨ c = 41 ∨ c = 93)
/-- what may come behind a row of things -/
def EndL (s : List Nat) : Prop := ∃ c r, s = c :: r ∧ (c = 41 ∨ c = 93 ∨ (c = 44 ∧ ∃ r', r = 41 :: r'))
theorem EndL.tail {s : List Nat} (h : EndL s) : TailL s := by
  obtain ⟨c, r, rfl, h⟩ := h
  exact .inr ⟨c, r, rfl, by rcases h with h | h | ⟨h, _⟩ <;> simp [h]⟩
/-- one row of signs of a kind, and what isn't of it -/
theorem span_eq {P : Nat → Prop} : ∀ {a b s t : List Nat}, (∀ c ∈ a, P c) → (∀ c ∈ b, P c) → (∀ c r, s = c :: r → ¬ P c) → (∀ c r, t = c :: r → ¬ P c) → a ++ s = b ++ t → a = b ∧ s = t
  | [], [], s, t, _, _, _, _, h => ⟨rfl, h⟩
  | [], c :: b, s, t, _, hb, hs, _, h => absurd (hb c List.mem_cons_self) (hs c _ h)
  | c :: a, [], s, t, ha, _, _, ht, h => absurd (ha c List.mem_cons_self) (ht c _ h.symm)
  | c :: a, d :: b, s, t, ha, hb, hs, ht, h => by
    simp only [List.cons_append, List.cons.injEq] at h
    obtain ⟨rfl, h⟩ := h
    obtain ⟨h1, h2⟩ := span_eq (fun x hx => ha x (List.mem_cons_of_mem _ hx)) (fun x hx => hb x (List.mem_cons_of_mem _ hx)) hs ht h
    exact ⟨by rw [h1], h2⟩
theorem TailL.nd {s : List Nat} (h : TailL s) : ∀ c r, s = c :: r → ¬ dg c := by
  intro c r e
  rcases h with h | ⟨c', r', h, hc⟩
  · rw [h] at e; cases e
  · rw [h] at e; cases e
    unfold dg
    omega
/-- a thing's first sign -/
def hd (d : D) : Nat → Prop := match d with
  | .non => fun c => c = 78
  | .bl true => fun c => c = 84
  | .bl false => fun c => c = 70
  | .int _ => dg
  | .str _ => fun c => c = 39
  | .tup _ => fun c => c = 40
  | .lst _ => fun c => c = 91
  | _ => fun _ => False
theorem hd_tx {d : D} (h : sim? d = true) : ∃ c r, tx d = c :: r ∧ hd d c := by
  cases d with
  | non => exact ⟨_, _, tx_non, rfl⟩
  | bl b => rw [tx_bl]; cases b <;> exact ⟨_, _, rfl, rfl⟩
  | int i =>
    cases e : tx (.int i) with
    | nil => exact absurd e (int_ne i)
    | cons c r => exact ⟨c, r, rfl, int_dg i c (by rw [e]; exact List.mem_cons_self)⟩
  | str s => exact ⟨_, _, tx_str (by rw [sim?] at h; exact h), rfl⟩
  | tup ds => exact ⟨_, _, tx_tup ds, rfl⟩
  | lst ds => exact ⟨_, _, tx_lst ds, rfl⟩
  | obj _ => rw [sim?] at h; cases h
  | fn _ => rw [sim?] at h; cases h
theorem hd_ne {d : D} {c : Nat} (h : hd d c) : c ≠ 44 ∧ c ≠ 41 ∧ c ≠ 93 := by
  unfold hd at h
  split at h
  all_goals first | exact h.elim | skip
  all_goals first | (subst h; decide) | (unfold dg at h; omega)
mutual
theorem tx_inj : ∀ (x y : D) (s t : List Nat), sim? x = true → sim? y = true → TailL s → TailL t → tx x ++ s = tx y ++ t → x = y ∧ s = t := fun x y s t hx hy hs ht h => by
  obtain ⟨c, r, e1, h1⟩ := hd_tx hx
  obtain ⟨c', r', e2, h2⟩ := hd_tx hy
  have hcc : c = c' := by rw [e1, e2] at h; simp only [List.cons_append, List.cons.injEq] at h; exact h.1
  subst hcc
  cases x with
  | int i =>
    cases y with
    | int j =>
      obtain ⟨a, b⟩ := span_eq (int_dg i) (int_dg j) hs.nd ht.nd h
      exact ⟨by rw [int_inj a], b⟩
    | bl b => cases b <;> simp [hd, dg] at h1 h2 <;> omega
    | _ => simp [hd, dg] at h1 h2 <;> omega
  | non => cases y with
    | non => exact ⟨rfl, List.append_cancel_left h⟩
    | bl b => cases b <;> simp [hd, dg] at h1 h2 <;> omega
    | _ => simp [hd, dg] at h1 h2 <;> omega
  | bl a => cases y with
    | bl b => cases a <;> cases b <;> first | exact ⟨rfl, List.append_cancel_left h⟩ | (simp [hd] at h1 h2; omega)
    | _ => cases a <;> simp [hd, dg] at h1 h2 <;> omega
  | str a => cases y with
    | str b =>
      rw [sim?] at hx hy
      rw [tx_str hx, tx_str hy] at h
      simp only [List.cons_append, List.append_assoc, List.cons.injEq, true_and] at h
      have q : ∀ {z : Str}, pl? z = true → ∀ c ∈ cp z, c ≠ 39 := by
        intro z hz c hc e
        rw [pl?, Bool.and_eq_true] at hz
        subst e
        have := hz.2
        simp at this
        exact this hc
      obtain ⟨k1, k2⟩ := span_eq (P := fun c => c ≠ 39) (q hx) (q hy) (fun c r e => by cases e; simp) (fun c r e => by cases e; simp) h
      exact ⟨by rw [cp_inj k1], by simpa using k2⟩
    | bl b => cases b <;> simp [hd, dg] at h1 h2 <;> omega
    | _ => simp [hd, dg] at h1 h2 <;> omega
  | tup a => cases y with
    | tup b =>
      rw [sim?] at hx hy
      rw [tx_tup, tx_tup] at h
      simp only [List.cons_append, List.append_assoc, List.cons.injEq, true_and] at h
      have en : ∀ (n : Nat) (u : List Nat), EndL ((if n = 1 then [44, 41] else [41]) ++ u) := fun n u => by
        split
        · exact ⟨44, 41 :: u, rfl, .inr (.inr ⟨rfl, u, rfl⟩)⟩
        · exact ⟨41, u, rfl, .inl rfl⟩
      obtain ⟨k1, k2⟩ := jn_inj a b _ _ hx hy (en _ _) (en _ _) h
      subst k1
      exact ⟨rfl, List.append_cancel_left k2⟩
    | bl b => cases b <;> simp [hd, dg] at h1 h2 <;> omega
    | _ => simp [hd, dg] at h1 h2 <;> omega
  | lst a => cases y with
    | lst b =>
      rw [sim?] at hx hy
      rw [tx_lst, tx_lst] at h
      simp only [List.cons_append, List.append_assoc, List.cons.injEq, true_and] at h
      obtain ⟨k1, k2⟩ := jn_inj a b _ _ hx hy ⟨93, s, rfl, .inr (.inl rfl)⟩ ⟨93, t, rfl, .inr (.inl rfl)⟩ h
      subst k1
      exact ⟨rfl, by simpa using k2⟩
    | bl b => cases b <;> simp [hd, dg] at h1 h2 <;> omega
    | _ => simp [hd, dg] at h1 h2 <;> omega
  | obj _ => rw [sim?] at hx; cases hx
  | fn _ => rw [sim?] at hx; cases hx
theorem jn_inj : ∀ (xs ys : List D) (s t : List Nat), sims xs = true → sims ys = true → EndL s → EndL t → jn (xs.map tx) ++ s = jn (ys.map tx) ++ t → xs = ys ∧ s = t
  | [], [], s, t, _, _, _, _, h => ⟨rfl, h⟩
  | [], y :: ys, s, t, _, hy, hs, _, h => by
    exfalso
    rw [sims, Bool.and_eq_true] at hy
    obtain ⟨c, r, e1, h1⟩ := hd_tx hy.1
    obtain ⟨c', r', e2, h2⟩ := hs
    have := hd_ne h1
    have hc : c' = c := by
      cases ys with
      | nil => simp only [List.map_cons, List.map_nil, jn, List.nil_append, e1, e2, List.cons_append, List.cons.injEq] at h; exact h.1
      | cons z zs => simp only [List.map_cons, List.map_nil, jn, List.nil_append, e1, e2, List.cons_append, List.cons.injEq] at h; exact h.1
    subst hc
    rcases h2 with h2 | h2 | ⟨h2, _⟩ <;> omega
  | x :: xs, [], s, t, hx, _, _, ht, h => by
    exfalso
    rw [sims, Bool.and_eq_true] at hx
    obtain ⟨c, r, e1, h1⟩ := hd_tx hx.1
    obtain ⟨c', r', e2, h2⟩ := ht
    have := hd_ne h1
    have hc : c = c' := by
      cases xs with
      | nil => simp only [List.map_cons, List.map_nil, jn, List.nil_append, e1, e2, List.cons_append, List.cons.injEq] at h; exact h.1
      | cons z zs => simp only [List.map_cons, List.map_nil, jn, List.nil_append, e1, e2, List.cons_append, List.cons.injEq] at h; exact h.1
    subst hc
    rcases h2 with h2 | h2 | ⟨h2, _⟩ <;> omega
  | x :: xs, y :: ys, s, t, hx, hy, hs, ht, h => by
    rw [sims, Bool.and_eq_true] at hx hy
    match xs, ys, hx, hy, h with
    | [], [], hx, hy, h =>
      obtain ⟨k1, k2⟩ := tx_inj x y s t hx.1 hy.1 hs.tail ht.tail (by simpa [jn] using h)
      exact ⟨by rw [k1], k2⟩
    | [], z :: zs, hx, hy, h =>
      exfalso
      obtain ⟨k1, k2⟩ := tx_inj x y s (44 :: 32 :: (jn ((z :: zs).map tx) ++ t)) hx.1 hy.1 hs.tail (.inr ⟨44, _, rfl, .inl rfl⟩) (by simpa [jn] using h)
      obtain ⟨c, r, e, hc⟩ := hs
      rw [e] at k2
      simp only [List.cons.injEq] at k2
      obtain ⟨rfl, k2⟩ := k2
      rcases hc with hc | hc | ⟨_, r', hc⟩
      · omega
      · omega
      · rw [hc] at k2; simp at k2
    | z :: zs, [], hx, hy, h =>
      exfalso
      obtain ⟨k1, k2⟩ := tx_inj x y (44 :: 32 :: (jn ((z :: zs).map tx) ++ s)) t hx.1 hy.1 (.inr ⟨44, _, rfl, .inl rfl⟩) ht.tail (by simpa [jn] using h)
      obtain ⟨c, r, e, hc⟩ := ht
      rw [e] at k2
      simp only [List.cons.injEq] at k2
      obtain ⟨rfl, k2⟩ := k2
      rcases hc with hc | hc | ⟨_, r', hc⟩
      · omega
      · omega
      · rw [hc] at k2; simp at k2
    | z :: zs, w :: ws, hx, hy, h =>
      obtain ⟨k1, k2⟩ := tx_inj x y (44 :: 32 :: (jn ((z :: zs).map tx) ++ s)) (44 :: 32 :: (jn ((w :: ws).map tx) ++ t)) hx.1 hy.1 (.inr ⟨44, _, rfl, .inl rfl⟩) (.inr ⟨44, _, rfl, .inl rfl⟩) (by simpa [jn] using h)
      simp only [List.cons.injEq, true_and] at k2
      obtain ⟨k3, k4⟩ := jn_inj (z :: zs) (w :: ws) s t hx.2 hy.2 hs ht k2
      exact ⟨by rw [k1, k3], k4⟩
end
theorem shown_inj {x y : D} (hx : sim? x = true) (hy : sim? y = true) : (PyData.shown (py x) = PyData.shown (py y)) ↔ x = y := by
  refine ⟨fun h => (tx_inj x y [] [] hx hy (.inl rfl) (.inl rfl) (by unfold tx; rw [h])).1, fun h => by rw [h]⟩
end Mp
end

section
set_option Elab.async false
set_option linter.all false
set_option maxRecDepth 100000
set_option maxHeartbeats 0
/-! More of what the laws' proofs share. -/
namespace Mp
open PySem PySem.Spec
section
variable {c : Cal} {env : Env} {M : Sto}
theorem d_mulS {s : Str} {k : Int} {r : Str} (h : 0 ≤ k ∧ k ≤ 1000 ∧ s.length ≤ 10000) (e : Txt.mul s k = r) : binD .mul (.str s) (.int k) M = .ok (.str r) M := by
  simp only [binD, h, and_self, if_true, e]
theorem d_mulL {ds : List D} {k : Int} (h : 0 ≤ k ∧ k ≤ 1000 ∧ ds.length * k.toNat ≤ line) : binD .mul (.lst ds) (.int k) M = .ok (.lst (List.replicate k.toNat ds).flatten) M := by
  simp only [binD, h, and_self, if_true]
theorem d_powL {i j k : Int} (h : 0 ≤ j ∧ j ≤ 1000 ∧ i.natAbs < 2 ^ 64) (e : i ^ j.toNat = k) : binD .pow (.int i) (.int j) M = .ok (.int k) M := by rw [d_pow h, e]
theorem d_catL {a b : List D} (h : a.length + b.length ≤ line) : binD .add (.lst a) (.lst b) M = .ok (.lst (a ++ b)) M := by
  simp only [binD, h, if_true]
theorem d_catT {a b : List D} (h : a.length + b.length ≤ line) : binD .add (.tup a) (.tup b) M = .ok (.tup (a ++ b)) M := by
  simp only [binD, h, if_true]
theorem d_catS {a b : Str} (h : a.length + b.length ≤ line) : binD .add (.str a) (.str b) M = .ok (.str (a ++ b)) M := by
  simp only [binD, h, if_true]
theorem d_ieq {x : D} {n : Int} (h : eqOk (.int n) x = true) : cmpD .eq (.int n) x M = .ok (.bl (PyData.eqv (.int n) (py x))) M := by
  simp only [cmpD, strP, h, if_true, py]
theorem d_isi {x : D} {t : Ty} (h : isiOk x = true) : isiK t x M = .ok (.bl (isiD x t)) M := by rw [k_isi, if_pos h]
/-- repr of what is small -/
theorem d_rep {x : D} {w d : Nat} (h : Sw x w d) (hd : d ≤ 60 := by omega) (hw : w ≤ 16000000 := by omega) : bltD .repr [x] M = .ok (.str (PyData.shown (py x))) M := Sw.repr h hd (by unfold line; omega) M
theorem d_sum {ns : List Int} : bltD .sum [.lst (ns.map .int)] M = .ok (.int ns.sum) M := by
  have : intsD (ns.map .int) = some ns := by
    induction ns with
    | nil => rfl
    | cons a r ih => simp only [List.map_cons, intsD, ih, Option.map_some]
  simp only [bltD, this]
theorem Sws.all : ∀ {xs : List D} {w d n : Nat}, (∀ x ∈ xs, Sw x w d) → xs.length ≤ n → Sws xs (n * (w + 2)) d
  | [], w, d, n, _, _ => ⟨by rw [pures], by rw [smalls], by rw [deps]; omega, by rw [wts]; omega⟩
  | x :: xs, w, d, 0, _, h => by simp at h
  | x :: xs, w, d, n + 1, hx, h => by
    have a := Sws.cons (hx x List.mem_cons_self) (Sws.all (n := n) (fun y hy => hx y (List.mem_cons_of_mem _ hy)) (by simpa using h))
    exact ⟨a.p, a.s, by have := a.d; omega, by have := a.w; rw [Nat.succ_mul]; omega⟩
theorem Sw.str {s : Str} (h : PyData.strOk s = true) (hl : s.length ≤ 100) : Sw (.str s) 1002 0 := ⟨by rw [pure?]; exact h, by rw [small?] <;> simp, by rw [dep] <;> simp, by rw [wt]; omega⟩
theorem Sw.ints {i : Int} (h : -(2 ^ 400) < i) (h2 : i < 2 ^ 400) : Sw (.int i) 2000 0 := Sw.int (by
  have : (2 : Nat) ^ 400 ≤ 2 ^ 1900 := Nat.pow_le_pow_right (by decide) (by decide)
  omega)
theorem Sw.lists {xs : List D} {w d n : Nat} (h : ∀ x ∈ xs, Sw x w d) (hl : xs.length ≤ n) : Sw (.lst xs) (n * (w + 2) + 3) (d + 1) := .lst (.all h hl)
theorem Sw.tups {xs : List D} {w d n : Nat} (h : ∀ x ∈ xs, Sw x w d) (hl : xs.length ≤ n) : Sw (.tup xs) (n * (w + 2) + 3) (d + 1) := .tup (.all h hl)
theorem Sw.tup2 {a b : D} {w d : Nat} (ha : Sw a w d) (hb : Sw b w d) : Sw (.tup [a, b]) (2 * (w + 2) + 3) (d + 1) := .tups (by simp [ha, hb]) (by simp)
theorem Sw.tup3 {a b c : D} {w d : Nat} (ha : Sw a w d) (hb : Sw b w d) (hc : Sw c w d) : Sw (.tup [a, b, c]) (3 * (w + 2) + 3) (d + 1) := .tups (by simp [ha, hb, hc]) (by simp)
theorem Sw.tup4 {a b c e : D} {w d : Nat} (ha : Sw a w d) (hb : Sw b w d) (hc : Sw c w d) (he : Sw e w d) : Sw (.tup [a, b, c, e]) (4 * (w + 2) + 3) (d + 1) := .tups (by simp [ha, hb, hc, he]) (by simp)
end
/-! ### is_whole and is_number of anything -/
def wh : D → Bool
  | .int _ => true
  | _ => false
def nb : D → Bool
  | .int i => decide (0 ≤ i)
  | _ => false
end Mp
namespace Mp
open PySem PySem.Spec
theorem forL_next {step : D → Env → Sto → SRes} {d : D} {ds : List D} {env : Env} {M : Sto} (env' : Env) (M' : Sto) (h : step d env M = .next env' M') : forL step (d :: ds) env M = forL step ds env' M' := by simp only [forL, h]
theorem forL_ret {step : D → Env → Sto → SRes} {d : D} {ds : List D} {env : Env} {M : Sto} {r : D} {M' : Sto} (h : step d env M = .ret r M') : forL step (d :: ds) env M = .ret r M' := by simp only [forL, h]
end Mp
namespace Mp
open PySem PySem.Spec
/-- a loop under an invariant, each item by its place -/
theorem forL_ix {step : D → Env → Sto → SRes} (I : Nat → Env → Sto → Prop) : ∀ (ds : List D) (i : Nat) (env : Env) (M : Sto), I i env M → (∀ j d, ds[j]? = some d → ∀ env M, I (i + j) env M → ∃ env' M', (step d env M = .next env' M' ∨ step d env M = .cnt env' M') ∧ I (i + j + 1) env' M') →
    ∃ env' M', forL step ds env M = .next env' M' ∧ I (i + ds.length) env' M'
  | [], i, env, M, h, _ => ⟨env, M, by simp [forL], h⟩
  | d :: ds, i, env, M, h, hs => by
    obtain ⟨env1, M1, e1, h1⟩ := hs 0 d rfl env M h
    obtain ⟨env2, M2, e2, h2⟩ := forL_ix I ds (i + 1) env1 M1 h1 fun j e he env M hI => by
      have := hs (j + 1) e (by simpa using he) env M (by rw [show i + (j + 1) = i + 1 + j by omega]; exact hI)
      rw [show i + (j + 1) = i + 1 + j by omega] at this
      exact this
    refine ⟨env2, M2, ?_, by rw [List.length_cons, Nat.add_comm ds.length, ← Nat.add_assoc]; exact h2⟩
    rcases e1 with e1 | e1 <;> simp only [forL, e1] <;> exact e2
theorem take_next {α : Type} {xs : List α} {i : Nat} {x : α} (h : xs[i]? = some x) : xs.take (i + 1) = xs.take i ++ [x] := by
  rw [List.take_add_one, h]; rfl
end Mp
namespace Mp
open PySem PySem.Spec
theorem wts_len : ∀ l : List D, l.length ≤ wts l
  | [] => by simp
  | a :: l => by have := wts_len l; rw [wts, List.length_cons]; omega
theorem Sw.tlen {xs : List D} {w d : Nat} (h : Sw (.tup xs) w d) : xs.length ≤ w := by
  have := h.w
  have := wts_len xs
  simp only [wt] at *
  omega
theorem Sw.llen {xs : List D} {w d : Nat} (h : Sw (.lst xs) w d) : xs.length ≤ w := by
  have := h.w
  have := wts_len xs
  simp only [wt] at *
  omega
theorem sortD_id {l : List D} (h : l.Pairwise fun a b => PySem.W.dataLe false py a b = true) : sortD l = l := List.mergeSort_of_pairwise h
theorem d_eqR {M : Sto} (x : D) : cmpD .ne (.str (PyData.shown (py x))) (.str (PyData.shown (py x))) M = .ok (.bl false) M := by rw [d_neS, decide_eq_true rfl] <;> rfl
end Mp
namespace Mp
open PySem PySem.Spec
theorem d_63 {ns : List Int} (h : ns.length ≤ 63) (M : Sto) : slcD (.lst (ns.map .int)) none (some 63) M = .ok (.lst (ns.map .int)) M := by
  show Res.ok (D.lst (cutD (ns.map D.int) none (some 63))) M = _
  have hs : cutD (ns.map D.int) none (some 63) = ns.map .int := by
    unfold cutD
    have e1 : HT.sIx (ns.map D.int).length 0 none = 0 := rfl
    have e2 : HT.sIx (ns.map D.int).length (ns.map D.int).length (some 63) = min 63 (ns.map D.int).length := HT.sIx_nat _ _ 63
    rw [e1, e2, List.drop_zero, List.length_map, Nat.sub_zero, List.take_of_length_le]
    rw [List.length_map]
    omega
  rw [hs]
theorem d_eqNil {M : Sto} : cmpD .eq (.lst []) (.lst []) M = .ok (.bl true) M := by rfl
theorem d_eqS1 {M : Sto} (x : Str) : cmpD .eq (.str x) (.str x) M = .ok (.bl true) M := by rw [d_eqS, decide_eq_true rfl]
end Mp
end

section
set_option Elab.async false
set_option linter.all false
set_option maxRecDepth 100000
set_option maxHeartbeats 0
/-! the defs of law_k21_whole_pace_by_rate (printed by gen.py) -/
namespace Mp.Lw
open PySem PySem.Spec L2
open Mp (Fn G S E T Ts)
def i_is_whole : Nat := 0
def i_is_number : Nat := 1
def i_ratio : Nat := 2
def i_added : Nat := 3
def i_is_less : Nat := 4
def i_lesser : Nat := 5
def i_wholes : Nat := 6
def i_grown : Nat := 7
def i_paid : Nat := 8
def i_pace_of : Nat := 9
def i_ticks_by : Nat := 10
def i_is_kept : Nat := 11
def i_is_due : Nat := 12
def i_store_struck : Nat := 13
def i_tables_of : Nat := 14
def i_parts_of : Nat := 15
def i_rows_of : Nat := 16
def i_indexes_of : Nat := 17
def i_row_of : Nat := 18
def i_with_parts : Nat := 19
def i_with_rows : Nat := 20
def i_meets_one : Nat := 21
def i_meets : Nat := 22
def i_meeting : Nat := 23
def i_sum_of : Nat := 24
def i_answered_of : Nat := 25
def i_answered_at : Nat := 26
def i_put_done : Nat := 27
def i_turned_done : Nat := 28
def i_drop_done : Nat := 29
def i_index_done : Nat := 30
def i_deed_done : Nat := 31
def i_worth_refusal : Nat := 32
def i_row_refusal : Nat := 33
def i_rule_refusal : Nat := 34
def i_refusal_of : Nat := 35
def i_done_job : Nat := 36
def i_conds_of : Nat := 37
def i_index_at : Nat := 38
def i_looked_at : Nat := 39
def i_linked_row : Nat := 40
def i_measure_of : Nat := 41
def i_life_of : Nat := 42
def i_handed_in : Nat := 43
def i_with_tokens : Nat := 44
def i_with_store : Nat := 45
def i_begun_cost : Nat := 46
def i_first_done : Nat := 47
def i_sliced : Nat := 48
def i_life_grown : Nat := 49
def i_life_struck : Nat := 50
def i_tick_alone : Nat := 51
def i_run_alone : Nat := 52
def i__law_feed : Nat := 53
def i__law_draw : Nat := 54
def i__law_share : Nat := 55
def i__law_sums_right : Nat := 56
def i__law_cut_right : Nat := 57
def i_law : Nat := 58
def s_is_whole_1 : Nat := 0
def s_ratio_2 : Nat := 0
def s_is_less_2 : Nat := 0
def s_lesser_2 : Nat := 0
def s_added_2 : Nat := 0
def s_wholes_1 : Nat := 0
def s_grown_2 : Nat := 0
def s_paid_2 : Nat := 0
def s_ticks_by_3 : Nat := 0
def s_is_kept_3 : Nat := 0
def s_is_due_3 : Nat := 0
def s_parts_of_2 : Nat := 0
def s_rows_of_2 : Nat := 0
def s_is_number_1 : Nat := 0
def s_with_parts_3 : Nat := 0
def s_meets_one_2 : Nat := 0
def s_meets_2 : Nat := 0
def s_sum_of_2 : Nat := 0
def s_row_of_3 : Nat := 0
def s_with_rows_3 : Nat := 0
def s_put_done_3 : Nat := 0
def s_drop_done_2 : Nat := 0
def s_index_done_2 : Nat := 0
def s_turned_done_2 : Nat := 0
def s_worth_refusal_3 : Nat := 0
def s_tables_of_1 : Nat := 0
def s_row_refusal_2 : Nat := 0
def s_rule_refusal_5 : Nat := 0
def s_refusal_of_5 : Nat := 0
def s_answered_of_2 : Nat := 0
def s_answered_at_2 : Nat := 0
def s_deed_done_3 : Nat := 0
def s_conds_of_1 : Nat := 0
def s_indexes_of_2 : Nat := 0
def s_index_at_2 : Nat := 0
def s_meeting_3 : Nat := 0
def s_looked_at_2 : Nat := 0
def s_linked_row_3 : Nat := 0
def s_measure_of_2 : Nat := 0
def s_done_job_2_tick_land_rules : Nat := 0
def s_begun_cost_1 : Nat := 0
def s_first_done_1_tick_land_rules : Nat := 0
def s_with_tokens_2 : Nat := 0
def s_with_store_2 : Nat := 0
def s_store_struck_1_rules_tick : Nat := 0
def s_sliced_2_tick_land_rules : Nat := 0
def s_life_grown_2 : Nat := 0
def s_life_struck_1_tick_rules : Nat := 0
def s_life_of_1 : Nat := 0
def s_handed_in_2 : Nat := 0
def s_tick_alone_2_tick_land_rules : Nat := 0
def s__law_draw_2 : Nat := 0
def s_pace_of_2_tokens : Nat := 0
def s__law_feed_1 : Nat := 0
def s__law_share_1 : Nat := 0
def s__law_sums_right_3 : Nat := 0
def s__law_cut_right_4 : Nat := 0
def s_run_alone_3_ticks_land : Nat := 0
def s_pace_of_2 : Nat := 1
def g_VOID : Nat := 0
def g_OF_WORTH : Nat := 1
def g_OF_ONE : Nat := 2
def g_OF_MANY_jobs : Nat := 3
def g_OF_SOME : Nat := 4
def g_OF_MANY_measures : Nat := 5
def g_NOUGHT : Nat := 6
/-! is_whole [thing] -/
def b_is_whole : List S := [.ret (.andv (.isi (.var 0) .int) (.one (.notv (.isi (.var 0) .bool))))]
def f_is_whole : Mp.Fn := ⟨1, 1, b_is_whole⟩
/-! is_number [thing] -/
def b_is_number : List S := [.ret (.andv (.call i_is_whole s_is_whole_1 (.cons (.var 0) .nil) (.nil)) (.one (.cmp .ge (.var 0) (.cint 0))))]
def f_is_number : Mp.Fn := ⟨1, 1, b_is_number⟩
/-! ratio [over, under, one, other] -/
def lb_ratio_1 : List S := [.par 2 3 (.var 3) (.bin .mod (.var 2) (.var 3))]
def lt_ratio_1 : T := .cmp .gt (.var 3) (.cint 0)
def b_ratio : List S := [.par 2 3 (.var 0) (.var 1), .whil lt_ratio_1 lb_ratio_1, .ret (.tup (.cons (.bin .fdiv (.var 0) (.var 2)) (.cons (.bin .fdiv (.var 1) (.var 2)) .nil)))]
def f_ratio : Mp.Fn := ⟨2, 4, b_ratio⟩
/-! added [one, other] -/
def b_added : List S := [.ret (.call i_ratio s_ratio_2 (.cons (.bin .add (.bin .mul (.idx (.var 0) (.cint 0)) (.idx (.var 1) (.cint 1))) (.bin .mul (.idx (.var 1) (.cint 0)) (.idx (.var 0) (.cint 1)))) (.cons (.bin .mul (.idx (.var 0) (.cint 1)) (.idx (.var 1) (.cint 1))) .nil)) (.nil))]
def f_added : Mp.Fn := ⟨2, 2, b_added⟩
/-! is_less [one, other] -/
def b_is_less : List S := [.ret (.cmp .lt (.bin .mul (.idx (.var 0) (.cint 0)) (.idx (.var 1) (.cint 1))) (.bin .mul (.idx (.var 1) (.cint 0)) (.idx (.var 0) (.cint 1))))]
def f_is_less : Mp.Fn := ⟨2, 2, b_is_less⟩
/-! lesser [one, other] -/
def b_lesser : List S := [.ret (.ife (.val (.call i_is_less s_is_less_2 (.cons (.var 1) (.cons (.var 0) .nil)) (.nil))) (.var 1) (.var 0))]
def f_lesser : Mp.Fn := ⟨2, 2, b_lesser⟩
/-! wholes [fraction] -/
def b_wholes : List S := [.ret (.bin .fdiv (.idx (.var 0) (.cint 0)) (.idx (.var 0) (.cint 1)))]
def f_wholes : Mp.Fn := ⟨1, 1, b_wholes⟩
/-! grown [tokens, share] -/
def b_grown : List S := [.ret (.call i_lesser s_lesser_2 (.cons (.call i_added s_added_2 (.cons (.var 0) (.cons (.idx (.var 1) (.cint 0)) .nil)) (.nil)) (.cons (.tup (.cons (.idx (.var 1) (.cint 1)) (.cons (.cint 1) .nil))) .nil)) (.nil))]
def f_grown : Mp.Fn := ⟨2, 2, b_grown⟩
/-! paid [tokens, cost, many] -/
def b_paid : List S := [.asg (.nm 2) (.blt .min (.cons (.call i_wholes s_wholes_1 (.cons (.var 0) .nil) (.nil)) (.cons (.var 1) .nil))), .ret (.tup (.cons (.call i_ratio s_ratio_2 (.cons (.bin .sub (.idx (.var 0) (.cint 0)) (.bin .mul (.var 2) (.idx (.var 0) (.cint 1)))) (.cons (.idx (.var 0) (.cint 1)) .nil)) (.nil)) (.cons (.var 2) .nil)))]
def f_paid : Mp.Fn := ⟨2, 3, b_paid⟩
/-! pace_of [share, ticks, tokens, found, tick, many] -/
def lb_pace_of_1 : List S := [.asg (.nm 2) (.call i_grown s_grown_2 (.cons (.var 2) (.cons (.var 0) .nil)) (.nil)), .asg (.tp [.nm 2, .nm 5]) (.call i_paid s_paid_2 (.cons (.var 2) (.cons (.call i_wholes s_wholes_1 (.cons (.var 2) .nil) (.nil)) .nil)) (.nil)), .app 3 (.var 5)]
def lg_pace_of_1 : G := .nm 4
def b_pace_of : List S := [.ownL 3 (.nil), .forr lg_pace_of_1 (.rng1 (.var 1)) lb_pace_of_1, .ret (.blt .tuple (.cons (.own 3) .nil))]
def f_pace_of : Mp.Fn := ⟨3, 6, b_pace_of⟩
/-! ticks_by [rules, word, land, rule] -/
def lb_ticks_by_1 : List S := [.ifs (.cmp .eq (.slc (.var 3) .non (.som (.cint 2))) (.tup (.cons (.var 1) (.cons (.var 2) .nil)))) [.ret (.idx (.var 3) (.cint 2))] []]
def lg_ticks_by_1 : G := .nm 3
def b_ticks_by : List S := [.forr lg_ticks_by_1 (.seq (.var 0)) lb_ticks_by_1, .ret (.cnon)]
def f_ticks_by : Mp.Fn := ⟨3, 4, b_ticks_by⟩
/-! is_kept [row, rules, tick, ticks] -/
def b_is_kept : List S := [.asg (.nm 3) (.call i_ticks_by s_ticks_by_3 (.cons (.var 1) (.cons (.cstr "kept") (.cons (.idx (.var 0) (.cint 1)) .nil))) (.nil)), .ret (.andv (.cmp .isnot (.var 3) (.cnon)) (.one (.cmp .lt (.bin .sub (.var 2) (.idx (.var 0) (.cint 2))) (.var 3))))]
def f_is_kept : Mp.Fn := ⟨3, 4, b_is_kept⟩
/-! is_due [row, rules, tick, ticks] -/
def b_is_due : List S := [.asg (.nm 3) (.call i_ticks_by s_ticks_by_3 (.cons (.var 1) (.cons (.cstr "struck") (.cons (.idx (.var 0) (.cint 1)) .nil))) (.nil)), .ret (.andv (.cmp .isnot (.var 3) (.cnon)) (.andv (.cmp .ge (.bin .sub (.var 2) (.idx (.var 0) (.cint 2))) (.var 3)) (.one (.notv (.call i_is_kept s_is_kept_3 (.cons (.var 0) (.cons (.var 1) (.cons (.var 2) .nil))) (.nil))))))]
def f_is_due : Mp.Fn := ⟨3, 4, b_is_due⟩
/-! store_struck [store, rules, tick, found, table, following, rows, indexes, row] -/
def co_store_struck_1 : List (Str × Nat) := [("row", 8)]
def cg_store_struck_1 : G := .nm 8
def ct_store_struck_1 : Ts := .one (.not (.val (.call i_is_due s_is_due_3 (.cons (.var 8) (.cons (.var 1) (.cons (.var 2) .nil))) (.nil))))
def ce_store_struck_1 : E := .var 8
def lb_store_struck_1 : List S := [.app 3 (.tup (.cons (.var 4) (.cons (.var 5) (.cons (.blt .tuple (.cons (.comp cg_store_struck_1 co_store_struck_1 (.seq (.var 6)) ct_store_struck_1 ce_store_struck_1) .nil)) (.cons (.var 7) .nil)))))]
def lg_store_struck_1 : G := .tp [.nm 4, .nm 5, .nm 6, .nm 7]
def b_store_struck : List S := [.ownL 3 (.nil), .forr lg_store_struck_1 (.seq (.var 0)) lb_store_struck_1, .ret (.blt .tuple (.cons (.own 3) .nil))]
def f_store_struck : Mp.Fn := ⟨3, 9, b_store_struck⟩
/-! tables_of [store, parts] -/
def co_tables_of_1 : List (Str × Nat) := [("parts", 1)]
def cg_tables_of_1 : G := .nm 1
def ct_tables_of_1 : Ts := .nil
def ce_tables_of_1 : E := .idx (.var 1) (.cint 0)
def b_tables_of : List S := [.ret (.blt .tuple (.cons (.comp cg_tables_of_1 co_tables_of_1 (.seq (.var 0)) ct_tables_of_1 ce_tables_of_1) .nil))]
def f_tables_of : Mp.Fn := ⟨1, 2, b_tables_of⟩
/-! parts_of [store, table, own, following, rows, indexes] -/
def lb_parts_of_1 : List S := [.ifs (.cmp .eq (.var 2) (.var 1)) [.ret (.tup (.cons (.var 3) (.cons (.var 4) (.cons (.var 5) .nil))))] []]
def lg_parts_of_1 : G := .tp [.nm 2, .nm 3, .nm 4, .nm 5]
def b_parts_of : List S := [.forr lg_parts_of_1 (.seq (.var 0)) lb_parts_of_1, .ret (.blt .tuple (.cons (.glob g_VOID) .nil))]
def f_parts_of : Mp.Fn := ⟨2, 6, b_parts_of⟩
/-! rows_of [store, table] -/
def b_rows_of : List S := [.ret (.idx (.call i_parts_of s_parts_of_2 (.cons (.var 0) (.cons (.var 1) .nil)) (.nil)) (.cint 1))]
def f_rows_of : Mp.Fn := ⟨2, 2, b_rows_of⟩
/-! indexes_of [store, table] -/
def b_indexes_of : List S := [.ret (.idx (.call i_parts_of s_parts_of_2 (.cons (.var 0) (.cons (.var 1) .nil)) (.nil)) (.cint 2))]
def f_indexes_of : Mp.Fn := ⟨2, 2, b_indexes_of⟩
/-! row_of [store, table, id_told, row] -/
def lb_row_of_1 : List S := [.ifs (.and (.val (.call i_is_number s_is_number_1 (.cons (.var 2) .nil) (.nil))) (.one (.cmp .eq (.idx (.var 3) (.cint 0)) (.var 2)))) [.ret (.var 3)] []]
def lg_row_of_1 : G := .nm 3
def b_row_of : List S := [.forr lg_row_of_1 (.seq (.call i_rows_of s_rows_of_2 (.cons (.var 0) (.cons (.var 1) .nil)) (.nil))) lb_row_of_1, .ret (.cnon)]
def f_row_of : Mp.Fn := ⟨3, 4, b_row_of⟩
/-! with_parts [store, table, parts, found, own, following, rows, indexes] -/
def co_with_parts_1 : List (Str × Nat) := [("own", 4), ("following", 5), ("rows", 6), ("indexes", 7)]
def cg_with_parts_1 : G := .tp [.nm 4, .nm 5, .nm 6, .nm 7]
def ct_with_parts_1 : Ts := .nil
def ck_with_parts_1 : E := .var 4
def ce_with_parts_1 : E := .tup (.cons (.var 4) (.cons (.var 5) (.cons (.var 6) (.cons (.var 7) .nil))))
def co_with_parts_2 : List (Str × Nat) := [("own", 4)]
def cg_with_parts_2 : G := .nm 4
def ct_with_parts_2 : Ts := .nil
def ce_with_parts_2 : E := .idx (.var 3) (.var 4)
def b_with_parts : List S := [.asg (.nm 3) (.dcomp false cg_with_parts_1 co_with_parts_1 (.seq (.var 0)) ct_with_parts_1 ck_with_parts_1 ce_with_parts_1), .setd (.var 3) (.var 1) (.bin .add (.tup (.cons (.var 1) .nil)) (.var 2)), .ret (.blt .tuple (.cons (.comp cg_with_parts_2 co_with_parts_2 (.seq (.blt .sorted (.cons (.var 3) .nil))) ct_with_parts_2 ce_with_parts_2) .nil))]
def f_with_parts : Mp.Fn := ⟨3, 8, b_with_parts⟩
/-! with_rows [store, table, rows, parts] -/
def b_with_rows : List S := [.asg (.nm 3) (.call i_parts_of s_parts_of_2 (.cons (.var 0) (.cons (.var 1) .nil)) (.nil)), .ret (.call i_with_parts s_with_parts_3 (.cons (.var 0) (.cons (.var 1) (.cons (.tup (.cons (.idx (.var 3) (.cint 0)) (.cons (.blt .tuple (.cons (.var 2) .nil)) (.cons (.idx (.var 3) (.cint 2)) .nil)))) .nil))) (.nil))]
def f_with_rows : Mp.Fn := ⟨3, 4, b_with_rows⟩
/-! meets_one [row, cond, own, k, sign, value] -/
def b_meets_one : List S := [.asg (.tp [.nm 3, .nm 4, .nm 5]) (.var 1), .ifs (.cmp .ge (.var 3) (.blt .len (.cons (.idx (.var 0) (.cint 3)) .nil))) [.ret (.cbl false)] [], .asg (.nm 2) (.idx (.idx (.var 0) (.cint 3)) (.var 3)), .ifs (.cmp .eq (.var 4) (.cstr "=")) [.ret (.cmp .eq (.var 2) (.var 5))] [], .ifs (.or (.not (.val (.call i_is_whole s_is_whole_1 (.cons (.var 2) .nil) (.nil)))) (.one (.not (.val (.call i_is_whole s_is_whole_1 (.cons (.var 5) .nil) (.nil)))))) [.ret (.cbl false)] [], .ret (.ife (.cmp .eq (.var 4) (.cstr "<")) (.cmp .lt (.var 2) (.var 5)) (.cmp .gt (.var 2) (.var 5)))]
def f_meets_one : Mp.Fn := ⟨2, 6, b_meets_one⟩
/-! meets [row, conds, cond] -/
def co_meets_1 : List (Str × Nat) := [("cond", 2)]
def cg_meets_1 : G := .nm 2
def ct_meets_1 : Ts := .nil
def ce_meets_1 : E := .call i_meets_one s_meets_one_2 (.cons (.var 0) (.cons (.var 2) .nil)) (.nil)
def b_meets : List S := [.ret (.blt .all (.cons (.comp cg_meets_1 co_meets_1 (.seq (.var 1)) ct_meets_1 ce_meets_1) .nil))]
def f_meets : Mp.Fn := ⟨2, 3, b_meets⟩
/-! meeting [store, table, conds, row] -/
def co_meeting_1 : List (Str × Nat) := [("row", 3)]
def cg_meeting_1 : G := .nm 3
def ct_meeting_1 : Ts := .one (.val (.call i_meets s_meets_2 (.cons (.var 3) (.cons (.var 2) .nil)) (.nil)))
def ce_meeting_1 : E := .idx (.var 3) (.cint 0)
def b_meeting : List S := [.ret (.blt .tuple (.cons (.comp cg_meeting_1 co_meeting_1 (.seq (.call i_rows_of s_rows_of_2 (.cons (.var 0) (.cons (.var 1) .nil)) (.nil))) ct_meeting_1 ce_meeting_1) .nil))]
def f_meeting : Mp.Fn := ⟨3, 4, b_meeting⟩
/-! sum_of [rows, k, row] -/
def co_sum_of_1 : List (Str × Nat) := [("row", 2)]
def cg_sum_of_1 : G := .nm 2
def ct_sum_of_1 : Ts := .one (.and (.cmp .lt (.var 1) (.blt .len (.cons (.idx (.var 2) (.cint 3)) .nil))) (.one (.val (.call i_is_whole s_is_whole_1 (.cons (.idx (.idx (.var 2) (.cint 3)) (.var 1)) .nil) (.nil)))))
def ce_sum_of_1 : E := .idx (.idx (.var 2) (.cint 3)) (.var 1)
def b_sum_of : List S := [.ret (.blt .sum (.cons (.comp cg_sum_of_1 co_sum_of_1 (.seq (.var 0)) ct_sum_of_1 ce_sum_of_1) .nil))]
def f_sum_of : Mp.Fn := ⟨2, 3, b_sum_of⟩
/-! answered_of [ask, rows, found, word, table, rest, row] -/
def co_answered_of_1 : List (Str × Nat) := [("row", 6)]
def cg_answered_of_1 : G := .nm 6
def ct_answered_of_1 : Ts := .one (.val (.call i_meets s_meets_2 (.cons (.var 6) (.cons (.idx (.var 5) (.cint 1)) .nil)) (.nil)))
def ce_answered_of_1 : E := .var 6
def co_answered_of_2 : List (Str × Nat) := [("row", 6)]
def cg_answered_of_2 : G := .nm 6
def ct_answered_of_2 : Ts := .one (.val (.call i_meets s_meets_2 (.cons (.var 6) (.cons (.idx (.var 5) (.cint 0)) .nil)) (.nil)))
def ce_answered_of_2 : E := .idx (.var 6) (.cint 0)
def b_answered_of : List S := [.star [.nm 3, .nm 4] 5 (.var 0), .ifs (.cmp .eq (.var 3) (.cstr "sum")) [.ret (.call i_sum_of s_sum_of_2 (.cons (.comp cg_answered_of_1 co_answered_of_1 (.seq (.var 1)) ct_answered_of_1 ce_answered_of_1) (.cons (.idx (.var 5) (.cint 0)) .nil)) (.nil))] [], .asg (.nm 2) (.comp cg_answered_of_2 co_answered_of_2 (.seq (.var 1)) ct_answered_of_2 ce_answered_of_2), .ret (.ife (.cmp .eq (.var 3) (.cstr "count")) (.blt .len (.cons (.var 2) .nil)) (.blt .tuple (.cons (.slc (.var 2) .non (.som (.idx (.var 5) (.cint 1)))) .nil)))]
def f_answered_of : Mp.Fn := ⟨2, 7, b_answered_of⟩
/-! answered_at [store, ask, worths, word, table, number, link, other, place, rest] -/
def b_answered_at : List S := [.star [.nm 3, .nm 4, .nm 5] 9 (.var 1), .asg (.nm 2) (.idx (.call i_row_of s_row_of_3 (.cons (.var 0) (.cons (.var 4) (.cons (.var 5) .nil))) (.nil)) (.cint 3)), .ifs (.cmp .eq (.var 3) (.cstr "get")) [.ret (.var 2)] [], .asg (.tp [.nm 6, .nm 7, .nm 8]) (.idx (.var 2) (.idx (.var 9) (.cint 0))), .ret (.idx (.call i_row_of s_row_of_3 (.cons (.var 0) (.cons (.var 7) (.cons (.var 8) .nil))) (.nil)) (.cint 3))]
def f_answered_at : Mp.Fn := ⟨2, 10, b_answered_at⟩
/-! put_done [store, deed, tick, row, word, table, land, worths, following, rows, indexes] -/
def b_put_done : List S := [.asg (.tp [.nm 4, .nm 5, .nm 6, .nm 7]) (.var 1), .asg (.tp [.nm 8, .nm 9, .nm 10]) (.call i_parts_of s_parts_of_2 (.cons (.var 0) (.cons (.var 5) .nil)) (.nil)), .asg (.nm 3) (.tup (.cons (.var 8) (.cons (.var 6) (.cons (.var 2) (.cons (.var 7) .nil))))), .ret (.tup (.cons (.call i_with_parts s_with_parts_3 (.cons (.var 0) (.cons (.var 5) (.cons (.tup (.cons (.bin .add (.var 8) (.cint 1)) (.cons (.bin .add (.var 9) (.tup (.cons (.var 3) .nil))) (.cons (.var 10) .nil)))) .nil))) (.nil)) (.cons (.var 8) .nil)))]
def f_put_done : Mp.Fn := ⟨3, 11, b_put_done⟩
/-! turned_done [store, deed, row, value, newer, word, table, number, k, more, one] -/
def co_turned_done_1 : List (Str × Nat) := [("one", 10)]
def cg_turned_done_1 : G := .nm 10
def ct_turned_done_1 : Ts := .nil
def ce_turned_done_1 : E := .ife (.cmp .eq (.var 10) (.var 2)) (.var 4) (.var 10)
def b_turned_done : List S := [.asg (.tp [.nm 5, .nm 6, .nm 7, .nm 8, .nm 9]) (.var 1), .asg (.nm 2) (.call i_row_of s_row_of_3 (.cons (.var 0) (.cons (.var 6) (.cons (.var 7) .nil))) (.nil)), .asg (.nm 3) (.ife (.cmp .eq (.var 5) (.cstr "add")) (.bin .add (.idx (.idx (.var 2) (.cint 3)) (.var 8)) (.var 9)) (.var 9)), .asg (.nm 4) (.bin .add (.slc (.var 2) .non (.som (.cint 3))) (.tup (.cons (.bin .add (.bin .add (.slc (.idx (.var 2) (.cint 3)) .non (.som (.var 8))) (.tup (.cons (.var 3) .nil))) (.slc (.idx (.var 2) (.cint 3)) (.som (.bin .add (.var 8) (.cint 1))) .non)) .nil))), .ret (.tup (.cons (.call i_with_rows s_with_rows_3 (.cons (.var 0) (.cons (.var 6) (.cons (.comp cg_turned_done_1 co_turned_done_1 (.seq (.call i_rows_of s_rows_of_2 (.cons (.var 0) (.cons (.var 6) .nil)) (.nil))) ct_turned_done_1 ce_turned_done_1) .nil))) (.nil)) (.cons (.var 3) .nil)))]
def f_turned_done : Mp.Fn := ⟨2, 11, b_turned_done⟩
/-! drop_done [store, deed, word, table, number, row] -/
def co_drop_done_1 : List (Str × Nat) := [("row", 5)]
def cg_drop_done_1 : G := .nm 5
def ct_drop_done_1 : Ts := .one (.cmp .ne (.idx (.var 5) (.cint 0)) (.var 4))
def ce_drop_done_1 : E := .var 5
def b_drop_done : List S := [.asg (.tp [.nm 2, .nm 3, .nm 4]) (.var 1), .ret (.tup (.cons (.call i_with_rows s_with_rows_3 (.cons (.var 0) (.cons (.var 3) (.cons (.comp cg_drop_done_1 co_drop_done_1 (.seq (.call i_rows_of s_rows_of_2 (.cons (.var 0) (.cons (.var 3) .nil)) (.nil))) ct_drop_done_1 ce_drop_done_1) .nil))) (.nil)) (.cons (.cbl true) .nil)))]
def f_drop_done : Mp.Fn := ⟨2, 6, b_drop_done⟩
/-! index_done [store, deed, more, word, table, k, following, rows, indexes] -/
def b_index_done : List S := [.asg (.tp [.nm 3, .nm 4, .nm 5]) (.var 1), .asg (.tp [.nm 6, .nm 7, .nm 8]) (.call i_parts_of s_parts_of_2 (.cons (.var 0) (.cons (.var 4) .nil)) (.nil)), .asg (.nm 2) (.ife (.cmp .in_ (.var 5) (.var 8)) (.var 8) (.blt .tuple (.cons (.blt .sorted (.cons (.bin .add (.var 8) (.tup (.cons (.var 5) .nil))) .nil)) .nil))), .ret (.tup (.cons (.call i_with_parts s_with_parts_3 (.cons (.var 0) (.cons (.var 4) (.cons (.tup (.cons (.var 6) (.cons (.var 7) (.cons (.var 2) .nil)))) .nil))) (.nil)) (.cons (.cbl true) .nil)))]
def f_index_done : Mp.Fn := ⟨2, 9, b_index_done⟩
/-! deed_done [store, deed, tick] -/
def b_deed_done : List S := [.ifs (.cmp .eq (.idx (.var 1) (.cint 0)) (.cstr "put")) [.ret (.call i_put_done s_put_done_3 (.cons (.var 0) (.cons (.var 1) (.cons (.var 2) .nil))) (.nil))] [], .ifs (.cmp .eq (.idx (.var 1) (.cint 0)) (.cstr "drop")) [.ret (.call i_drop_done s_drop_done_2 (.cons (.var 0) (.cons (.var 1) .nil)) (.nil))] [], .ret (.ife (.cmp .eq (.idx (.var 1) (.cint 0)) (.cstr "index")) (.call i_index_done s_index_done_2 (.cons (.var 0) (.cons (.var 1) .nil)) (.nil)) (.call i_turned_done s_turned_done_2 (.cons (.var 0) (.cons (.var 1) .nil)) (.nil)))]
def f_deed_done : Mp.Fn := ⟨3, 3, b_deed_done⟩
/-! worth_refusal [store, job, row, own, word, table, number, k, rest] -/
def b_worth_refusal : List S := [.star [.nm 4, .nm 5, .nm 6, .nm 7] 8 (.var 1), .ifs (.or (.cmp .ge (.var 7) (.blt .len (.cons (.idx (.var 2) (.cint 3)) .nil))) (.one (.and (.cmp .eq (.var 4) (.cstr "add")) (.one (.not (.val (.call i_is_whole s_is_whole_1 (.cons (.idx (.idx (.var 2) (.cint 3)) (.var 7)) .nil) (.nil)))))))) [.ret (.cstr "worth")] [], .ifs (.cmp .ne (.var 4) (.cstr "follow")) [.ret (.cnon)] [], .asg (.nm 3) (.idx (.idx (.var 2) (.cint 3)) (.var 7)), .ifs (.or (.not (.val (.isi (.var 3) .tuple))) (.one (.cmp .ne (.idx (.var 3) (.cint 0)) (.cstr "link")))) [.ret (.cstr "worth")] [], .ret (.ife (.cmp .is_ (.call i_row_of s_row_of_3 (.cons (.var 0) (.cons (.idx (.var 3) (.cint 1)) (.cons (.idx (.var 3) (.cint 2)) .nil))) (.nil)) (.cnon)) (.cstr "link") (.cnon))]
def f_worth_refusal : Mp.Fn := ⟨3, 9, b_worth_refusal⟩
/-! row_refusal [store, job, row] -/
def b_row_refusal : List S := [.asg (.nm 2) (.call i_row_of s_row_of_3 (.cons (.var 0) (.cons (.idx (.var 1) (.cint 1)) (.cons (.idx (.var 1) (.cint 2)) .nil))) (.nil)), .ifs (.cmp .is_ (.var 2) (.cnon)) [.ret (.cstr "row")] [], .ret (.ife (.cmp .in_ (.idx (.var 1) (.cint 0)) (.glob g_OF_WORTH)) (.call i_worth_refusal s_worth_refusal_3 (.cons (.var 0) (.cons (.var 1) (.cons (.var 2) .nil))) (.nil)) (.cnon))]
def f_row_refusal : Mp.Fn := ⟨2, 3, b_row_refusal⟩
/-! rule_refusal [store, job, tick, land, rules] -/
def b_rule_refusal : List S := [.ifs (.cmp .eq (.idx (.var 1) (.cint 0)) (.cstr "put")) [.ret (.ife (.and (.cmp .in_ (.tup (.cons (.cstr "stay") (.cons (.idx (.var 1) (.cint 2)) .nil))) (.var 4)) (.one (.cmp .ne (.idx (.var 1) (.cint 2)) (.var 3)))) (.cstr "stay") (.cnon))] [], .ifs (.cmp .notin (.idx (.var 1) (.cint 0)) (.tup (.cons (.cstr "set") (.cons (.cstr "add") (.cons (.cstr "drop") .nil))))) [.ret (.cnon)] [], .ret (.ife (.val (.call i_is_kept s_is_kept_3 (.cons (.call i_row_of s_row_of_3 (.cons (.var 0) (.cons (.idx (.var 1) (.cint 1)) (.cons (.idx (.var 1) (.cint 2)) .nil))) (.nil)) (.cons (.var 4) (.cons (.var 2) .nil))) (.nil))) (.cstr "kept") (.cnon))]
def f_rule_refusal : Mp.Fn := ⟨5, 5, b_rule_refusal⟩
/-! refusal_of [store, job, tick, land, rules, found] -/
def b_refusal_of : List S := [.ifs (.and (.cmp .notin (.idx (.var 1) (.cint 0)) (.tup (.cons (.cstr "put") (.cons (.cstr "index") .nil)))) (.one (.cmp .notin (.idx (.var 1) (.cint 1)) (.call i_tables_of s_tables_of_1 (.cons (.var 0) .nil) (.nil))))) [.ret (.cstr "table")] [], .asg (.nm 5) (.ife (.cmp .in_ (.idx (.var 1) (.cint 0)) (.glob g_OF_ONE)) (.call i_row_refusal s_row_refusal_2 (.cons (.var 0) (.cons (.var 1) .nil)) (.nil)) (.cnon)), .ret (.ife (.cmp .is_ (.var 5) (.cnon)) (.call i_rule_refusal s_rule_refusal_5 (.cons (.var 0) (.cons (.var 1) (.cons (.var 2) (.cons (.var 3) (.cons (.var 4) .nil))))) (.nil)) (.var 5))]
def f_refusal_of : Mp.Fn := ⟨5, 6, b_refusal_of⟩
/-! done_job [store, job, tick, land, rules, word] -/
def b_done_job : List S := [.asg (.nm 5) (.call i_refusal_of s_refusal_of_5 (.cons (.var 0) (.cons (.var 1) (.cons (.var 2) (.cons (.var 3) (.cons (.var 4) .nil))))) (.nil)), .ifs (.cmp .isnot (.var 5) (.cnon)) [.ret (.tup (.cons (.var 0) (.cons (.tup (.cons (.cstr "no") (.cons (.var 5) .nil))) .nil)))] [], .ifs (.cmp .in_ (.idx (.var 1) (.cint 0)) (.glob g_OF_MANY_jobs)) [.ret (.tup (.cons (.var 0) (.cons (.call i_answered_of s_answered_of_2 (.cons (.var 1) (.cons (.call i_rows_of s_rows_of_2 (.cons (.var 0) (.cons (.idx (.var 1) (.cint 1)) .nil)) (.nil)) .nil)) (.nil)) .nil)))] [], .ret (.ife (.cmp .in_ (.idx (.var 1) (.cint 0)) (.glob g_OF_SOME)) (.tup (.cons (.var 0) (.cons (.call i_answered_at s_answered_at_2 (.cons (.var 0) (.cons (.var 1) .nil)) (.nil)) .nil))) (.call i_deed_done s_deed_done_3 (.cons (.var 0) (.cons (.var 1) (.cons (.var 2) .nil))) (.nil)))]
def f_done_job : Mp.Fn := ⟨5, 6, b_done_job⟩
/-! conds_of [ask] -/
def b_conds_of : List S := [.ret (.ife (.cmp .eq (.idx (.var 0) (.cint 0)) (.cstr "sum")) (.idx (.var 0) (.cint 3)) (.idx (.var 0) (.cint 2)))]
def f_conds_of : Mp.Fn := ⟨1, 1, b_conds_of⟩
/-! index_at [store, ask, number, k, sign, value] -/
def lb_index_at_1 : List S := [.ifs (.and (.cmp .eq (.var 4) (.cstr "=")) (.one (.cmp .in_ (.var 3) (.call i_indexes_of s_indexes_of_2 (.cons (.var 0) (.cons (.idx (.var 1) (.cint 1)) .nil)) (.nil))))) [.ret (.var 2)] []]
def lg_index_at_1 : G := .tp [.nm 2, .tp [.nm 3, .nm 4, .nm 5]]
def b_index_at : List S := [.forr lg_index_at_1 (.enum (.call i_conds_of s_conds_of_1 (.cons (.var 1) .nil) (.nil))) lb_index_at_1, .ret (.cnon)]
def f_index_at : Mp.Fn := ⟨2, 6, b_index_at⟩
/-! looked_at [store, ask, by, conds] -/
def b_looked_at : List S := [.asg (.nm 2) (.call i_index_at s_index_at_2 (.cons (.var 0) (.cons (.var 1) .nil)) (.nil)), .asg (.nm 3) (.ife (.cmp .is_ (.var 2) (.cnon)) (.tup (.nil)) (.tup (.cons (.idx (.call i_conds_of s_conds_of_1 (.cons (.var 1) .nil) (.nil)) (.var 2)) .nil))), .ret (.tup (.cons (.var 2) (.cons (.call i_meeting s_meeting_3 (.cons (.var 0) (.cons (.idx (.var 1) (.cint 1)) (.cons (.var 3) .nil))) (.nil)) .nil)))]
def f_looked_at : Mp.Fn := ⟨2, 4, b_looked_at⟩
/-! linked_row [store, row, k, own] -/
def b_linked_row : List S := [.asg (.nm 3) (.ife (.cmp .lt (.var 2) (.blt .len (.cons (.idx (.var 1) (.cint 3)) .nil))) (.idx (.idx (.var 1) (.cint 3)) (.var 2)) (.cnon)), .ifs (.or (.not (.val (.isi (.var 3) .tuple))) (.one (.cmp .ne (.idx (.var 3) (.cint 0)) (.cstr "link")))) [.ret (.cnon)] [], .ret (.call i_row_of s_row_of_3 (.cons (.var 0) (.cons (.idx (.var 3) (.cint 1)) (.cons (.idx (.var 3) (.cint 2)) .nil))) (.nil))]
def f_linked_row : Mp.Fn := ⟨3, 4, b_linked_row⟩
/-! measure_of [store, job, row, word, table, rest] -/
def b_measure_of : List S := [.star [.nm 3, .nm 4] 5 (.var 1), .ifs (.cmp .eq (.var 3) (.cstr "put")) [.ret (.cint 1)] [], .ifs (.cmp .eq (.var 3) (.cstr "index")) [.ret (.bin .add (.cint 1) (.blt .len (.cons (.call i_rows_of s_rows_of_2 (.cons (.var 0) (.cons (.var 4) .nil)) (.nil)) .nil)))] [], .ifs (.cmp .in_ (.var 3) (.glob g_OF_MANY_measures)) [.ret (.bin .add (.cint 1) (.blt .len (.cons (.idx (.call i_looked_at s_looked_at_2 (.cons (.var 0) (.cons (.var 1) .nil)) (.nil)) (.cint 1)) .nil)))] [], .asg (.nm 2) (.call i_row_of s_row_of_3 (.cons (.var 0) (.cons (.var 4) (.cons (.idx (.var 5) (.cint 0)) .nil))) (.nil)), .ifs (.cmp .is_ (.var 2) (.cnon)) [.ret (.cint 1)] [], .ret (.ife (.and (.cmp .eq (.var 3) (.cstr "follow")) (.one (.cmp .isnot (.call i_linked_row s_linked_row_3 (.cons (.var 0) (.cons (.var 2) (.cons (.idx (.var 5) (.cint 1)) .nil))) (.nil)) (.cnon)))) (.cint 3) (.cint 2))]
def f_measure_of : Mp.Fn := ⟨2, 6, b_measure_of⟩
/-! life_of [store] -/
def b_life_of : List S := [.ret (.tup (.cons (.var 0) (.cons (.tup (.nil)) (.cons (.glob g_NOUGHT) (.cons (.cnon) (.cons (.cint 0) .nil))))))]
def f_life_of : Mp.Fn := ⟨1, 1, b_life_of⟩
/-! handed_in [life, job, store, queue, tokens, owed, later] -/
def b_handed_in : List S := [.asg (.tp [.nm 2, .nm 3, .nm 4, .nm 5, .nm 6]) (.var 0), .ret (.tup (.cons (.var 2) (.cons (.bin .add (.var 3) (.tup (.cons (.tup (.cons (.var 6) (.cons (.var 1) .nil))) .nil))) (.cons (.var 4) (.cons (.var 5) (.cons (.bin .add (.var 6) (.cint 1)) .nil))))))]
def f_handed_in : Mp.Fn := ⟨2, 7, b_handed_in⟩
/-! with_tokens [life, tokens] -/
def b_with_tokens : List S := [.ret (.bin .add (.bin .add (.slc (.var 0) .non (.som (.cint 2))) (.tup (.cons (.var 1) .nil))) (.slc (.var 0) (.som (.cint 3)) .non))]
def f_with_tokens : Mp.Fn := ⟨2, 2, b_with_tokens⟩
/-! with_store [life, store] -/
def b_with_store : List S := [.ret (.bin .add (.tup (.cons (.var 1) .nil)) (.slc (.var 0) (.som (.cint 1)) .non))]
def f_with_store : Mp.Fn := ⟨2, 2, b_with_store⟩
/-! begun_cost [life, store, queue, tokens, owed, later] -/
def b_begun_cost : List S := [.asg (.tp [.nm 1, .nm 2, .nm 3, .nm 4, .nm 5]) (.var 0), .ret (.ife (.cmp .is_ (.var 4) (.cnon)) (.call i_measure_of s_measure_of_2 (.cons (.var 1) (.cons (.idx (.idx (.var 2) (.cint 0)) (.cint 1)) .nil)) (.nil)) (.var 4))]
def f_begun_cost : Mp.Fn := ⟨1, 6, b_begun_cost⟩
/-! first_done [life, tick, land, rules, store, queue, tokens, owed, later, number, job, told] -/
def b_first_done : List S := [.asg (.tp [.nm 4, .nm 5, .nm 6, .nm 7, .nm 8]) (.var 0), .asg (.tp [.nm 9, .nm 10]) (.idx (.var 5) (.cint 0)), .asg (.tp [.nm 4, .nm 11]) (.call i_done_job s_done_job_2_tick_land_rules (.cons (.var 4) (.cons (.var 10) .nil)) (.cons (.var 1) (.cons (.var 2) (.cons (.var 3) .nil)))), .ret (.tup (.cons (.tup (.cons (.var 4) (.cons (.slc (.var 5) (.som (.cint 1)) .non) (.cons (.var 6) (.cons (.cnon) (.cons (.var 8) .nil)))))) (.cons (.tup (.cons (.var 9) (.cons (.var 1) (.cons (.var 11) .nil)))) .nil)))]
def f_first_done : Mp.Fn := ⟨4, 12, b_first_done⟩
/-! sliced [life, many, tick, land, rules, given, dones, owed, cost, tokens, own, row] -/
def lb_sliced_1 : List S := [.asg (.nm 8) (.call i_begun_cost s_begun_cost_1 (.cons (.var 0) .nil) (.nil)), .asg (.tp [.nm 9, .nm 10]) (.call i_paid s_paid_2 (.cons (.idx (.var 0) (.cint 2)) (.cons (.ife (.cmp .is_ (.var 1) (.cnon)) (.var 8) (.blt .min (.cons (.var 8) (.cons (.bin .sub (.var 1) (.var 5)) .nil)))) .nil)) (.nil)), .aug 5 .add (.var 10), .asg (.nm 7) (.bin .sub (.var 8) (.var 10)), .asg (.nm 0) (.bin .add (.slc (.var 0) .non (.som (.cint 2))) (.tup (.cons (.var 9) (.cons (.var 7) (.cons (.idx (.var 0) (.cint 4)) .nil))))), .ifs (.cmp .eq (.var 7) (.cint 0)) [.asg (.tp [.nm 0, .nm 11]) (.call i_first_done s_first_done_1_tick_land_rules (.cons (.var 0) .nil) (.cons (.var 2) (.cons (.var 3) (.cons (.var 4) .nil)))), .app 6 (.var 11)] []]
def lt_sliced_1 : T := .and (.cmp .ne (.idx (.var 0) (.cint 1)) (.tup (.nil))) (.one (.cmp .eq (.var 7) (.cint 0)))
def b_sliced : List S := [.row [5, 6, 7] [.v (.cint 0), .o (.nil), .v (.cint 0)], .whil lt_sliced_1 lb_sliced_1, .ret (.tup (.cons (.var 0) (.cons (.var 5) (.cons (.blt .tuple (.cons (.own 6) .nil)) .nil))))]
def f_sliced : Mp.Fn := ⟨5, 12, b_sliced⟩
/-! life_grown [life, share] -/
def b_life_grown : List S := [.ret (.call i_with_tokens s_with_tokens_2 (.cons (.var 0) (.cons (.call i_grown s_grown_2 (.cons (.idx (.var 0) (.cint 2)) (.cons (.var 1) .nil)) (.nil)) .nil)) (.nil))]
def f_life_grown : Mp.Fn := ⟨2, 2, b_life_grown⟩
/-! life_struck [life, tick, rules] -/
def b_life_struck : List S := [.ret (.call i_with_store s_with_store_2 (.cons (.var 0) (.cons (.call i_store_struck s_store_struck_1_rules_tick (.cons (.idx (.var 0) (.cint 0)) .nil) (.cons (.var 2) (.cons (.var 1) .nil))) .nil)) (.nil))]
def f_life_struck : Mp.Fn := ⟨3, 3, b_life_struck⟩
/-! tick_alone [life, share, tick, land, rules, later, given, dones] -/
def b_tick_alone : List S := [.asg (.tp [.nm 5, .nm 6, .nm 7]) (.call i_sliced s_sliced_2_tick_land_rules (.cons (.call i_life_grown s_life_grown_2 (.cons (.var 0) (.cons (.var 1) .nil)) (.nil)) (.cons (.cnon) .nil)) (.cons (.var 2) (.cons (.var 3) (.cons (.var 4) .nil)))), .ret (.tup (.cons (.call i_life_struck s_life_struck_1_tick_rules (.cons (.var 5) .nil) (.cons (.var 2) (.cons (.var 4) .nil))) (.cons (.var 6) (.cons (.var 7) .nil))))]
def f_tick_alone : Mp.Fn := ⟨5, 8, b_tick_alone⟩
/-! run_alone [store, share, handed, ticks, land, rules, tick, life, givens, found, own_tick, job, given, dones] -/
def lb_run_alone_1 : List S := [.ifs (.cmp .eq (.var 10) (.var 6)) [.asg (.nm 7) (.call i_handed_in s_handed_in_2 (.cons (.var 7) (.cons (.var 11) .nil)) (.nil))] []]
def lg_run_alone_1 : G := .tp [.nm 10, .nm 11]
def lb_run_alone_2 : List S := [.forr lg_run_alone_1 (.seq (.var 2)) lb_run_alone_1, .asg (.tp [.nm 7, .nm 12, .nm 13]) (.call i_tick_alone s_tick_alone_2_tick_land_rules (.cons (.var 7) (.cons (.var 1) .nil)) (.cons (.var 6) (.cons (.var 4) (.cons (.var 5) .nil)))), .app 8 (.var 12), .ext 9 (.var 13)]
def lg_run_alone_2 : G := .nm 6
def b_run_alone : List S := [.row [7, 8, 9] [.v (.call i_life_of s_life_of_1 (.cons (.var 0) .nil) (.nil)), .o (.nil), .o (.nil)], .forr lg_run_alone_2 (.rng1 (.var 3)) lb_run_alone_2, .ret (.tup (.cons (.var 7) (.cons (.blt .tuple (.cons (.own 8) .nil)) (.cons (.blt .tuple (.cons (.own 9) .nil)) .nil))))]
def f_run_alone : Mp.Fn := ⟨6, 14, b_run_alone⟩
/-! _law_feed [_law_script] -/
def b__law_feed : List S := [.ret (.dsp ["cells", "at", "left", "count"] (.cons (.blt .list (.cons (.slc (.var 0) .non (.som (.cint 63))) .nil)) (.cons (.cint 0) (.cons (.cint 0) (.cons (.cint 0) .nil)))))]
def f__law_feed : Mp.Fn := ⟨1, 1, b__law_feed⟩
/-! _law_draw [_law_feed_here, _law_many, _law_at, _law_cell, _law_mixed, _law_figure] -/
def b__law_draw : List S := [.setd (.var 0) (.cstr "count") (.bin .add (.dgt (.var 0) (.cstr "count")) (.cint 1)), .ifs (.cmp .gt (.dgt (.var 0) (.cstr "left")) (.cint 0)) [.asg (.nm 5) (.bin .mod (.dgt (.var 0) (.cstr "left")) (.var 1)), .setd (.var 0) (.cstr "left") (.bin .fdiv (.dgt (.var 0) (.cstr "left")) (.var 1)), .ret (.var 5)] [], .asg (.nm 2) (.dgt (.var 0) (.cstr "at")), .setd (.var 0) (.cstr "at") (.bin .add (.var 2) (.cint 1)), .asg (.nm 3) (.ife (.cmp .ne (.dgt (.var 0) (.cstr "cells")) (.lst (.nil))) (.idx (.dgt (.var 0) (.cstr "cells")) (.bin .mod (.var 2) (.blt .len (.cons (.dgt (.var 0) (.cstr "cells")) .nil)))) (.cint 31)), .ifs (.and (.cmp .ge (.var 3) (.bin .pow (.cint 10) (.cint 18))) (.one (.cmp .lt (.var 2) (.blt .len (.cons (.dgt (.var 0) (.cstr "cells")) .nil))))) [.setd (.var 0) (.cstr "left") (.bin .fdiv (.var 3) (.var 1)), .ret (.bin .mod (.var 3) (.var 1))] [], .asg (.nm 4) (.bin .mod (.bin .add (.bin .add (.bin .mod (.var 3) (.cint 1000000403)) (.bin .mul (.cint 80209) (.dgt (.var 0) (.cstr "count")))) (.cint 83)) (.cint 2147483563)), .asg (.nm 4) (.bin .mod (.bin .add (.bin .add (.bin .mul (.var 4) (.var 4)) (.bin .mul (.cint 5928373) (.dgt (.var 0) (.cstr "count")))) (.cint 53)) (.cint 2147483543)), .ret (.bin .mod (.bin .fdiv (.bin .mod (.bin .add (.bin .mul (.var 4) (.var 4)) (.bin .mul (.cint 43) (.var 4))) (.cint 2147483489)) (.cint 16)) (.var 1))]
def f__law_draw : Mp.Fn := ⟨2, 6, b__law_draw⟩
/-! _law_share [_law_feed_here, _law_some] -/
def b__law_share : List S := [.asg (.nm 1) (.lst (.cons (.tup (.cons (.cint 1) (.cons (.cint 2) .nil))) (.cons (.tup (.cons (.cint 1) (.cons (.cint 1) .nil))) (.cons (.tup (.cons (.cint 3) (.cons (.cint 2) .nil))) (.cons (.tup (.cons (.cint 2) (.cons (.cint 1) .nil))) (.cons (.tup (.cons (.cint 5) (.cons (.cint 3) .nil))) (.cons (.tup (.cons (.cint 7) (.cons (.cint 4) .nil))) (.cons (.tup (.cons (.cint 0) (.cons (.cint 1) .nil))) (.cons (.tup (.cons (.cint 1) (.cons (.cint 3) .nil))) (.cons (.tup (.cons (.cint 3) (.cons (.cint 1) .nil))) .nil)))))))))), .ret (.tup (.cons (.idx (.var 1) (.call i__law_draw s__law_draw_2 (.cons (.var 0) (.cons (.cint 9) .nil)) (.nil))) (.cons (.bin .add (.cint 1) (.call i__law_draw s__law_draw_2 (.cons (.var 0) (.cons (.cint 6) .nil)) (.nil))) .nil)))]
def f__law_share : Mp.Fn := ⟨1, 2, b__law_share⟩
/-! _law_sums_right [_law_share_here, _law_held, _law_span, _law_rows, _law_k, _law_goal, _law_lap] -/
def lb__law_sums_right_1 : List S := [.asg (.nm 5) (.call i_added s_added_2 (.cons (.var 5) (.cons (.idx (.var 0) (.cint 0)) .nil)) (.nil))]
def lg__law_sums_right_1 : G := .nm 6
def lb__law_sums_right_2 : List S := [.asg (.nm 5) (.var 1), .forr lg__law_sums_right_1 (.rng1 (.var 4)) lb__law_sums_right_1, .ifs (.cmp .ne (.blt .sum (.cons (.slc (.var 3) .non (.som (.var 4))) .nil)) (.call i_wholes s_wholes_1 (.cons (.var 5) .nil) (.nil))) [.ret (.cbl false)] []]
def lg__law_sums_right_2 : G := .nm 4
def b__law_sums_right : List S := [.asg (.nm 3) (.call i_pace_of s_pace_of_2_tokens (.cons (.var 0) (.cons (.var 2) .nil)) (.cons (.var 1) .nil)), .forr lg__law_sums_right_2 (.rng1 (.bin .add (.var 2) (.cint 1))) lb__law_sums_right_2, .ret (.cbl true)]
def f__law_sums_right : Mp.Fn := ⟨3, 7, b__law_sums_right⟩
/-! _law_cut_right [_law_share_here, _law_held, _law_span, _law_at, _law_lap, _law_rows, _law_tail] -/
def lb__law_cut_right_1 : List S := [.asg (.nm 6) (.call i_grown s_grown_2 (.cons (.var 6) (.cons (.var 0) .nil)) (.nil)), .asg (.nm 6) (.idx (.call i_paid s_paid_2 (.cons (.var 6) (.cons (.call i_wholes s_wholes_1 (.cons (.var 6) .nil) (.nil)) .nil)) (.nil)) (.cint 0))]
def lg__law_cut_right_1 : G := .nm 4
def b__law_cut_right : List S := [.par 5 6 (.call i_pace_of s_pace_of_2_tokens (.cons (.var 0) (.cons (.var 2) .nil)) (.cons (.var 1) .nil)) (.var 1), .forr lg__law_cut_right_1 (.rng1 (.var 3)) lb__law_cut_right_1, .ret (.cmp .eq (.bin .add (.slc (.var 5) .non (.som (.var 3))) (.call i_pace_of s_pace_of_2_tokens (.cons (.var 0) (.cons (.bin .sub (.var 2) (.var 3)) .nil)) (.cons (.var 6) .nil))) (.var 5))]
def f__law_cut_right : Mp.Fn := ⟨4, 7, b__law_cut_right⟩
/-! law [_law_script, _law_feed_here, _law_lap, _law_under, _law_held, _law_jobs, _law_rows, _law_share_here, _law_span, _law_life, _law_givens, _law_dones, _law_k] -/
def co_law_1 : List (Str × Nat) := [("_law_k", 12)]
def cg_law_1 : G := .nm 12
def ct_law_1 : Ts := .nil
def ce_law_1 : E := .tup (.cons (.cint 0) (.cons (.tup (.cons (.cstr "count") (.cons (.cstr "emp") (.cons (.tup (.nil)) .nil)))) .nil))
def lb_law_1 : List S := [.par 7 8 (.call i__law_share s__law_share_1 (.cons (.var 1) .nil) (.nil)) (.call i__law_draw s__law_draw_2 (.cons (.var 1) (.cons (.cint 13) .nil)) (.nil)), .asg (.nm 3) (.bin .add (.cint 2) (.call i__law_draw s__law_draw_2 (.cons (.var 1) (.cons (.cint 5) .nil)) (.nil))), .asg (.nm 4) (.call i_ratio s_ratio_2 (.cons (.call i__law_draw s__law_draw_2 (.cons (.var 1) (.cons (.var 3) .nil)) (.nil)) (.cons (.var 3) .nil)) (.nil)), .ifs (.and (.not (.val (.call i_is_less s_is_less_2 (.cons (.tup (.cons (.idx (.var 7) (.cint 1)) (.cons (.cint 1) .nil))) (.cons (.call i_added s_added_2 (.cons (.idx (.var 7) (.cint 0)) (.cons (.tup (.cons (.cint 1) (.cons (.cint 1) .nil))) .nil)) (.nil)) .nil)) (.nil)))) (.one (.not (.val (.call i__law_sums_right s__law_sums_right_3 (.cons (.var 7) (.cons (.var 4) (.cons (.var 8) .nil))) (.nil)))))) [.ret (.cbl false)] [], .ifs (.not (.val (.call i__law_cut_right s__law_cut_right_4 (.cons (.var 7) (.cons (.var 4) (.cons (.var 8) (.cons (.call i__law_draw s__law_draw_2 (.cons (.var 1) (.cons (.bin .add (.var 8) (.cint 1)) .nil)) (.nil)) .nil)))) (.nil)))) [.ret (.cbl false)] [], .asg (.nm 5) (.blt .tuple (.cons (.comp cg_law_1 co_law_1 (.rng1 (.cint 40)) ct_law_1 ce_law_1) .nil)), .asg (.tp [.nm 9, .nm 10, .nm 11]) (.call i_run_alone s_run_alone_3_ticks_land (.cons (.tup (.nil)) (.cons (.var 7) (.cons (.var 5) .nil))) (.cons (.var 8) (.cons (.cstr "eu") .nil))), .asg (.nm 6) (.call i_pace_of s_pace_of_2 (.cons (.var 7) (.cons (.var 8) .nil)) (.nil)), .ifs (.and (.cmp .lt (.blt .sum (.cons (.var 6) .nil)) (.cint 40)) (.one (.or (.cmp .ne (.blt .repr (.cons (.var 10) .nil)) (.blt .repr (.cons (.var 6) .nil))) (.one (.cmp .ne (.blt .len (.cons (.var 11) .nil)) (.blt .sum (.cons (.var 6) .nil))))))) [.ret (.cbl false)] []]
def lg_law_1 : G := .nm 2
def b_law : List S := [.asg (.nm 1) (.call i__law_feed s__law_feed_1 (.cons (.var 0) .nil) (.nil)), .forr lg_law_1 (.rng1 (.cint 8)) lb_law_1, .ret (.cbl true)]
def f_law : Mp.Fn := ⟨1, 13, b_law⟩
def shs : List (List Shp) := (List.append [[⟨1, [], [], [0]⟩], [⟨1, [], [], [0]⟩], [⟨2, [], [], [0, 1]⟩], [⟨2, [], [], [0, 1]⟩], [⟨2, [], [], [0, 1]⟩], [⟨2, [], [], [0, 1]⟩], [⟨1, [], [], [0]⟩], [⟨2, [], [], [0, 1]⟩], [⟨2, [], [], [0, 1]⟩], [⟨2, ["tokens"], [], [0, 1, 2]⟩, ⟨2, [], [("tokens", .tup [.int 0, .int 1])], [0, 1, 2]⟩], [⟨3, [], [], [0, 1, 2]⟩], [⟨3, [], [], [0, 1, 2]⟩], [⟨3, [], [], [0, 1, 2]⟩], [⟨1, ["rules", "tick"], [], [0, 1, 2]⟩], [⟨1, [], [], [0]⟩], [⟨2, [], [], [0, 1]⟩], [⟨2, [], [], [0, 1]⟩], [⟨2, [], [], [0, 1]⟩], [⟨3, [], [], [0, 1, 2]⟩], [⟨3, [], [], [0, 1, 2]⟩], [⟨3, [], [], [0, 1, 2]⟩], [⟨2, [], [], [0, 1]⟩], [⟨2, [], [], [0, 1]⟩], [⟨3, [], [], [0, 1, 2]⟩], [⟨2, [], [], [0, 1]⟩], [⟨2, [], [], [0, 1]⟩], [⟨2, [], [], [0, 1]⟩], [⟨3, [], [], [0, 1, 2]⟩], [⟨2, [], [], [0, 1]⟩], [⟨2, [], [], [0, 1]⟩]] [[⟨2, [], [], [0, 1]⟩], [⟨3, [], [], [0, 1, 2]⟩], [⟨3, [], [], [0, 1, 2]⟩], [⟨2, [], [], [0, 1]⟩], [⟨5, [], [], [0, 1, 2, 3, 4]⟩], [⟨5, [], [], [0, 1, 2, 3, 4]⟩], [⟨2, ["tick", "land", "rules"], [], [0, 1, 2, 3, 4]⟩], [⟨1, [], [], [0]⟩], [⟨2, [], [], [0, 1]⟩], [⟨2, [], [], [0, 1]⟩], [⟨3, [], [], [0, 1, 2]⟩], [⟨2, [], [], [0, 1]⟩], [⟨1, [], [], [0]⟩], [⟨2, [], [], [0, 1]⟩], [⟨2, [], [], [0, 1]⟩], [⟨2, [], [], [0, 1]⟩], [⟨1, [], [], [0]⟩], [⟨1, ["tick", "land", "rules"], [], [0, 1, 2, 3]⟩], [⟨2, ["tick", "land", "rules"], [], [0, 1, 2, 3, 4]⟩], [⟨2, [], [], [0, 1]⟩], [⟨1, ["tick", "rules"], [], [0, 1, 2]⟩], [⟨2, ["tick", "land", "rules"], [], [0, 1, 2, 3, 4]⟩], [⟨3, ["ticks", "land"], [("rules", .tup [])], [0, 1, 2, 4, 5, 3]⟩], [⟨1, [], [], [0]⟩], [⟨2, [], [], [0, 1]⟩], [⟨1, [], [], [0]⟩], [⟨3, [], [], [0, 1, 2]⟩], [⟨4, [], [], [0, 1, 2, 3]⟩], [⟨1, [], [], [0]⟩]])
def cs : List D := [.tup [.int 0, .tup [], .tup []], .tup [.str "set", .str "add", .str "follow"], .tup [.str "set", .str "add", .str "drop", .str "get", .str "follow"], .tup [.str "rows", .str "count", .str "sum"], .tup [.str "get", .str "follow"], .tup [.str "rows", .str "count", .str "sum"], .tup [.int 0, .int 1]]
def txt : Txt := ⟨["VOID", "OF_WORTH", "OF_ONE", "OF_MANY_jobs", "OF_SOME", "OF_MANY_measures", "NOUGHT"], (List.append ["is_whole", "is_number", "ratio", "added", "is_less", "lesser", "wholes", "grown", "paid", "pace_of", "ticks_by", "is_kept", "is_due", "store_struck", "tables_of", "parts_of", "rows_of", "indexes_of", "row_of", "with_parts", "with_rows", "meets_one", "meets", "meeting", "sum_of", "answered_of", "answered_at", "put_done", "turned_done", "drop_done"] ["index_done", "deed_done", "worth_refusal", "row_refusal", "rule_refusal", "refusal_of", "done_job", "conds_of", "index_at", "looked_at", "linked_row", "measure_of", "life_of", "handed_in", "with_tokens", "with_store", "begun_cost", "first_done", "sliced", "life_grown", "life_struck", "tick_alone", "run_alone", "_law_feed", "_law_draw", "_law_share", "_law_sums_right", "_law_cut_right", "law"]), ["all", "bool", "enumerate", "int", "isinstance", "len", "list", "min", "range", "repr", "sorted", "sum", "tuple"], ksOf shs⟩
def fnl : List Mp.Fn := (List.append [f_is_whole, f_is_number, f_ratio, f_added, f_is_less, f_lesser, f_wholes, f_grown, f_paid, f_pace_of, f_ticks_by, f_is_kept, f_is_due, f_store_struck, f_tables_of, f_parts_of, f_rows_of, f_indexes_of, f_row_of, f_with_parts, f_with_rows, f_meets_one, f_meets, f_meeting, f_sum_of, f_answered_of, f_answered_at, f_put_done, f_turned_done, f_drop_done] [f_index_done, f_deed_done, f_worth_refusal, f_row_refusal, f_rule_refusal, f_refusal_of, f_done_job, f_conds_of, f_index_at, f_looked_at, f_linked_row, f_measure_of, f_life_of, f_handed_in, f_with_tokens, f_with_store, f_begun_cost, f_first_done, f_sliced, f_life_grown, f_life_struck, f_tick_alone, f_run_alone, f__law_feed, f__law_draw, f__law_share, f__law_sums_right, f__law_cut_right, f_law])
noncomputable def cal (n f : Nat) (args : List D) (M : Sto) : Res D := callF fnl (fun i => cs.getD i .non) (arrOf shs) n f args M
noncomputable def C (n : Nat) : Cal := ⟨cal n, fun i => cs.getD i .non, arrOf shs⟩
theorem C_cal (n : Nat) : (C n).cal = cal n := id rfl
theorem C_arr (n : Nat) : (C n).arr = arrOf shs := id rfl
theorem C_gl (n : Nat) : (C n).gl = fun i => cs.getD i .non := id rfl
theorem st_is_whole (n : Nat) (a0 : D) (M : Sto) : cal (n + 1) i_is_whole [a0] M = gcR M (fin (evSs (C n) b_is_whole [.val a0] M)) := id rfl
theorem as_is_whole_1 (x0 : D) : arrOf shs i_is_whole s_is_whole_1 [x0] [] = some [x0] := id rfl
theorem st_is_number (n : Nat) (a0 : D) (M : Sto) : cal (n + 1) i_is_number [a0] M = gcR M (fin (evSs (C n) b_is_number [.val a0] M)) := id rfl
theorem as_is_number_1 (x0 : D) : arrOf shs i_is_number s_is_number_1 [x0] [] = some [x0] := id rfl
theorem st_ratio (n : Nat) (a0 a1 : D) (M : Sto) : cal (n + 1) i_ratio [a0, a1] M = gcR M (fin (evSs (C n) b_ratio [.val a0, .val a1, .non, .non] M)) := id rfl
theorem as_ratio_2 (x0 x1 : D) : arrOf shs i_ratio s_ratio_2 [x0, x1] [] = some [x0, x1] := id rfl
theorem st_added (n : Nat) (a0 a1 : D) (M : Sto) : cal (n + 1) i_added [a0, a1] M = gcR M (fin (evSs (C n) b_added [.val a0, .val a1] M)) := id rfl
theorem as_added_2 (x0 x1 : D) : arrOf shs i_added s_added_2 [x0, x1] [] = some [x0, x1] := id rfl
theorem st_is_less (n : Nat) (a0 a1 : D) (M : Sto) : cal (n + 1) i_is_less [a0, a1] M = gcR M (fin (evSs (C n) b_is_less [.val a0, .val a1] M)) := id rfl
theorem as_is_less_2 (x0 x1 : D) : arrOf shs i_is_less s_is_less_2 [x0, x1] [] = some [x0, x1] := id rfl
theorem st_lesser (n : Nat) (a0 a1 : D) (M : Sto) : cal (n + 1) i_lesser [a0, a1] M = gcR M (fin (evSs (C n) b_lesser [.val a0, .val a1] M)) := id rfl
theorem as_lesser_2 (x0 x1 : D) : arrOf shs i_lesser s_lesser_2 [x0, x1] [] = some [x0, x1] := id rfl
theorem st_wholes (n : Nat) (a0 : D) (M : Sto) : cal (n + 1) i_wholes [a0] M = gcR M (fin (evSs (C n) b_wholes [.val a0] M)) := id rfl
theorem as_wholes_1 (x0 : D) : arrOf shs i_wholes s_wholes_1 [x0] [] = some [x0] := id rfl
theorem st_grown (n : Nat) (a0 a1 : D) (M : Sto) : cal (n + 1) i_grown [a0, a1] M = gcR M (fin (evSs (C n) b_grown [.val a0, .val a1] M)) := id rfl
theorem as_grown_2 (x0 x1 : D) : arrOf shs i_grown s_grown_2 [x0, x1] [] = some [x0, x1] := id rfl
theorem st_paid (n : Nat) (a0 a1 : D) (M : Sto) : cal (n + 1) i_paid [a0, a1] M = gcR M (fin (evSs (C n) b_paid [.val a0, .val a1, .non] M)) := id rfl
theorem as_paid_2 (x0 x1 : D) : arrOf shs i_paid s_paid_2 [x0, x1] [] = some [x0, x1] := id rfl
theorem st_pace_of (n : Nat) (a0 a1 a2 : D) (M : Sto) : cal (n + 1) i_pace_of [a0, a1, a2] M = gcR M (fin (evSs (C n) b_pace_of [.val a0, .val a1, .val a2, .non, .non, .non] M)) := id rfl
theorem as_pace_of_2_tokens (x0 x1 z0 : D) : arrOf shs i_pace_of s_pace_of_2_tokens [x0, x1] [z0] = some [x0, x1, z0] := id rfl
theorem as_pace_of_2 (x0 x1 : D) : arrOf shs i_pace_of s_pace_of_2 [x0, x1] [] = some [x0, x1, .tup [.int 0, .int 1]] := id rfl
theorem st_ticks_by (n : Nat) (a0 a1 a2 : D) (M : Sto) : cal (n + 1) i_ticks_by [a0, a1, a2] M = gcR M (fin (evSs (C n) b_ticks_by [.val a0, .val a1, .val a2, .non] M)) := id rfl
theorem as_ticks_by_3 (x0 x1 x2 : D) : arrOf shs i_ticks_by s_ticks_by_3 [x0, x1, x2] [] = some [x0, x1, x2] := id rfl
theorem st_is_kept (n : Nat) (a0 a1 a2 : D) (M : Sto) : cal (n + 1) i_is_kept [a0, a1, a2] M = gcR M (fin (evSs (C n) b_is_kept [.val a0, .val a1, .val a2, .non] M)) := id rfl
theorem as_is_kept_3 (x0 x1 x2 : D) : arrOf shs i_is_kept s_is_kept_3 [x0, x1, x2] [] = some [x0, x1, x2] := id rfl
theorem st_is_due (n : Nat) (a0 a1 a2 : D) (M : Sto) : cal (n + 1) i_is_due [a0, a1, a2] M = gcR M (fin (evSs (C n) b_is_due [.val a0, .val a1, .val a2, .non] M)) := id rfl
theorem as_is_due_3 (x0 x1 x2 : D) : arrOf shs i_is_due s_is_due_3 [x0, x1, x2] [] = some [x0, x1, x2] := id rfl
theorem st_store_struck (n : Nat) (a0 a1 a2 : D) (M : Sto) : cal (n + 1) i_store_struck [a0, a1, a2] M = gcR M (fin (evSs (C n) b_store_struck [.val a0, .val a1, .val a2, .non, .non, .non, .non, .non, .non] M)) := id rfl
theorem as_store_struck_1_rules_tick (x0 z0 z1 : D) : arrOf shs i_store_struck s_store_struck_1_rules_tick [x0] [z0, z1] = some [x0, z0, z1] := id rfl
theorem st_tables_of (n : Nat) (a0 : D) (M : Sto) : cal (n + 1) i_tables_of [a0] M = gcR M (fin (evSs (C n) b_tables_of [.val a0, .non] M)) := id rfl
theorem as_tables_of_1 (x0 : D) : arrOf shs i_tables_of s_tables_of_1 [x0] [] = some [x0] := id rfl
theorem st_parts_of (n : Nat) (a0 a1 : D) (M : Sto) : cal (n + 1) i_parts_of [a0, a1] M = gcR M (fin (evSs (C n) b_parts_of [.val a0, .val a1, .non, .non, .non, .non] M)) := id rfl
theorem as_parts_of_2 (x0 x1 : D) : arrOf shs i_parts_of s_parts_of_2 [x0, x1] [] = some [x0, x1] := id rfl
theorem st_rows_of (n : Nat) (a0 a1 : D) (M : Sto) : cal (n + 1) i_rows_of [a0, a1] M = gcR M (fin (evSs (C n) b_rows_of [.val a0, .val a1] M)) := id rfl
theorem as_rows_of_2 (x0 x1 : D) : arrOf shs i_rows_of s_rows_of_2 [x0, x1] [] = some [x0, x1] := id rfl
theorem st_indexes_of (n : Nat) (a0 a1 : D) (M : Sto) : cal (n + 1) i_indexes_of [a0, a1] M = gcR M (fin (evSs (C n) b_indexes_of [.val a0, .val a1] M)) := id rfl
theorem as_indexes_of_2 (x0 x1 : D) : arrOf shs i_indexes_of s_indexes_of_2 [x0, x1] [] = some [x0, x1] := id rfl
theorem st_row_of (n : Nat) (a0 a1 a2 : D) (M : Sto) : cal (n + 1) i_row_of [a0, a1, a2] M = gcR M (fin (evSs (C n) b_row_of [.val a0, .val a1, .val a2, .non] M)) := id rfl
theorem as_row_of_3 (x0 x1 x2 : D) : arrOf shs i_row_of s_row_of_3 [x0, x1, x2] [] = some [x0, x1, x2] := id rfl
theorem st_with_parts (n : Nat) (a0 a1 a2 : D) (M : Sto) : cal (n + 1) i_with_parts [a0, a1, a2] M = gcR M (fin (evSs (C n) b_with_parts [.val a0, .val a1, .val a2, .non, .non, .non, .non, .non] M)) := id rfl
theorem as_with_parts_3 (x0 x1 x2 : D) : arrOf shs i_with_parts s_with_parts_3 [x0, x1, x2] [] = some [x0, x1, x2] := id rfl
theorem st_with_rows (n : Nat) (a0 a1 a2 : D) (M : Sto) : cal (n + 1) i_with_rows [a0, a1, a2] M = gcR M (fin (evSs (C n) b_with_rows [.val a0, .val a1, .val a2, .non] M)) := id rfl
theorem as_with_rows_3 (x0 x1 x2 : D) : arrOf shs i_with_rows s_with_rows_3 [x0, x1, x2] [] = some [x0, x1, x2] := id rfl
theorem st_meets_one (n : Nat) (a0 a1 : D) (M : Sto) : cal (n + 1) i_meets_one [a0, a1] M = gcR M (fin (evSs (C n) b_meets_one [.val a0, .val a1, .non, .non, .non, .non] M)) := id rfl
theorem as_meets_one_2 (x0 x1 : D) : arrOf shs i_meets_one s_meets_one_2 [x0, x1] [] = some [x0, x1] := id rfl
theorem st_meets (n : Nat) (a0 a1 : D) (M : Sto) : cal (n + 1) i_meets [a0, a1] M = gcR M (fin (evSs (C n) b_meets [.val a0, .val a1, .non] M)) := id rfl
theorem as_meets_2 (x0 x1 : D) : arrOf shs i_meets s_meets_2 [x0, x1] [] = some [x0, x1] := id rfl
theorem st_meeting (n : Nat) (a0 a1 a2 : D) (M : Sto) : cal (n + 1) i_meeting [a0, a1, a2] M = gcR M (fin (evSs (C n) b_meeting [.val a0, .val a1, .val a2, .non] M)) := id rfl
theorem as_meeting_3 (x0 x1 x2 : D) : arrOf shs i_meeting s_meeting_3 [x0, x1, x2] [] = some [x0, x1, x2] := id rfl
theorem st_sum_of (n : Nat) (a0 a1 : D) (M : Sto) : cal (n + 1) i_sum_of [a0, a1] M = gcR M (fin (evSs (C n) b_sum_of [.val a0, .val a1, .non] M)) := id rfl
theorem as_sum_of_2 (x0 x1 : D) : arrOf shs i_sum_of s_sum_of_2 [x0, x1] [] = some [x0, x1] := id rfl
theorem st_answered_of (n : Nat) (a0 a1 : D) (M : Sto) : cal (n + 1) i_answered_of [a0, a1] M = gcR M (fin (evSs (C n) b_answered_of [.val a0, .val a1, .non, .non, .non, .non, .non] M)) := id rfl
theorem as_answered_of_2 (x0 x1 : D) : arrOf shs i_answered_of s_answered_of_2 [x0, x1] [] = some [x0, x1] := id rfl
theorem st_answered_at (n : Nat) (a0 a1 : D) (M : Sto) : cal (n + 1) i_answered_at [a0, a1] M = gcR M (fin (evSs (C n) b_answered_at [.val a0, .val a1, .non, .non, .non, .non, .non, .non, .non, .non] M)) := id rfl
theorem as_answered_at_2 (x0 x1 : D) : arrOf shs i_answered_at s_answered_at_2 [x0, x1] [] = some [x0, x1] := id rfl
theorem st_put_done (n : Nat) (a0 a1 a2 : D) (M : Sto) : cal (n + 1) i_put_done [a0, a1, a2] M = gcR M (fin (evSs (C n) b_put_done [.val a0, .val a1, .val a2, .non, .non, .non, .non, .non, .non, .non, .non] M)) := id rfl
theorem as_put_done_3 (x0 x1 x2 : D) : arrOf shs i_put_done s_put_done_3 [x0, x1, x2] [] = some [x0, x1, x2] := id rfl
theorem st_turned_done (n : Nat) (a0 a1 : D) (M : Sto) : cal (n + 1) i_turned_done [a0, a1] M = gcR M (fin (evSs (C n) b_turned_done [.val a0, .val a1, .non, .non, .non, .non, .non, .non, .non, .non, .non] M)) := id rfl
theorem as_turned_done_2 (x0 x1 : D) : arrOf shs i_turned_done s_turned_done_2 [x0, x1] [] = some [x0, x1] := id rfl
theorem st_drop_done (n : Nat) (a0 a1 : D) (M : Sto) : cal (n + 1) i_drop_done [a0, a1] M = gcR M (fin (evSs (C n) b_drop_done [.val a0, .val a1, .non, .non, .non, .non] M)) := id rfl
theorem as_drop_done_2 (x0 x1 : D) : arrOf shs i_drop_done s_drop_done_2 [x0, x1] [] = some [x0, x1] := id rfl
theorem st_index_done (n : Nat) (a0 a1 : D) (M : Sto) : cal (n + 1) i_index_done [a0, a1] M = gcR M (fin (evSs (C n) b_index_done [.val a0, .val a1, .non, .non, .non, .non, .non, .non, .non] M)) := id rfl
theorem as_index_done_2 (x0 x1 : D) : arrOf shs i_index_done s_index_done_2 [x0, x1] [] = some [x0, x1] := id rfl
theorem st_deed_done (n : Nat) (a0 a1 a2 : D) (M : Sto) : cal (n + 1) i_deed_done [a0, a1, a2] M = gcR M (fin (evSs (C n) b_deed_done [.val a0, .val a1, .val a2] M)) := id rfl
theorem as_deed_done_3 (x0 x1 x2 : D) : arrOf shs i_deed_done s_deed_done_3 [x0, x1, x2] [] = some [x0, x1, x2] := id rfl
theorem st_worth_refusal (n : Nat) (a0 a1 a2 : D) (M : Sto) : cal (n + 1) i_worth_refusal [a0, a1, a2] M = gcR M (fin (evSs (C n) b_worth_refusal [.val a0, .val a1, .val a2, .non, .non, .non, .non, .non, .non] M)) := id rfl
theorem as_worth_refusal_3 (x0 x1 x2 : D) : arrOf shs i_worth_refusal s_worth_refusal_3 [x0, x1, x2] [] = some [x0, x1, x2] := id rfl
theorem st_row_refusal (n : Nat) (a0 a1 : D) (M : Sto) : cal (n + 1) i_row_refusal [a0, a1] M = gcR M (fin (evSs (C n) b_row_refusal [.val a0, .val a1, .non] M)) := id rfl
theorem as_row_refusal_2 (x0 x1 : D) : arrOf shs i_row_refusal s_row_refusal_2 [x0, x1] [] = some [x0, x1] := id rfl
theorem st_rule_refusal (n : Nat) (a0 a1 a2 a3 a4 : D) (M : Sto) : cal (n + 1) i_rule_refusal [a0, a1, a2, a3, a4] M = gcR M (fin (evSs (C n) b_rule_refusal [.val a0, .val a1, .val a2, .val a3, .val a4] M)) := id rfl
theorem as_rule_refusal_5 (x0 x1 x2 x3 x4 : D) : arrOf shs i_rule_refusal s_rule_refusal_5 [x0, x1, x2, x3, x4] [] = some [x0, x1, x2, x3, x4] := id rfl
theorem st_refusal_of (n : Nat) (a0 a1 a2 a3 a4 : D) (M : Sto) : cal (n + 1) i_refusal_of [a0, a1, a2, a3, a4] M = gcR M (fin (evSs (C n) b_refusal_of [.val a0, .val a1, .val a2, .val a3, .val a4, .non] M)) := id rfl
theorem as_refusal_of_5 (x0 x1 x2 x3 x4 : D) : arrOf shs i_refusal_of s_refusal_of_5 [x0, x1, x2, x3, x4] [] = some [x0, x1, x2, x3, x4] := id rfl
theorem st_done_job (n : Nat) (a0 a1 a2 a3 a4 : D) (M : Sto) : cal (n + 1) i_done_job [a0, a1, a2, a3, a4] M = gcR M (fin (evSs (C n) b_done_job [.val a0, .val a1, .val a2, .val a3, .val a4, .non] M)) := id rfl
theorem as_done_job_2_tick_land_rules (x0 x1 z0 z1 z2 : D) : arrOf shs i_done_job s_done_job_2_tick_land_rules [x0, x1] [z0, z1, z2] = some [x0, x1, z0, z1, z2] := id rfl
theorem st_conds_of (n : Nat) (a0 : D) (M : Sto) : cal (n + 1) i_conds_of [a0] M = gcR M (fin (evSs (C n) b_conds_of [.val a0] M)) := id rfl
theorem as_conds_of_1 (x0 : D) : arrOf shs i_conds_of s_conds_of_1 [x0] [] = some [x0] := id rfl
theorem st_index_at (n : Nat) (a0 a1 : D) (M : Sto) : cal (n + 1) i_index_at [a0, a1] M = gcR M (fin (evSs (C n) b_index_at [.val a0, .val a1, .non, .non, .non, .non] M)) := id rfl
theorem as_index_at_2 (x0 x1 : D) : arrOf shs i_index_at s_index_at_2 [x0, x1] [] = some [x0, x1] := id rfl
theorem st_looked_at (n : Nat) (a0 a1 : D) (M : Sto) : cal (n + 1) i_looked_at [a0, a1] M = gcR M (fin (evSs (C n) b_looked_at [.val a0, .val a1, .non, .non] M)) := id rfl
theorem as_looked_at_2 (x0 x1 : D) : arrOf shs i_looked_at s_looked_at_2 [x0, x1] [] = some [x0, x1] := id rfl
theorem st_linked_row (n : Nat) (a0 a1 a2 : D) (M : Sto) : cal (n + 1) i_linked_row [a0, a1, a2] M = gcR M (fin (evSs (C n) b_linked_row [.val a0, .val a1, .val a2, .non] M)) := id rfl
theorem as_linked_row_3 (x0 x1 x2 : D) : arrOf shs i_linked_row s_linked_row_3 [x0, x1, x2] [] = some [x0, x1, x2] := id rfl
theorem st_measure_of (n : Nat) (a0 a1 : D) (M : Sto) : cal (n + 1) i_measure_of [a0, a1] M = gcR M (fin (evSs (C n) b_measure_of [.val a0, .val a1, .non, .non, .non, .non] M)) := id rfl
theorem as_measure_of_2 (x0 x1 : D) : arrOf shs i_measure_of s_measure_of_2 [x0, x1] [] = some [x0, x1] := id rfl
theorem st_life_of (n : Nat) (a0 : D) (M : Sto) : cal (n + 1) i_life_of [a0] M = gcR M (fin (evSs (C n) b_life_of [.val a0] M)) := id rfl
theorem as_life_of_1 (x0 : D) : arrOf shs i_life_of s_life_of_1 [x0] [] = some [x0] := id rfl
theorem st_handed_in (n : Nat) (a0 a1 : D) (M : Sto) : cal (n + 1) i_handed_in [a0, a1] M = gcR M (fin (evSs (C n) b_handed_in [.val a0, .val a1, .non, .non, .non, .non, .non] M)) := id rfl
theorem as_handed_in_2 (x0 x1 : D) : arrOf shs i_handed_in s_handed_in_2 [x0, x1] [] = some [x0, x1] := id rfl
theorem st_with_tokens (n : Nat) (a0 a1 : D) (M : Sto) : cal (n + 1) i_with_tokens [a0, a1] M = gcR M (fin (evSs (C n) b_with_tokens [.val a0, .val a1] M)) := id rfl
theorem as_with_tokens_2 (x0 x1 : D) : arrOf shs i_with_tokens s_with_tokens_2 [x0, x1] [] = some [x0, x1] := id rfl
theorem st_with_store (n : Nat) (a0 a1 : D) (M : Sto) : cal (n + 1) i_with_store [a0, a1] M = gcR M (fin (evSs (C n) b_with_store [.val a0, .val a1] M)) := id rfl
theorem as_with_store_2 (x0 x1 : D) : arrOf shs i_with_store s_with_store_2 [x0, x1] [] = some [x0, x1] := id rfl
theorem st_begun_cost (n : Nat) (a0 : D) (M : Sto) : cal (n + 1) i_begun_cost [a0] M = gcR M (fin (evSs (C n) b_begun_cost [.val a0, .non, .non, .non, .non, .non] M)) := id rfl
theorem as_begun_cost_1 (x0 : D) : arrOf shs i_begun_cost s_begun_cost_1 [x0] [] = some [x0] := id rfl
theorem st_first_done (n : Nat) (a0 a1 a2 a3 : D) (M : Sto) : cal (n + 1) i_first_done [a0, a1, a2, a3] M = gcR M (fin (evSs (C n) b_first_done [.val a0, .val a1, .val a2, .val a3, .non, .non, .non, .non, .non, .non, .non, .non] M)) := id rfl
theorem as_first_done_1_tick_land_rules (x0 z0 z1 z2 : D) : arrOf shs i_first_done s_first_done_1_tick_land_rules [x0] [z0, z1, z2] = some [x0, z0, z1, z2] := id rfl
theorem st_sliced (n : Nat) (a0 a1 a2 a3 a4 : D) (M : Sto) : cal (n + 1) i_sliced [a0, a1, a2, a3, a4] M = gcR M (fin (evSs (C n) b_sliced [.val a0, .val a1, .val a2, .val a3, .val a4, .non, .non, .non, .non, .non, .non, .non] M)) := id rfl
theorem as_sliced_2_tick_land_rules (x0 x1 z0 z1 z2 : D) : arrOf shs i_sliced s_sliced_2_tick_land_rules [x0, x1] [z0, z1, z2] = some [x0, x1, z0, z1, z2] := id rfl
theorem st_life_grown (n : Nat) (a0 a1 : D) (M : Sto) : cal (n + 1) i_life_grown [a0, a1] M = gcR M (fin (evSs (C n) b_life_grown [.val a0, .val a1] M)) := id rfl
theorem as_life_grown_2 (x0 x1 : D) : arrOf shs i_life_grown s_life_grown_2 [x0, x1] [] = some [x0, x1] := id rfl
theorem st_life_struck (n : Nat) (a0 a1 a2 : D) (M : Sto) : cal (n + 1) i_life_struck [a0, a1, a2] M = gcR M (fin (evSs (C n) b_life_struck [.val a0, .val a1, .val a2] M)) := id rfl
theorem as_life_struck_1_tick_rules (x0 z0 z1 : D) : arrOf shs i_life_struck s_life_struck_1_tick_rules [x0] [z0, z1] = some [x0, z0, z1] := id rfl
theorem st_tick_alone (n : Nat) (a0 a1 a2 a3 a4 : D) (M : Sto) : cal (n + 1) i_tick_alone [a0, a1, a2, a3, a4] M = gcR M (fin (evSs (C n) b_tick_alone [.val a0, .val a1, .val a2, .val a3, .val a4, .non, .non, .non] M)) := id rfl
theorem as_tick_alone_2_tick_land_rules (x0 x1 z0 z1 z2 : D) : arrOf shs i_tick_alone s_tick_alone_2_tick_land_rules [x0, x1] [z0, z1, z2] = some [x0, x1, z0, z1, z2] := id rfl
theorem st_run_alone (n : Nat) (a0 a1 a2 a3 a4 a5 : D) (M : Sto) : cal (n + 1) i_run_alone [a0, a1, a2, a3, a4, a5] M = gcR M (fin (evSs (C n) b_run_alone [.val a0, .val a1, .val a2, .val a3, .val a4, .val a5, .non, .non, .non, .non, .non, .non, .non, .non] M)) := id rfl
theorem as_run_alone_3_ticks_land (x0 x1 x2 z0 z1 : D) : arrOf shs i_run_alone s_run_alone_3_ticks_land [x0, x1, x2] [z0, z1] = some [x0, x1, x2, z0, z1, .tup []] := id rfl
theorem st__law_feed (n : Nat) (a0 : D) (M : Sto) : cal (n + 1) i__law_feed [a0] M = gcR M (fin (evSs (C n) b__law_feed [.val a0] M)) := id rfl
theorem as__law_feed_1 (x0 : D) : arrOf shs i__law_feed s__law_feed_1 [x0] [] = some [x0] := id rfl
theorem st__law_draw (n : Nat) (a0 a1 : D) (M : Sto) : cal (n + 1) i__law_draw [a0, a1] M = gcR M (fin (evSs (C n) b__law_draw [.val a0, .val a1, .non, .non, .non, .non] M)) := id rfl
theorem as__law_draw_2 (x0 x1 : D) : arrOf shs i__law_draw s__law_draw_2 [x0, x1] [] = some [x0, x1] := id rfl
theorem st__law_share (n : Nat) (a0 : D) (M : Sto) : cal (n + 1) i__law_share [a0] M = gcR M (fin (evSs (C n) b__law_share [.val a0, .non] M)) := id rfl
theorem as__law_share_1 (x0 : D) : arrOf shs i__law_share s__law_share_1 [x0] [] = some [x0] := id rfl
theorem st__law_sums_right (n : Nat) (a0 a1 a2 : D) (M : Sto) : cal (n + 1) i__law_sums_right [a0, a1, a2] M = gcR M (fin (evSs (C n) b__law_sums_right [.val a0, .val a1, .val a2, .non, .non, .non, .non] M)) := id rfl
theorem as__law_sums_right_3 (x0 x1 x2 : D) : arrOf shs i__law_sums_right s__law_sums_right_3 [x0, x1, x2] [] = some [x0, x1, x2] := id rfl
theorem st__law_cut_right (n : Nat) (a0 a1 a2 a3 : D) (M : Sto) : cal (n + 1) i__law_cut_right [a0, a1, a2, a3] M = gcR M (fin (evSs (C n) b__law_cut_right [.val a0, .val a1, .val a2, .val a3, .non, .non, .non] M)) := id rfl
theorem as__law_cut_right_4 (x0 x1 x2 x3 : D) : arrOf shs i__law_cut_right s__law_cut_right_4 [x0, x1, x2, x3] [] = some [x0, x1, x2, x3] := id rfl
theorem st_law (n : Nat) (a0 : D) (M : Sto) : cal (n + 1) i_law [a0] M = gcR M (fin (evSs (C n) b_law [.val a0, .non, .non, .non, .non, .non, .non, .non, .non, .non, .non, .non, .non] M)) := id rfl
theorem gl_VOID : cs.getD g_VOID .non = .tup [.int 0, .tup [], .tup []] := id rfl
theorem gl_OF_WORTH : cs.getD g_OF_WORTH .non = .tup [.str "set", .str "add", .str "follow"] := id rfl
theorem gl_OF_ONE : cs.getD g_OF_ONE .non = .tup [.str "set", .str "add", .str "drop", .str "get", .str "follow"] := id rfl
theorem gl_OF_MANY_jobs : cs.getD g_OF_MANY_jobs .non = .tup [.str "rows", .str "count", .str "sum"] := id rfl
theorem gl_OF_SOME : cs.getD g_OF_SOME .non = .tup [.str "get", .str "follow"] := id rfl
theorem gl_OF_MANY_measures : cs.getD g_OF_MANY_measures .non = .tup [.str "rows", .str "count", .str "sum"] := id rfl
theorem gl_NOUGHT : cs.getD g_NOUGHT .non = .tup [.int 0, .int 1] := id rfl
end Mp.Lw
end

section
set_option Elab.async false
set_option linter.all false
set_option maxRecDepth 100000
set_option maxHeartbeats 0
/-! Things of any kind, with bounds; cuts. -/
namespace Mp
open PySem PySem.Spec
mutual
/-- the greatest int within -/
def mx : D → Nat
  | .int i => i.natAbs
  | .tup ds => mxs ds
  | .lst ds => mxs ds
  | _ => 0
def mxs : List D → Nat
  | [] => 0
  | d :: ds => max (mx d) (mxs ds)
end
mutual
theorem small_mx : ∀ d : D, mx d < 2 ^ 1900 → small? d = true
  | .int i, h => by rw [mx] at h; rw [small?]; exact decide_eq_true h
  | .tup ds, h => by rw [mx] at h; rw [small?]; exact smalls_mx ds h
  | .lst ds, h => by rw [mx] at h; rw [small?]; exact smalls_mx ds h
  | .non, _ => rfl
  | .bl _, _ => rfl
  | .str _, _ => rfl
  | .obj _, _ => rfl
  | .fn _, _ => rfl
theorem smalls_mx : ∀ ds : List D, mxs ds < 2 ^ 1900 → smalls ds = true
  | [], _ => rfl
  | d :: ds, h => by
    rw [mxs] at h
    rw [smalls, small_mx d (by omega), smalls_mx ds (by omega)] <;> rfl
end
structure Tg (k w d : Nat) (x : D) : Prop where
  p : pure? x = true
  m : mx x ≤ 2 ^ 1000 + k
  d : dep x ≤ d
  w : wt x ≤ w
structure Tgs (k w d : Nat) (xs : List D) : Prop where
  p : pures xs = true
  m : mxs xs ≤ 2 ^ 1000 + k
  d : deps xs ≤ d
  w : wts xs ≤ w
section
variable {k w d w' d' k' : Nat} {x : D} {xs ys : List D}
theorem two_pow (h : k ≤ 1000) : 2 ^ 1000 + k < 2 ^ 1900 := by
  have a : (2 : Nat) ^ 1001 ≤ 2 ^ 1900 := Nat.pow_le_pow_right (by decide) (by decide)
  have b : (2 : Nat) ^ 1001 = 2 ^ 1000 + 2 ^ 1000 := by rw [Nat.pow_succ]; omega
  have c : 1000 < (2 : Nat) ^ 1000 := Nat.lt_of_lt_of_le (by decide : 1000 < 2 ^ 10) (Nat.pow_le_pow_right (by decide) (by decide))
  omega
theorem Tg.sw (h : Tg k w d x) (hk : k ≤ 1000) : Sw x w d := ⟨h.p, small_mx x (Nat.lt_of_le_of_lt h.m (two_pow hk)), h.d, h.w⟩
theorem Tg.up (h : Tg k w d x) (h1 : k ≤ k') (h2 : w ≤ w') (h3 : d ≤ d') : Tg k' w' d' x := ⟨h.p, by have := h.m; omega, by have := h.d; omega, by have := h.w; omega⟩
theorem Tgs.up (h : Tgs k w d xs) (h1 : k ≤ k') (h2 : w ≤ w') (h3 : d ≤ d') : Tgs k' w' d' xs := ⟨h.p, by have := h.m; omega, by have := h.d; omega, by have := h.w; omega⟩
theorem Tgs.nil : Tgs k 0 d [] := ⟨rfl, Nat.zero_le _, Nat.zero_le _, Nat.le_refl _⟩
theorem Tgs.cons (h : Tg k w d x) (g : Tgs k w' d xs) : Tgs k (w + 2 + w') d (x :: xs) := by
  refine ⟨by rw [pures, h.p, g.p] <;> rfl, ?_, ?_, ?_⟩
  · rw [mxs]; have := h.m; have := g.m; omega
  · rw [deps]; have := h.d; have := g.d; omega
  · rw [wts]; have := h.w; have := g.w; omega
theorem Tgs.app : ∀ {xs ys : List D} {w w' : Nat}, Tgs k w d xs → Tgs k w' d ys → Tgs k (w + w') d (xs ++ ys)
  | [], ys, w, w', _, g => g.up (Nat.le_refl _) (by omega) (Nat.le_refl _)
  | x :: xs, ys, w, w', h, g => by
    have hp := h.p
    have hm := h.m
    have hd := h.d
    have hw := h.w
    rw [pures, Bool.and_eq_true] at hp
    rw [mxs] at hm
    rw [deps] at hd
    rw [wts] at hw
    have a : Tgs k (w - wt x - 2 + w') d (xs ++ ys) := Tgs.app (w := w - wt x - 2) ⟨hp.2, by omega, by omega, by omega⟩ g
    have b := Tgs.cons (x := x) (w := wt x) ⟨hp.1, by omega, by omega, Nat.le_refl _⟩ a
    exact b.up (Nat.le_refl _) (by omega) (Nat.le_refl _)
theorem Tgs.sub (h : Tgs k w d ys) (s : xs.Sublist ys) : Tgs k w d xs := by
  induction s generalizing w with
  | slnil => exact h
  | cons a s ih =>
    have hp := h.p
    have hm := h.m
    have hd := h.d
    have hw := h.w
    rw [pures, Bool.and_eq_true] at hp
    rw [mxs] at hm
    rw [deps] at hd
    rw [wts] at hw
    exact ih ⟨hp.2, by omega, by omega, by omega⟩
  | cons_cons a s ih =>
    have hp := h.p
    have hm := h.m
    have hd := h.d
    have hw := h.w
    rw [pures, Bool.and_eq_true] at hp
    rw [mxs] at hm
    rw [deps] at hd
    rw [wts] at hw
    have b := Tgs.cons (x := a) (w := wt a) (k := k) (d := d) ⟨hp.1, by omega, by omega, Nat.le_refl _⟩ (ih (w := w - wt a - 2) ⟨hp.2, by omega, by omega, by omega⟩)
    exact b.up (Nat.le_refl _) (by omega) (Nat.le_refl _)
theorem Tgs.mem (h : Tgs k w d xs) (hx : x ∈ xs) : Tg k (w - 2) d x := by
  have a := h.sub (List.singleton_sublist.mpr hx)
  have hp := a.p
  have hm := a.m
  have hd := a.d
  have hw := a.w
  rw [pures, Bool.and_eq_true] at hp
  rw [mxs] at hm
  rw [deps] at hd
  rw [wts] at hw
  exact ⟨hp.1, by omega, by omega, by omega⟩
theorem Tg.tup (h : Tgs k w d xs) : Tg k (w + 3) (d + 1) (.tup xs) := ⟨by rw [pure?]; exact h.p, by rw [mx]; exact h.m, by rw [dep]; have := h.d; omega, by rw [wt]; have := h.w; omega⟩
theorem Tg.lst (h : Tgs k w d xs) : Tg k (w + 3) (d + 1) (.lst xs) := ⟨by rw [pure?]; exact h.p, by rw [mx]; exact h.m, by rw [dep]; have := h.d; omega, by rw [wt]; have := h.w; omega⟩
theorem Tg.tupI (h : Tg k w d (.tup xs)) : Tgs k (w - 3) (d - 1) xs ∧ 3 ≤ w ∧ 1 ≤ d := by
  have hp := h.p
  have hm := h.m
  have hd := h.d
  have hw := h.w
  rw [pure?] at hp
  rw [mx] at hm
  rw [dep] at hd
  rw [wt] at hw
  exact ⟨⟨hp, hm, by omega, by omega⟩, by omega, by omega⟩
theorem Tg.int {i : Int} (h : i.natAbs ≤ 2 ^ 1000 + k) : Tg k 2000 0 (.int i) := ⟨rfl, by rw [mx]; exact h, Nat.le_refl _, Nat.le_refl _⟩
theorem Tg.ints {i : Int} (h : -(2 ^ 400) < i) (h2 : i < 2 ^ 400) : Tg k 2000 0 (.int i) := .int (by
  have : (2 : Nat) ^ 400 ≤ 2 ^ 1000 := Nat.pow_le_pow_right (by decide) (by decide)
  omega)
theorem Tg.bl (b : Bool) : Tg k 5 0 (.bl b) := ⟨rfl, Nat.zero_le _, Nat.le_refl _, Nat.le_refl _⟩
theorem Tg.non : Tg k 5 0 .non := ⟨rfl, Nat.zero_le _, Nat.le_refl _, Nat.le_refl _⟩
theorem Tg.str {s : Str} {l : Nat} (h : PyData.strOk s = true) (hl : s.length ≤ l) : Tg k (10 * l + 2) 0 (.str s) := ⟨by rw [pure?]; exact h, Nat.zero_le _, Nat.le_refl _, by rw [wt]; omega⟩
theorem Tg.isi (h : Tg k w d x) : isiOk x = true := by
  have := h.p
  cases x <;> first | rfl | (rw [pure?] at this; cases this)
theorem cut_sub (l : List D) (lo hi : Option Int) : (cutD l lo hi).Sublist l := (List.take_sublist _ _).trans (List.drop_sublist _ _)
theorem cut_take (l : List D) (n : Nat) : cutD l none (some (n : Int)) = l.take n := by
  unfold cutD
  have e1 : HT.sIx l.length 0 none = 0 := rfl
  rw [e1, HT.sIx_nat, List.drop_zero, Nat.sub_zero]
  by_cases h : n ≤ l.length
  · rw [Nat.min_eq_left h]
  · rw [Nat.min_eq_right (by omega), List.take_length, List.take_of_length_le (by omega)]
theorem cut_drop (l : List D) (n : Nat) : cutD l (some (n : Int)) none = l.drop n := by
  unfold cutD
  have e1 : HT.sIx l.length l.length none = l.length := rfl
  rw [e1, HT.sIx_nat]
  by_cases h : n ≤ l.length
  · rw [Nat.min_eq_left h, List.take_of_length_le (by rw [List.length_drop]; omega)]
  · rw [Nat.min_eq_right (by omega), List.drop_length, List.drop_of_length_le (by omega), List.take_nil]
theorem slc_t {M : Sto} (l : List D) (lo hi : Option Int) : slcD (.tup l) lo hi M = .ok (.tup (cutD l lo hi)) M := id rfl
theorem slc_l2 {M : Sto} (l : List D) (lo hi : Option Int) : slcD (.lst l) lo hi M = .ok (.lst (cutD l lo hi)) M := id rfl
theorem slc_s {M : Sto} {s : Str} (lo hi : Option Int) (h : s.length ≤ line) : slcD (.str s) lo hi M = .ok (.str (L2.cutS s lo hi)) M := by
  simp only [slcD, h, if_true]
/-- one thing of a row exchanged -/
theorem Tgs.swap {i : Nat} {y : D} (h : Tgs k w d xs) (e : xs[i]? = some x) (hy : Tg k' w' d' y) (hk : k ≤ k') (hd : d ≤ d') : Tgs k' (w - wt x + w') d' (xs.take i ++ [y] ++ xs.drop (i + 1)) := by
  have hi := (List.getElem?_eq_some_iff.mp e).1
  have e2 : xs = xs.take i ++ x :: xs.drop (i + 1) := by
    have : xs.drop i = x :: xs.drop (i + 1) := by
      rw [List.drop_eq_getElem_cons hi]
      congr 1
      exact (List.getElem?_eq_some_iff.mp e).2
    rw [← this, List.take_append_drop]
  have wsum : ∀ a b : List D, wts (a ++ b) = wts a + wts b := by
    intro a b
    induction a with
    | nil => simp [wts]
    | cons z a ih => simp only [List.cons_append, wts, ih]; omega
  have hw := h.w
  have ew : wts xs = wts (xs.take i) + (wt x + 2 + wts (xs.drop (i + 1))) := by
    have := congrArg wts e2
    rw [wsum, wts] at this
    exact this
  have a := (h.sub (List.take_sublist i xs)).up hk (Nat.le_refl _) hd
  have b := (h.sub (List.drop_sublist (i + 1) xs)).up hk (Nat.le_refl _) hd
  have a' : Tgs k' (wts (xs.take i)) d' (xs.take i) := ⟨a.p, a.m, a.d, Nat.le_refl _⟩
  have b' : Tgs k' (wts (xs.drop (i + 1))) d' (xs.drop (i + 1)) := ⟨b.p, b.m, b.d, Nat.le_refl _⟩
  exact ((a'.app (Tgs.cons hy .nil)).app b').up (Nat.le_refl _) (by omega) (Nat.le_refl _)
end
end Mp
namespace Mp
open PySem PySem.Spec
/-! ### texts -/
theorem strOk_iff {x : Str} : PyData.strOk x = true ↔ ∀ c ∈ cp x, c < 0x110000 := by
  unfold PyData.strOk cp
  rw [← Array.all_toList, List.all_eq_true]
  exact ⟨fun h c hc => of_decide_eq_true (h c hc), fun h c hc => decide_eq_true (h c hc)⟩
theorem cp_len (x : Str) : (cp x).length = x.length := by unfold cp; simp [Str.length]
theorem strOk_app {a b : Str} (h : PyData.strOk a = true) (g : PyData.strOk b = true) : PyData.strOk (a ++ b) = true := by
  rw [strOk_iff] at *
  rw [cp_app]
  intro c hc
  exact (List.mem_append.mp hc).elim (h c) (g c)
theorem len_app (a b : Str) : (a ++ b).length = a.length + b.length := by rw [← cp_len, cp_app, List.length_append, cp_len, cp_len]
theorem cut_cp (a : Str) (lo hi : Option Int) : (cp (L2.cutS a lo hi)).Sublist (cp a) := by
  unfold L2.cutS cp
  exact (List.take_sublist _ _).trans (List.drop_sublist _ _)
theorem strOk_cut {a : Str} (lo hi : Option Int) (h : PyData.strOk a = true) : PyData.strOk (L2.cutS a lo hi) = true := by
  rw [strOk_iff] at *
  exact fun c hc => h c ((cut_cp a lo hi).subset hc)
theorem len_cut (a : Str) (lo hi : Option Int) : (L2.cutS a lo hi).length ≤ a.length := by
  rw [← cp_len, ← cp_len]
  exact (cut_cp a lo hi).length_le
theorem reps (a : Array Nat) : ∀ (n : Nat) (acc : Array Nat), ((List.replicate n a).foldl (· ++ ·) acc).toList = acc.toList ++ (List.replicate n a.toList).flatten
  | 0, acc => by simp
  | n + 1, acc => by
    rw [List.replicate_succ, List.foldl_cons, reps a n, List.replicate_succ, List.flatten_cons]
    simp
theorem mul_cp {a : Str} {k : Int} : ∃ n : Nat, n ≤ k.toNat ∧ cp (Txt.mul a k) = (List.replicate n (cp a)).flatten := by
  unfold Txt.mul
  split
  · exact ⟨0, Nat.zero_le _, rfl⟩
  · split
    · exact ⟨1, by omega, by simp⟩
    · exact ⟨k.toNat, Nat.le_refl _, by unfold cp; rw [reps]; simp⟩
theorem strOk_mul {a : Str} {k : Int} (h : PyData.strOk a = true) : PyData.strOk (Txt.mul a k) = true := by
  obtain ⟨n, _, e⟩ := mul_cp (a := a) (k := k)
  rw [strOk_iff] at *
  rw [e]
  intro c hc
  obtain ⟨l, hl, hc⟩ := List.mem_flatten.mp hc
  rw [(List.mem_replicate.mp hl).2] at hc
  exact h c hc
theorem len_mul {a : Str} {k : Int} : (Txt.mul a k).length ≤ k.toNat * a.length := by
  obtain ⟨n, hn, e⟩ := mul_cp (a := a) (k := k)
  rw [← cp_len, e, List.length_flatten, List.map_replicate, List.sum_replicate_nat, cp_len]
  exact Nat.mul_le_mul_right _ hn
theorem d_mulS2 {M : Sto} {s : Str} {k : Int} (h : 0 ≤ k ∧ k ≤ 1000 ∧ s.length ≤ 10000) : binD .mul (.str s) (.int k) M = .ok (.str (Txt.mul s k)) M := by
  simp only [binD, h, and_self, if_true]
end Mp
namespace Mp
open PySem PySem.Spec
theorem perm_all {xs ys : List D} (p : xs.Perm ys) : pures xs = pures ys ∧ mxs xs = mxs ys ∧ deps xs = deps ys ∧ wts xs = wts ys := by
  induction p with
  | nil => exact ⟨rfl, rfl, rfl, rfl⟩
  | cons x p ih =>
    simp only [pures, mxs, deps, wts]
    rw [ih.1, ih.2.1, ih.2.2.1, ih.2.2.2]
    exact ⟨rfl, rfl, rfl, rfl⟩
  | swap x y l =>
    simp only [pures, mxs, deps, wts]
    refine ⟨?_, by omega, by omega, by omega⟩
    cases pure? x <;> cases pure? y <;> rfl
  | trans _ _ a b => exact ⟨a.1.trans b.1, a.2.1.trans b.2.1, a.2.2.1.trans b.2.2.1, a.2.2.2.trans b.2.2.2⟩
theorem Tgs.perm {k w d : Nat} {xs ys : List D} (h : Tgs k w d ys) (p : xs.Perm ys) : Tgs k w d xs := by
  obtain ⟨a, b, c, e⟩ := perm_all p
  exact ⟨a.trans h.p, by have := h.m; omega, by have := h.d; omega, by have := h.w; omega⟩
theorem cut_len' (l : List D) (lo hi : Option Int) : (cutD l lo hi).length ≤ l.length := (cut_sub l lo hi).length_le
end Mp
namespace Mp
open PySem PySem.Spec
theorem idx_last {M : Sto} (xs : List D) (x : D) : idxD (.lst (xs ++ [x])) (.int (-1)) M = .ok x M := by
  have e : L2.atI (xs ++ [x]) (-1) = some x := by
    unfold L2.atI L2.ixN
    rw [if_neg (by decide), if_pos (by rw [List.length_append, List.length_singleton]; omega)]
    have : (-1 + ((xs ++ [x]).length : Int)).toNat = xs.length := by
      rw [List.length_append, List.length_singleton]
      omega
    show (xs ++ [x])[(-1 + ((xs ++ [x]).length : Int)).toNat]? = some x
    rw [this]
    simp
  simp only [idxD, e]
end Mp
namespace Mp
theorem len_line {α : Type} {xs : List α} {k : Nat} (h : xs.length ≤ k) (hk : k < 16000000 := by omega) : xs.length < line := by unfold line; omega
end Mp
end

section
set_option Elab.async false
set_option linter.all false
set_option maxRecDepth 100000
/-! The order of data: sorting tells the one rising row. -/
namespace Mp
open PySem PySem.Spec
abbrev dle (a b : D) : Bool := PySem.W.dataLe false py a b
theorem dle_tot : PySem.W.TotalLe dle := PySem.W.sortLe_total (PyProof.Rows.listOrd PyProof.Rows.itemOrd) false fun b => PySem.W.keyToks (py b)
theorem sort_pw (l : List D) : (sortD l).Pairwise fun a b => dle a b = true := List.pairwise_mergeSort dle_tot.trans (fun a b => by
  rcases dle_tot.total a b with h | h <;> rw [h] <;> simp) l
theorem sort_pm (l : List D) : (sortD l).Perm l := List.mergeSort_perm l _
/-- no two of them rank alike -/
def Anti (l : List D) : Prop := ∀ a ∈ l, ∀ b ∈ l, dle a b = true → dle b a = true → a = b
theorem sort_of {l m : List D} (an : Anti l) (hs : m.Pairwise fun a b => dle a b = true) (hp : m.Perm l) : sortD l = m :=
  List.Perm.eq_of_pairwise (fun a b ha hb h1 h2 => an a ((sort_pm l).subset ha) b (hp.subset hb) h1 h2) (sort_pw l) hs ((sort_pm l).trans hp.symm)
theorem sort_eq {l m : List D} (an : Anti l) (hp : l.Perm m) : sortD l = sortD m := sort_of an (sort_pw m) ((sort_pm m).trans hp.symm)
theorem sort_filter {l : List D} (an : Anti l) (p : D → Bool) : (sortD l).filter p = sortD (l.filter p) :=
  (sort_of (fun a ha b hb => an a (List.mem_filter.mp ha).1 b (List.mem_filter.mp hb).1) ((sort_pw l).sublist List.filter_sublist) ((sort_pm l).filter p)).symm
/-- a pair of a figure and a text, and one with a figure more -/
def row2 (d : Int) (k : Str) : D := .tup [.int d, .str k]
def row3 (d : Int) (k : Str) (m : Int) : D := .tup [.int d, .str k, .int m]
theorem lt_row2 (d d' : Int) (k k' : Str) : PySem.W.dataLt (py (row2 d k)) (py (row2 d' k')) = if d = d' then (if k = k' then false else decide (k.cps.toList < k'.cps.toList)) else decide (d < d') := by
  simp only [row2, py, pys]
  rw [PySem.W.dataLt_pair (by simp [PySem.W.alike]) (by simp [PySem.W.alike]), PySem.W.dataLt_int, PySem.W.dataLt_str]
  simp only [PyData.eqv, beq_iff_eq]
theorem lt_row3 (d d' : Int) (k k' : Str) (m m' : Int) : PySem.W.dataLt (py (row3 d k m)) (py (row3 d' k' m')) = if d = d' then (if k = k' then decide (m < m') else decide (k.cps.toList < k'.cps.toList)) else decide (d < d') := by
  simp only [row3, py, pys]
  rw [PySem.W.dataLt_tuple, PySem.W.dataLt_cons (by simp [PySem.W.alike]), PySem.W.dataLt_cons (by simp [PySem.W.alike]), PySem.W.dataLt_cons (by simp [PySem.W.alike]), PySem.W.dataLt_int, PySem.W.dataLt_str, PySem.W.dataLt_int]
  simp only [PyData.eqv, beq_iff_eq]
  have e : PyProof.Rows.lexLt PyProof.Rows.itemOrd (PySem.W.keyToksAll []) (PySem.W.keyToksAll []) = false := PyProof.Rows.lex_irrefl _
  rw [e]
  by_cases h1 : d = d' <;> by_cases h2 : k = k' <;> by_cases h3 : m = m' <;> simp [h1, h2, h3]
theorem cps_anti {a b : Str} (h : ¬ a.cps.toList < b.cps.toList) (g : ¬ b.cps.toList < a.cps.toList) : a = b := by
  have e : a.cps.toList = b.cps.toList := List.le_antisymm (List.not_lt.mp g) (List.not_lt.mp h)
  exact cp_inj e
theorem dle_row2 {d d' : Int} {k k' : Str} : dle (row2 d k) (row2 d' k') = true ↔ PySem.W.dataLt (py (row2 d' k')) (py (row2 d k)) = false := by
  show (!PySem.W.dataLt (py (row2 d' k')) (py (row2 d k))) = true ↔ _
  rw [Bool.not_eq_true']
theorem dle_row3 {d d' : Int} {k k' : Str} {m m' : Int} : dle (row3 d k m) (row3 d' k' m') = true ↔ PySem.W.dataLt (py (row3 d' k' m')) (py (row3 d k m)) = false := by
  show (!PySem.W.dataLt (py (row3 d' k' m')) (py (row3 d k m))) = true ↔ _
  rw [Bool.not_eq_true']
theorem anti2 {d d' : Int} {k k' : Str} (h : dle (row2 d k) (row2 d' k') = true) (g : dle (row2 d' k') (row2 d k) = true) : d = d' ∧ k = k' := by
  rw [dle_row2, lt_row2] at h g
  by_cases e : d = d'
  · subst e
    refine ⟨rfl, ?_⟩
    simp only [if_true] at h g
    by_cases e2 : k = k'
    · exact e2
    · rw [if_neg (fun z => e2 z.symm), decide_eq_false_iff_not] at h
      rw [if_neg e2, decide_eq_false_iff_not] at g
      exact cps_anti g h
  · rw [if_neg (fun z => e z.symm), decide_eq_false_iff_not] at h
    rw [if_neg e, decide_eq_false_iff_not] at g
    omega
/-- rows of other places rank as their places do -/
theorem dle_23 {d d' : Int} {k k' : Str} {m m' : Int} (h : (d, k) ≠ (d', k')) : dle (row3 d k m) (row3 d' k' m') = dle (row2 d k) (row2 d' k') := by
  show (!PySem.W.dataLt (py (row3 d' k' m')) (py (row3 d k m))) = !PySem.W.dataLt (py (row2 d' k')) (py (row2 d k))
  rw [lt_row3, lt_row2]
  by_cases e : d' = d
  · subst e
    have : k' ≠ k := fun z => h (by rw [z])
    simp [this]
  · simp [e]
end Mp
end

section
set_option Elab.async false
set_option linter.all false
set_option maxRecDepth 100000
set_option maxHeartbeats 0
/-! Data without truths: equal just where it is the same. -/
namespace Mp
open PySem PySem.Spec
mutual
def nob : D → Bool
  | .bl _ => false
  | .obj _ => false
  | .fn _ => false
  | .tup ds => nobs ds
  | .lst ds => nobs ds
  | _ => true
def nobs : List D → Bool
  | [] => true
  | d :: ds => nob d && nobs ds
end
mutual
theorem eqv_iff : ∀ {x y : D}, nob x = true → nob y = true → (PyData.eqv (py x) (py y) = true ↔ x = y)
  | .non, .non, _, _ => by simp [py, PyData.eqv]
  | .non, .int _, _, _ => by simp [py, PyData.eqv]
  | .non, .str _, _, _ => by simp [py, PyData.eqv]
  | .non, .tup _, _, _ => by simp [py, PyData.eqv]
  | .non, .lst _, _, _ => by simp [py, PyData.eqv]
  | .int _, .non, _, _ => by simp [py, PyData.eqv]
  | .int _, .int _, _, _ => by simp [py, PyData.eqv]
  | .int _, .str _, _, _ => by simp [py, PyData.eqv]
  | .int _, .tup _, _, _ => by simp [py, PyData.eqv]
  | .int _, .lst _, _, _ => by simp [py, PyData.eqv]
  | .str _, .non, _, _ => by simp [py, PyData.eqv]
  | .str _, .int _, _, _ => by simp [py, PyData.eqv]
  | .str _, .str _, _, _ => by simp [py, PyData.eqv]
  | .str _, .tup _, _, _ => by simp [py, PyData.eqv]
  | .str _, .lst _, _, _ => by simp [py, PyData.eqv]
  | .tup _, .non, _, _ => by simp [py, PyData.eqv]
  | .tup _, .int _, _, _ => by simp [py, PyData.eqv]
  | .tup _, .str _, _, _ => by simp [py, PyData.eqv]
  | .tup xs, .tup ys, hx, hy => by
    rw [nob] at hx hy
    simp only [py, PyData.eqv, D.tup.injEq]
    exact eqvs_iff hx hy
  | .tup _, .lst _, _, _ => by simp [py, PyData.eqv]
  | .lst _, .non, _, _ => by simp [py, PyData.eqv]
  | .lst _, .int _, _, _ => by simp [py, PyData.eqv]
  | .lst _, .str _, _, _ => by simp [py, PyData.eqv]
  | .lst _, .tup _, _, _ => by simp [py, PyData.eqv]
  | .lst xs, .lst ys, hx, hy => by
    rw [nob] at hx hy
    simp only [py, PyData.eqv, D.lst.injEq]
    exact eqvs_iff hx hy
  | .bl _, _, h, _ => by rw [nob] at h; cases h
  | .obj _, _, h, _ => by rw [nob] at h; cases h
  | .fn _, _, h, _ => by rw [nob] at h; cases h
  | _, .bl _, _, h => by rw [nob] at h; cases h
  | _, .obj _, _, h => by rw [nob] at h; cases h
  | _, .fn _, _, h => by rw [nob] at h; cases h
theorem eqvs_iff : ∀ {xs ys : List D}, nobs xs = true → nobs ys = true → (PyData.eqvAll (pys xs) (pys ys) = true ↔ xs = ys)
  | [], [], _, _ => by simp [pys, PyData.eqvAll]
  | [], _ :: _, _, _ => by simp [pys, PyData.eqvAll]
  | _ :: _, [], _, _ => by simp [pys, PyData.eqvAll]
  | x :: xs, y :: ys, hx, hy => by
    rw [nobs, Bool.and_eq_true] at hx hy
    simp only [pys, PyData.eqvAll, Bool.and_eq_true, List.cons.injEq]
    rw [eqv_iff hx.1 hy.1, eqvs_iff hx.2 hy.2]
end
/-- the same text -/
def sm (x y : D) : Bool := decide (PyData.shown (py x) = PyData.shown (py y))
theorem eqv_sm {x y : D} (h1 : nob x = true) (h2 : nob y = true) (h3 : sim? x = true) (h4 : sim? y = true) : PyData.eqv (py x) (py y) = sm x y := by
  unfold sm
  rw [Bool.eq_iff_iff, eqv_iff h1 h2, decide_eq_true_iff, shown_inj h3 h4]
section
variable {M : Sto}
theorem strP_non {x y : D} (h : ∀ a b, ¬ (x = .str a ∧ y = .str b)) : strP x y = none := by
  cases x <;> cases y <;> first | rfl | exact absurd ⟨rfl, rfl⟩ (h _ _)
theorem d_eqG {x y : D} (h : eqOk x y = true) : cmpD .eq x y M = .ok (.bl (PyData.eqv (py x) (py y))) M := by
  cases e : strP x y with
  | none => simp only [cmpD, e, h, if_true]
  | some b =>
    cases x with
    | str a => cases y with
      | str c =>
        simp only [strP, Option.some.injEq] at e
        simp only [cmpD, strP, py, PyData.eqv]
        congr 2
      | _ => simp [strP] at e
    | _ => simp [strP] at e
theorem d_neG {x y : D} (h : eqOk x y = true) : cmpD .ne x y M = .ok (.bl (!PyData.eqv (py x) (py y))) M := by
  cases e : strP x y with
  | none => simp only [cmpD, e, h, if_true]
  | some b =>
    cases x with
    | str a => cases y with
      | str c =>
        simp only [cmpD, strP, py, PyData.eqv]
        congr 3
      | _ => simp [strP] at e
    | _ => simp [strP] at e
theorem Sw.eqOk {x y : D} {w d w' d' : Nat} (h : Sw x w d) (g : Sw y w' d') (h1 : d ≤ 60 := by omega) (h2 : d' ≤ 60 := by omega) : Mp.eqOk x y = true := by
  unfold Mp.eqOk
  rw [h.p, g.p, decide_eq_true (Nat.le_trans h.d h1), decide_eq_true (Nat.le_trans g.d h2)]
  rfl
theorem d_neB (x : Bool) : cmpD .ne (.bl x) (.bl x) M = .ok (.bl false) M := by cases x <;> rfl
theorem d_allB (bs : List Bool) : bltD .all [.lst (bs.map .bl)] M = .ok (.bl (bs.all id)) M := by
  have : bools (bs.map .bl) = some bs := by
    induction bs with
    | nil => rfl
    | cons a r ih => simp only [List.map_cons, bools, ih, Option.map_some]
  simp only [bltD, this]
end
/-! ### rising figures are sorted -/
theorem dle_int {i j : Int} : dle (.int i) (.int j) = decide (i ≤ j) := by
  show (!PySem.W.dataLt (py (.int j)) (py (.int i))) = _
  simp only [py]
  rw [PySem.W.dataLt_int]
  by_cases h : i ≤ j
  · rw [decide_eq_true h, decide_eq_false (by omega)]; rfl
  · rw [decide_eq_false h, decide_eq_true (by omega)]; rfl
theorem sort_ints {l : List Int} (h : l.Pairwise (· < ·)) : sortD (l.map .int) = l.map .int := by
  refine sortD_id (List.pairwise_map.mpr (h.imp fun {a b} hab => ?_))
  show dle _ _ = true
  rw [dle_int]
  exact decide_eq_true (Int.le_of_lt hab)
theorem sortOk_ints (l : List Int) : sortOk (l.map .int) = true := by
  unfold sortOk
  simp only [Bool.and_eq_true, Bool.or_eq_true]
  refine ⟨⟨⟨?_, ?_⟩, ?_⟩, .inr ?_⟩
  · exact pures_ints l
  · rw [List.all_eq_true]
    intro x hx
    obtain ⟨i, _, rfl⟩ := List.mem_map.mp hx
    rfl
  · rw [List.all_eq_true]
    intro x hx
    rw [List.all_eq_true]
    intro y hy
    obtain ⟨i, _, rfl⟩ := List.mem_map.mp hx
    obtain ⟨j, _, rfl⟩ := List.mem_map.mp hy
    rfl
  · rw [List.all_eq_true]
    intro x hx
    obtain ⟨i, _, rfl⟩ := List.mem_map.mp hx
    rfl
theorem iota_ln : ∀ (k : Nat) (i : Int), (iota i k).length = k
  | 0, _ => rfl
  | k + 1, i => by rw [iota, List.length_cons, iota_ln k]
end Mp
end

section
set_option Elab.async false
set_option linter.all false
set_option maxRecDepth 100000
set_option maxHeartbeats 0
namespace Mp
open PySem PySem.Spec
mutual
theorem eqv_self : ∀ x : D, PyData.eqv (py x) (py x) = true
  | .non => by simp [py, PyData.eqv]
  | .bl _ => by simp [py, PyData.eqv]
  | .int _ => by simp [py, PyData.eqv]
  | .str _ => by simp [py, PyData.eqv]
  | .tup xs => by simp only [py, PyData.eqv]; exact eqvs_self xs
  | .lst xs => by simp only [py, PyData.eqv]; exact eqvs_self xs
  | .obj _ => by simp [py, PyData.eqv]
  | .fn _ => by simp [py, PyData.eqv]
theorem eqvs_self : ∀ xs : List D, PyData.eqvAll (pys xs) (pys xs) = true
  | [] => by simp [pys, PyData.eqvAll]
  | x :: xs => by simp only [pys, PyData.eqvAll, eqv_self x, eqvs_self xs]; rfl
end
theorem d_eqX {M : Sto} {x : D} {w d : Nat} (h : Sw x w d) (hd : d ≤ 60 := by omega) : cmpD .eq x x M = .ok (.bl true) M := by rw [d_eqG (h.eqOk h hd hd), eqv_self]
theorem d_neX {M : Sto} {x : D} {w d : Nat} (h : Sw x w d) (hd : d ≤ 60 := by omega) : cmpD .ne x x M = .ok (.bl false) M := by rw [d_neG (h.eqOk h hd hd), eqv_self]; rfl
theorem in_ints {M : Sto} {k : Int} {js : List Int} : inD (.int k) (.tup (js.map .int)) M = some (decide (k ∈ js)) := by
  have e : eqOk (.int k) (.tup (js.map .int)) = true := by
    unfold eqOk
    rw [pure?, pure?, pures_ints, dep, dep, deps_ints] <;> first | rfl | simp
  have h : ((pys (js.map D.int)).any fun z => PyData.eqv z (.int k)) = decide (k ∈ js) := by
    clear e
    induction js with
    | nil => simp [pys]
    | cons a js ih =>
      rw [List.map_cons, pys, List.any_cons, ih, py]
      simp only [PyData.eqv]
      by_cases h : a = k
      · subst h; simp
      · have e2 : ¬ k = a := fun z => h z.symm
        simp [h, e2]
  simp only [inD, e, if_true, py, h]
section
variable {M : Sto}
theorem in_strs {w : Str} {xs : List Str} (hw : PyData.strOk w = true) (hx : ∀ x ∈ xs, PyData.strOk x = true) : inD (.str w) (.tup (xs.map .str)) M = some (decide (w ∈ xs)) := by
  have hp : ∀ xs : List Str, (∀ x ∈ xs, PyData.strOk x = true) → pures (xs.map D.str) = true ∧ deps (xs.map D.str) = 0 ∧ ((pys (xs.map D.str)).any fun z => PyData.eqv z (.str w)) = decide (w ∈ xs) := by
    intro xs
    induction xs with
    | nil => intro _; exact ⟨rfl, rfl, by simp [pys]⟩
    | cons a xs ih =>
      intro h
      obtain ⟨h1, h2, h3⟩ := ih fun x hx => h x (List.mem_cons_of_mem _ hx)
      refine ⟨?_, ?_, ?_⟩
      · rw [List.map_cons, pures, h1, pure?, h a List.mem_cons_self]; rfl
      · rw [List.map_cons, deps, h2, dep] <;> simp
      · rw [List.map_cons, pys, List.any_cons, h3, py]
        simp only [PyData.eqv]
        by_cases e : a = w
        · subst e; simp
        · have e2 : ¬ w = a := fun z => e z.symm
          simp [e, e2]
  obtain ⟨h1, h2, h3⟩ := hp xs hx
  have e : eqOk (.str w) (.tup (xs.map .str)) = true := by
    unfold eqOk
    rw [pure?, pure?, h1, hw, dep, dep, h2] <;> first | rfl | simp
  simp only [inD, e, if_true, py, h3]
theorem d_isN (x : D) : cmpD .is_ x .non M = .ok (.bl (isNonD x)) M := id rfl
theorem d_isnN (x : D) : cmpD .isnot x .non M = .ok (.bl (!isNonD x)) M := id rfl
end
theorem ids_take (js : List Int) (k : Nat) (M : Sto) : slcD (.tup (js.map .int)) none (some (k : Int)) M = .ok (.tup ((js.take k).map .int)) M := by
  rw [slc_t, cut_take, ← List.map_take]
theorem k_rngN (n : Nat) (M : Sto) (h : (n : Int) < 100000 := by omega) : rng1K (.int (n : Int)) M = .ok (iota 0 n) M := by
  have := k_rng1 (n := (n : Int)) (M := M) (by omega)
  rw [Int.toNat_natCast] at this
  exact this
end Mp
end

section
set_option Elab.async false
set_option linter.all false
set_option maxRecDepth 100000
set_option maxHeartbeats 0
namespace Mp.Lw
open PySem PySem.Spec
/-! ### fractions -/
def bd (k : Nat) (i : Int) : Prop := i.natAbs < 2 ^ k
theorem bd.up {k l : Nat} {i : Int} (h : bd k i) (hl : k ≤ l) : bd l i := Nat.lt_of_lt_of_le h (Nat.pow_le_pow_right (by decide) hl)
theorem bd.add {k : Nat} {i j : Int} (h : bd k i) (g : bd k j) : bd (k + 1) (i + j) := by
  unfold bd at *
  rw [Nat.pow_succ]
  omega
theorem bd.mul {k l : Nat} {i j : Int} (h : bd k i) (g : bd l j) : bd (k + l) (i * j) := by
  unfold bd at *
  rw [Int.natAbs_mul, Nat.pow_add]
  exact Nat.mul_lt_mul'' h g
theorem bd.w {k l : Nat} {i j : Int} (h : bd k i) (g : bd l j) (hk : k ≤ 4000 := by omega) (hl : l ≤ 4000 := by omega) : widthOk i j = true := widthOk_of (h.up hk) (g.up hl)
theorem bd.div {k : Nat} {i j : Int} (h : bd k i) (hi : 0 ≤ i) (hj : 0 < j) : bd k (i / j) := by
  unfold bd at *
  have h1 := Int.ediv_nonneg hi (Int.le_of_lt hj)
  have h2 := Int.ediv_le_self j hi
  omega
theorem bd.mod {k : Nat} {i j : Int} (h : bd k j) (hj : 0 < j) : bd k (i % j) := by
  unfold bd at *
  have h1 := Int.emod_nonneg i (show j ≠ 0 by omega)
  have h2 := Int.emod_lt_of_pos i hj
  omega
theorem bd.le {k : Nat} {i j : Int} (h : bd k j) (hi : 0 ≤ i) (hj : i ≤ j) : bd k i := by
  unfold bd at *
  omega
theorem bd_of {k : Nat} {i : Int} (hk : k ≤ 200) (h : -(2 ^ k) < i) (h2 : i < 2 ^ k) : bd k i := by
  unfold bd
  have e : ((2 : Int) ^ k) = (((2 : Nat) ^ k : Nat) : Int) := by rw [Int.natCast_pow] <;> rfl
  rw [e] at h h2
  generalize (2 : Nat) ^ k = A at *
  omega
/-- a fraction of at most k bits -/
structure Fr (k : Nat) (t : Int × Int) : Prop where
  n : 0 ≤ t.1
  p : 0 < t.2
  bn : bd k t.1
  bp : bd k t.2
theorem Fr.up {k l : Nat} {t : Int × Int} (h : Fr k t) (hl : k ≤ l) : Fr l t := ⟨h.n, h.p, h.bn.up hl, h.bp.up hl⟩
def ratioL (a b : Int) : Int × Int := (a / Int.gcd a b, b / Int.gcd a b)
def frD (t : Int × Int) : D := .tup [.int t.1, .int t.2]
theorem gcd_pos' {a b : Int} (hb : 0 < b) : (0 : Int) < Int.gcd a b := by
  have := Int.gcd_pos_of_ne_zero_right a (b := b) (by omega)
  omega
theorem ratioL_ok {k : Nat} {a b : Int} (ha : 0 ≤ a) (hb : 0 < b) (h1 : bd k a) (h2 : bd k b) : Fr k (ratioL a b) :=
  ⟨Int.ediv_nonneg ha (Int.le_of_lt (gcd_pos' hb)), Int.ediv_pos_of_pos_of_dvd hb (Int.le_of_lt (gcd_pos' hb)) (Int.gcd_dvd_right a b), h1.div ha (gcd_pos' hb), h2.div (Int.le_of_lt hb) (gcd_pos' hb)⟩
theorem gcd_w {a b : Int} (hb : 0 < b) (hw : b.natAbs < 2 ^ 4000) : ((Int.gcd a b : Nat) : Int).natAbs < 2 ^ 4000 := by
  have := Int.gcd_le_natAbs_right a (b := b) (by omega)
  have e : ((Int.gcd a b : Nat) : Int).natAbs = Int.gcd a b := rfl
  rw [e]
  exact Nat.lt_of_le_of_lt this hw
def plusL (t u : Int × Int) : Int × Int := ratioL (t.1 * u.2 + u.1 * t.2) (t.2 * u.2)
theorem plusL_ok {k l : Nat} {t u : Int × Int} (h : Fr k t) (g : Fr l u) : Fr (k + l + 1) (plusL t u) := by
  refine ratioL_ok ?_ (Int.mul_pos h.p g.p) ?_ ((h.bp.mul g.bp).up (by omega))
  · exact Int.add_nonneg (Int.mul_nonneg h.n (Int.le_of_lt g.p)) (Int.mul_nonneg g.n (Int.le_of_lt h.p))
  · exact (h.bn.mul g.bp).add (by have := g.bn.mul h.bp; rw [Nat.add_comm] at this; exact this)
section
variable {f : Ob} {R : Sto} {M : Sto} {b : Nat}
theorem dr (n : Nat) {m : Int} (F : Feed f b) (m0 : 0 < m) (m1 : m < 2 ^ 64) (hb : b < 2 ^ 90 := by omega) : ∃ r f', cal (n + 1) i__law_draw [.obj 0, .int m] (f :: R) = .ok (.int r) (f' :: R) ∧ 0 ≤ r ∧ r < m ∧ Feed f' (b + 1) := by
  rw [st__law_draw]
  exact Feed.draw rfl rfl (by decide) ⟨by decide, by decide⟩ ⟨by decide, by decide⟩ ⟨by decide, by decide⟩ ⟨by decide, by decide⟩ ⟨by decide, by decide⟩ ⟨by decide, by decide⟩ ⟨by decide, by decide⟩ ⟨by decide, by decide⟩ F hb m0 m1
theorem r_ratio (n : Nat) (a b : Int) (M : Sto) (ha : 0 ≤ a) (hb : 0 < b) (hw : b.natAbs < 2 ^ 4000) : cal (n + 1) i_ratio [.int a, .int b] M = .ok (frD (ratioL a b)) M := by
  rw [st_ratio]
  simp only [b_ratio, lt_ratio_1, lb_ratio_1, C_cal, C_arr, C_gl, lkK_val, pkK_own, x_cint, x_cstr, x_cbl, x_cnon, x_var, x_glob, x_fnv, x_tup, x_lst, x_bin, x_neg, x_cmp, x_chn, x_andv, x_orv, x_one, x_notv, x_ife, x_idx, x_dgt, x_slc, x_call, x_blt, x_isi, x_comp, x_dsp, x_dnew, x_get2, x_get1, k_g2a, k_g2b, k_g2c, k_g1a, k_g1b, pk_dnew, pk_get2, pk_get1, xs_nil, xs_cons, xp_nil, xp_cons, xo_non, xo_som, xt_val, xt_cmp, xt_chn, xt_not, xt_and, xt_or, xt_one, xq_nil, xq_one, xi_seq, xi_enum, xi_items, xi_zip, k_zip1, k_zipT, k_zipL, k_enuT, k_enuL, k_itm, k_seqO, x_stp, k_stp1, k_revT, k_revL, k_evnT, k_evnL, x_lnew, k_lnw, x_lrng1, x_lrng2, k_lrgT, k_lrgF, x_dcompK, x_dcompT, k_dcK, k_dcT, k_dkK, k_dtK, pk_lnew, pk_stp, pk_lrng, pk_dcomp, xi_rng1, xi_rng2, pk_own, pk_cint, pk_cstr, pk_cbl, pk_cnon, pk_var, pk_glob, pk_fnv, pk_tup, pk_lst, pk_bin, pk_neg, pk_cmp, pk_chn, pk_andv, pk_orv, pk_one, pk_notv, pk_ife, pk_idx, pk_dgt, pk_slc, pk_call, pk_blt, pk_isi, pk_comp, pk_dsp, k_tup, k_lst, k_con1, k_pcon1, k_con2, k_bin1, k_cmp1, k_chn1, k_chn2, k_chnT, k_chnF, k_chn4, k_tchn1, k_tchn2, k_tchnT, k_tchnF, k_tchn4, k_idx1, k_dgt1, k_slc1, k_slc2, k_neg, k_not, k_non, k_ifeT, k_ifeF, k_cal1, k_cal2, k_cal3, k_isi, k_intO, k_bl, k_tcmp1, k_tnot, k_tandT, k_tandF, k_torT, k_torF, k_dsp, k_seqT, k_seqL, k_comp, d_add, d_sub, d_lt, d_le, d_gt, d_ge, d_eqS, d_neS, d_eqI, d_neI, d_neNil, ob_of, ob_dk, ob_dt, ob_ls, ob_lk, look_k, look_t, dct_k, dct_t, stor_k, stor_t, stor_l, apnd_l, lst_l, lock_n, lock_l, lenD_o, getD_k, inD_o, i_obD, i_obT, i_obL, gc_len, gc_same, gc_keep, gc_new, gc_drop, gc_stk, p_gc, scp_pure, scps_pure, scp_int, scp_str, scp_bl, scp_non, scp_tup, scp_lst, scps_nil, scps_cons, d_min, d_max, d_abs, d_lenT, d_lenL, d_tupL, d_tupT, d_lstL, d_lstT, i_t0, i_l0, i_t1, i_l1, i_t2, i_l2, i_t3, i_l3, i_t4, i_l4, i_t5, i_l5, i_t6, i_l6, i_t7, i_l7, tr_bl, tr_int, tr_non, tr_tup, tr_lst, y_nil, y_cons, y_next, y_ret, y_brk, y_cnt, y_asg, y_par, y_par1, y_par2, y_ownL, y_ownK, y_ownF, y_ownC, y_ownCT, y_ownCL, y_ownFK, y_app, y_appK, y_app2, y_ext, y_extK, y_extT, y_extL, y_star, y_starK, y_row, y_aug, y_augK, y_augA, y_augT, y_augS, y_setd, y_set1, y_set2, y_set3, y_storK, y_expr, y_exprK, y_ret1, y_retK, y_retn, y_ifs, y_ifsT, y_ifsF, y_forr, y_forK, y_whil, y_pas, y_brk1, y_cnt1, y_frz, y_frzK, m_nm, m_tpT, m_tpL, g_tpL, y_appo, y_apo1, y_apo2, y_asgK, fin_ret, fin_next, g_nm, g_tp, g_nil, g_cons, of_nil, of_cons, ofS_non, ofS_val, ofS_none, wi_nil, wi_cons, q_tf, q_ta, k_andT, k_andF, k_orT, k_orF, Res.bind_ok, SRes.of_ok, Option.bind_some, List.getElem?_cons_zero, List.getElem?_cons_succ, List.set_cons_zero, List.set_cons_succ, List.length_cons, List.length_nil, if_true, if_false, Nat.reduceAdd, Nat.reduceLT, Nat.zero_add, decide_true, decide_false, Bool.not_true, Bool.not_false, not_true_eq_false, not_false_eq_true, eq_self, gcd_loop a b ha (Int.le_of_lt hb), d_fdiv (gcd_pos' (a := a) hb) (gcd_w (a := a) hb hw)]
  rfl
theorem r_added (n : Nat) {k l : Nat} {t u : Int × Int} (M : Sto) (h : Fr k t) (g : Fr l u) (hk : k + l ≤ 3000) : cal (n + 2) i_added [frD t, frD u] M = .ok (frD (plusL t u)) M := by
  have w1 : widthOk t.1 u.2 = true := h.bn.w g.bp
  have w2 : widthOk u.1 t.2 = true := g.bn.w h.bp
  have w3 : widthOk t.2 u.2 = true := h.bp.w g.bp
  have n0 : 0 ≤ t.1 * u.2 + u.1 * t.2 := Int.add_nonneg (Int.mul_nonneg h.n (Int.le_of_lt g.p)) (Int.mul_nonneg g.n (Int.le_of_lt h.p))
  rw [st_added]
  simp only [frD, b_added, C_cal, C_arr, C_gl, lkK_val, pkK_own, x_cint, x_cstr, x_cbl, x_cnon, x_var, x_glob, x_fnv, x_tup, x_lst, x_bin, x_neg, x_cmp, x_chn, x_andv, x_orv, x_one, x_notv, x_ife, x_idx, x_dgt, x_slc, x_call, x_blt, x_isi, x_comp, x_dsp, x_dnew, x_get2, x_get1, k_g2a, k_g2b, k_g2c, k_g1a, k_g1b, pk_dnew, pk_get2, pk_get1, xs_nil, xs_cons, xp_nil, xp_cons, xo_non, xo_som, xt_val, xt_cmp, xt_chn, xt_not, xt_and, xt_or, xt_one, xq_nil, xq_one, xi_seq, xi_enum, xi_items, xi_zip, k_zip1, k_zipT, k_zipL, k_enuT, k_enuL, k_itm, k_seqO, x_stp, k_stp1, k_revT, k_revL, k_evnT, k_evnL, x_lnew, k_lnw, x_lrng1, x_lrng2, k_lrgT, k_lrgF, x_dcompK, x_dcompT, k_dcK, k_dcT, k_dkK, k_dtK, pk_lnew, pk_stp, pk_lrng, pk_dcomp, xi_rng1, xi_rng2, pk_own, pk_cint, pk_cstr, pk_cbl, pk_cnon, pk_var, pk_glob, pk_fnv, pk_tup, pk_lst, pk_bin, pk_neg, pk_cmp, pk_chn, pk_andv, pk_orv, pk_one, pk_notv, pk_ife, pk_idx, pk_dgt, pk_slc, pk_call, pk_blt, pk_isi, pk_comp, pk_dsp, k_tup, k_lst, k_con1, k_pcon1, k_con2, k_bin1, k_cmp1, k_chn1, k_chn2, k_chnT, k_chnF, k_chn4, k_tchn1, k_tchn2, k_tchnT, k_tchnF, k_tchn4, k_idx1, k_dgt1, k_slc1, k_slc2, k_neg, k_not, k_non, k_ifeT, k_ifeF, k_cal1, k_cal2, k_cal3, k_isi, k_intO, k_bl, k_tcmp1, k_tnot, k_tandT, k_tandF, k_torT, k_torF, k_dsp, k_seqT, k_seqL, k_comp, d_add, d_sub, d_lt, d_le, d_gt, d_ge, d_eqS, d_neS, d_eqI, d_neI, d_neNil, ob_of, ob_dk, ob_dt, ob_ls, ob_lk, look_k, look_t, dct_k, dct_t, stor_k, stor_t, stor_l, apnd_l, lst_l, lock_n, lock_l, lenD_o, getD_k, inD_o, i_obD, i_obT, i_obL, gc_len, gc_same, gc_keep, gc_new, gc_drop, gc_stk, p_gc, scp_pure, scps_pure, scp_int, scp_str, scp_bl, scp_non, scp_tup, scp_lst, scps_nil, scps_cons, d_min, d_max, d_abs, d_lenT, d_lenL, d_tupL, d_tupT, d_lstL, d_lstT, i_t0, i_l0, i_t1, i_l1, i_t2, i_l2, i_t3, i_l3, i_t4, i_l4, i_t5, i_l5, i_t6, i_l6, i_t7, i_l7, tr_bl, tr_int, tr_non, tr_tup, tr_lst, y_nil, y_cons, y_next, y_ret, y_brk, y_cnt, y_asg, y_par, y_par1, y_par2, y_ownL, y_ownK, y_ownF, y_ownC, y_ownCT, y_ownCL, y_ownFK, y_app, y_appK, y_app2, y_ext, y_extK, y_extT, y_extL, y_star, y_starK, y_row, y_aug, y_augK, y_augA, y_augT, y_augS, y_setd, y_set1, y_set2, y_set3, y_storK, y_expr, y_exprK, y_ret1, y_retK, y_retn, y_ifs, y_ifsT, y_ifsF, y_forr, y_forK, y_whil, y_pas, y_brk1, y_cnt1, y_frz, y_frzK, m_nm, m_tpT, m_tpL, g_tpL, y_appo, y_apo1, y_apo2, y_asgK, fin_ret, fin_next, g_nm, g_tp, g_nil, g_cons, of_nil, of_cons, ofS_non, ofS_val, ofS_none, wi_nil, wi_cons, q_tf, q_ta, k_andT, k_andF, k_orT, k_orF, Res.bind_ok, SRes.of_ok, Option.bind_some, List.getElem?_cons_zero, List.getElem?_cons_succ, List.set_cons_zero, List.set_cons_succ, List.length_cons, List.length_nil, if_true, if_false, Nat.reduceAdd, Nat.reduceLT, Nat.zero_add, decide_true, decide_false, Bool.not_true, Bool.not_false, not_true_eq_false, not_false_eq_true, eq_self, d_mul w1, d_mul w2, d_mul w3, as_ratio_2, r_ratio n _ _ M n0 (Int.mul_pos h.p g.p) ((h.bp.mul g.bp).up (by omega))]
  rfl
theorem r_is_less (n : Nat) (t u : Int × Int) (M : Sto) (h1 : widthOk t.1 u.2 = true) (h2 : widthOk u.1 t.2 = true) : cal (n + 1) i_is_less [frD t, frD u] M = .ok (.bl (decide (t.1 * u.2 < u.1 * t.2))) M := by
  rw [st_is_less]
  simp only [frD, b_is_less, C_cal, C_arr, C_gl, lkK_val, pkK_own, x_cint, x_cstr, x_cbl, x_cnon, x_var, x_glob, x_fnv, x_tup, x_lst, x_bin, x_neg, x_cmp, x_chn, x_andv, x_orv, x_one, x_notv, x_ife, x_idx, x_dgt, x_slc, x_call, x_blt, x_isi, x_comp, x_dsp, x_dnew, x_get2, x_get1, k_g2a, k_g2b, k_g2c, k_g1a, k_g1b, pk_dnew, pk_get2, pk_get1, xs_nil, xs_cons, xp_nil, xp_cons, xo_non, xo_som, xt_val, xt_cmp, xt_chn, xt_not, xt_and, xt_or, xt_one, xq_nil, xq_one, xi_seq, xi_enum, xi_items, xi_zip, k_zip1, k_zipT, k_zipL, k_enuT, k_enuL, k_itm, k_seqO, x_stp, k_stp1, k_revT, k_revL, k_evnT, k_evnL, x_lnew, k_lnw, x_lrng1, x_lrng2, k_lrgT, k_lrgF, x_dcompK, x_dcompT, k_dcK, k_dcT, k_dkK, k_dtK, pk_lnew, pk_stp, pk_lrng, pk_dcomp, xi_rng1, xi_rng2, pk_own, pk_cint, pk_cstr, pk_cbl, pk_cnon, pk_var, pk_glob, pk_fnv, pk_tup, pk_lst, pk_bin, pk_neg, pk_cmp, pk_chn, pk_andv, pk_orv, pk_one, pk_notv, pk_ife, pk_idx, pk_dgt, pk_slc, pk_call, pk_blt, pk_isi, pk_comp, pk_dsp, k_tup, k_lst, k_con1, k_pcon1, k_con2, k_bin1, k_cmp1, k_chn1, k_chn2, k_chnT, k_chnF, k_chn4, k_tchn1, k_tchn2, k_tchnT, k_tchnF, k_tchn4, k_idx1, k_dgt1, k_slc1, k_slc2, k_neg, k_not, k_non, k_ifeT, k_ifeF, k_cal1, k_cal2, k_cal3, k_isi, k_intO, k_bl, k_tcmp1, k_tnot, k_tandT, k_tandF, k_torT, k_torF, k_dsp, k_seqT, k_seqL, k_comp, d_add, d_sub, d_lt, d_le, d_gt, d_ge, d_eqS, d_neS, d_eqI, d_neI, d_neNil, ob_of, ob_dk, ob_dt, ob_ls, ob_lk, look_k, look_t, dct_k, dct_t, stor_k, stor_t, stor_l, apnd_l, lst_l, lock_n, lock_l, lenD_o, getD_k, inD_o, i_obD, i_obT, i_obL, gc_len, gc_same, gc_keep, gc_new, gc_drop, gc_stk, p_gc, scp_pure, scps_pure, scp_int, scp_str, scp_bl, scp_non, scp_tup, scp_lst, scps_nil, scps_cons, d_min, d_max, d_abs, d_lenT, d_lenL, d_tupL, d_tupT, d_lstL, d_lstT, i_t0, i_l0, i_t1, i_l1, i_t2, i_l2, i_t3, i_l3, i_t4, i_l4, i_t5, i_l5, i_t6, i_l6, i_t7, i_l7, tr_bl, tr_int, tr_non, tr_tup, tr_lst, y_nil, y_cons, y_next, y_ret, y_brk, y_cnt, y_asg, y_par, y_par1, y_par2, y_ownL, y_ownK, y_ownF, y_ownC, y_ownCT, y_ownCL, y_ownFK, y_app, y_appK, y_app2, y_ext, y_extK, y_extT, y_extL, y_star, y_starK, y_row, y_aug, y_augK, y_augA, y_augT, y_augS, y_setd, y_set1, y_set2, y_set3, y_storK, y_expr, y_exprK, y_ret1, y_retK, y_retn, y_ifs, y_ifsT, y_ifsF, y_forr, y_forK, y_whil, y_pas, y_brk1, y_cnt1, y_frz, y_frzK, m_nm, m_tpT, m_tpL, g_tpL, y_appo, y_apo1, y_apo2, y_asgK, fin_ret, fin_next, g_nm, g_tp, g_nil, g_cons, of_nil, of_cons, ofS_non, ofS_val, ofS_none, wi_nil, wi_cons, q_tf, q_ta, k_andT, k_andF, k_orT, k_orF, Res.bind_ok, SRes.of_ok, Option.bind_some, List.getElem?_cons_zero, List.getElem?_cons_succ, List.set_cons_zero, List.set_cons_succ, List.length_cons, List.length_nil, if_true, if_false, Nat.reduceAdd, Nat.reduceLT, Nat.zero_add, decide_true, decide_false, Bool.not_true, Bool.not_false, not_true_eq_false, not_false_eq_true, eq_self, d_mul h1, d_mul h2]
theorem r_lesser (n : Nat) (t u : Int × Int) (M : Sto) (h1 : widthOk t.1 u.2 = true) (h2 : widthOk u.1 t.2 = true) : cal (n + 2) i_lesser [frD t, frD u] M = .ok (if u.1 * t.2 < t.1 * u.2 then frD u else frD t) M := by
  rw [st_lesser]
  simp only [b_lesser, C_cal, C_arr, C_gl, lkK_val, pkK_own, x_cint, x_cstr, x_cbl, x_cnon, x_var, x_glob, x_fnv, x_tup, x_lst, x_bin, x_neg, x_cmp, x_chn, x_andv, x_orv, x_one, x_notv, x_ife, x_idx, x_dgt, x_slc, x_call, x_blt, x_isi, x_comp, x_dsp, x_dnew, x_get2, x_get1, k_g2a, k_g2b, k_g2c, k_g1a, k_g1b, pk_dnew, pk_get2, pk_get1, xs_nil, xs_cons, xp_nil, xp_cons, xo_non, xo_som, xt_val, xt_cmp, xt_chn, xt_not, xt_and, xt_or, xt_one, xq_nil, xq_one, xi_seq, xi_enum, xi_items, xi_zip, k_zip1, k_zipT, k_zipL, k_enuT, k_enuL, k_itm, k_seqO, x_stp, k_stp1, k_revT, k_revL, k_evnT, k_evnL, x_lnew, k_lnw, x_lrng1, x_lrng2, k_lrgT, k_lrgF, x_dcompK, x_dcompT, k_dcK, k_dcT, k_dkK, k_dtK, pk_lnew, pk_stp, pk_lrng, pk_dcomp, xi_rng1, xi_rng2, pk_own, pk_cint, pk_cstr, pk_cbl, pk_cnon, pk_var, pk_glob, pk_fnv, pk_tup, pk_lst, pk_bin, pk_neg, pk_cmp, pk_chn, pk_andv, pk_orv, pk_one, pk_notv, pk_ife, pk_idx, pk_dgt, pk_slc, pk_call, pk_blt, pk_isi, pk_comp, pk_dsp, k_tup, k_lst, k_con1, k_pcon1, k_con2, k_bin1, k_cmp1, k_chn1, k_chn2, k_chnT, k_chnF, k_chn4, k_tchn1, k_tchn2, k_tchnT, k_tchnF, k_tchn4, k_idx1, k_dgt1, k_slc1, k_slc2, k_neg, k_not, k_non, k_ifeT, k_ifeF, k_cal1, k_cal2, k_cal3, k_isi, k_intO, k_bl, k_tcmp1, k_tnot, k_tandT, k_tandF, k_torT, k_torF, k_dsp, k_seqT, k_seqL, k_comp, d_add, d_sub, d_lt, d_le, d_gt, d_ge, d_eqS, d_neS, d_eqI, d_neI, d_neNil, ob_of, ob_dk, ob_dt, ob_ls, ob_lk, look_k, look_t, dct_k, dct_t, stor_k, stor_t, stor_l, apnd_l, lst_l, lock_n, lock_l, lenD_o, getD_k, inD_o, i_obD, i_obT, i_obL, gc_len, gc_same, gc_keep, gc_new, gc_drop, gc_stk, p_gc, scp_pure, scps_pure, scp_int, scp_str, scp_bl, scp_non, scp_tup, scp_lst, scps_nil, scps_cons, d_min, d_max, d_abs, d_lenT, d_lenL, d_tupL, d_tupT, d_lstL, d_lstT, i_t0, i_l0, i_t1, i_l1, i_t2, i_l2, i_t3, i_l3, i_t4, i_l4, i_t5, i_l5, i_t6, i_l6, i_t7, i_l7, tr_bl, tr_int, tr_non, tr_tup, tr_lst, y_nil, y_cons, y_next, y_ret, y_brk, y_cnt, y_asg, y_par, y_par1, y_par2, y_ownL, y_ownK, y_ownF, y_ownC, y_ownCT, y_ownCL, y_ownFK, y_app, y_appK, y_app2, y_ext, y_extK, y_extT, y_extL, y_star, y_starK, y_row, y_aug, y_augK, y_augA, y_augT, y_augS, y_setd, y_set1, y_set2, y_set3, y_storK, y_expr, y_exprK, y_ret1, y_retK, y_retn, y_ifs, y_ifsT, y_ifsF, y_forr, y_forK, y_whil, y_pas, y_brk1, y_cnt1, y_frz, y_frzK, m_nm, m_tpT, m_tpL, g_tpL, y_appo, y_apo1, y_apo2, y_asgK, fin_ret, fin_next, g_nm, g_tp, g_nil, g_cons, of_nil, of_cons, ofS_non, ofS_val, ofS_none, wi_nil, wi_cons, q_tf, q_ta, k_andT, k_andF, k_orT, k_orF, Res.bind_ok, SRes.of_ok, Option.bind_some, List.getElem?_cons_zero, List.getElem?_cons_succ, List.set_cons_zero, List.set_cons_succ, List.length_cons, List.length_nil, if_true, if_false, Nat.reduceAdd, Nat.reduceLT, Nat.zero_add, decide_true, decide_false, Bool.not_true, Bool.not_false, not_true_eq_false, not_false_eq_true, eq_self, p_bind, p_of, p_then, p_fin, k_ifeD, y_ifsD, k_ifeN, y_ifsN, as_is_less_2, r_is_less n u t M h2 h1]
  split <;> rfl
theorem r_wholes (n : Nat) (t : Int × Int) (M : Sto) (h : 0 < t.2) (h1 : t.2.natAbs < 2 ^ 4000) : cal (n + 1) i_wholes [frD t] M = .ok (.int (t.1 / t.2)) M := by
  rw [st_wholes]
  simp only [frD, b_wholes, C_cal, C_arr, C_gl, lkK_val, pkK_own, x_cint, x_cstr, x_cbl, x_cnon, x_var, x_glob, x_fnv, x_tup, x_lst, x_bin, x_neg, x_cmp, x_chn, x_andv, x_orv, x_one, x_notv, x_ife, x_idx, x_dgt, x_slc, x_call, x_blt, x_isi, x_comp, x_dsp, x_dnew, x_get2, x_get1, k_g2a, k_g2b, k_g2c, k_g1a, k_g1b, pk_dnew, pk_get2, pk_get1, xs_nil, xs_cons, xp_nil, xp_cons, xo_non, xo_som, xt_val, xt_cmp, xt_chn, xt_not, xt_and, xt_or, xt_one, xq_nil, xq_one, xi_seq, xi_enum, xi_items, xi_zip, k_zip1, k_zipT, k_zipL, k_enuT, k_enuL, k_itm, k_seqO, x_stp, k_stp1, k_revT, k_revL, k_evnT, k_evnL, x_lnew, k_lnw, x_lrng1, x_lrng2, k_lrgT, k_lrgF, x_dcompK, x_dcompT, k_dcK, k_dcT, k_dkK, k_dtK, pk_lnew, pk_stp, pk_lrng, pk_dcomp, xi_rng1, xi_rng2, pk_own, pk_cint, pk_cstr, pk_cbl, pk_cnon, pk_var, pk_glob, pk_fnv, pk_tup, pk_lst, pk_bin, pk_neg, pk_cmp, pk_chn, pk_andv, pk_orv, pk_one, pk_notv, pk_ife, pk_idx, pk_dgt, pk_slc, pk_call, pk_blt, pk_isi, pk_comp, pk_dsp, k_tup, k_lst, k_con1, k_pcon1, k_con2, k_bin1, k_cmp1, k_chn1, k_chn2, k_chnT, k_chnF, k_chn4, k_tchn1, k_tchn2, k_tchnT, k_tchnF, k_tchn4, k_idx1, k_dgt1, k_slc1, k_slc2, k_neg, k_not, k_non, k_ifeT, k_ifeF, k_cal1, k_cal2, k_cal3, k_isi, k_intO, k_bl, k_tcmp1, k_tnot, k_tandT, k_tandF, k_torT, k_torF, k_dsp, k_seqT, k_seqL, k_comp, d_add, d_sub, d_lt, d_le, d_gt, d_ge, d_eqS, d_neS, d_eqI, d_neI, d_neNil, ob_of, ob_dk, ob_dt, ob_ls, ob_lk, look_k, look_t, dct_k, dct_t, stor_k, stor_t, stor_l, apnd_l, lst_l, lock_n, lock_l, lenD_o, getD_k, inD_o, i_obD, i_obT, i_obL, gc_len, gc_same, gc_keep, gc_new, gc_drop, gc_stk, p_gc, scp_pure, scps_pure, scp_int, scp_str, scp_bl, scp_non, scp_tup, scp_lst, scps_nil, scps_cons, d_min, d_max, d_abs, d_lenT, d_lenL, d_tupL, d_tupT, d_lstL, d_lstT, i_t0, i_l0, i_t1, i_l1, i_t2, i_l2, i_t3, i_l3, i_t4, i_l4, i_t5, i_l5, i_t6, i_l6, i_t7, i_l7, tr_bl, tr_int, tr_non, tr_tup, tr_lst, y_nil, y_cons, y_next, y_ret, y_brk, y_cnt, y_asg, y_par, y_par1, y_par2, y_ownL, y_ownK, y_ownF, y_ownC, y_ownCT, y_ownCL, y_ownFK, y_app, y_appK, y_app2, y_ext, y_extK, y_extT, y_extL, y_star, y_starK, y_row, y_aug, y_augK, y_augA, y_augT, y_augS, y_setd, y_set1, y_set2, y_set3, y_storK, y_expr, y_exprK, y_ret1, y_retK, y_retn, y_ifs, y_ifsT, y_ifsF, y_forr, y_forK, y_whil, y_pas, y_brk1, y_cnt1, y_frz, y_frzK, m_nm, m_tpT, m_tpL, g_tpL, y_appo, y_apo1, y_apo2, y_asgK, fin_ret, fin_next, g_nm, g_tp, g_nil, g_cons, of_nil, of_cons, ofS_non, ofS_val, ofS_none, wi_nil, wi_cons, q_tf, q_ta, k_andT, k_andF, k_orT, k_orF, Res.bind_ok, SRes.of_ok, Option.bind_some, List.getElem?_cons_zero, List.getElem?_cons_succ, List.set_cons_zero, List.set_cons_succ, List.length_cons, List.length_nil, if_true, if_false, Nat.reduceAdd, Nat.reduceLT, Nat.zero_add, decide_true, decide_false, Bool.not_true, Bool.not_false, not_true_eq_false, not_false_eq_true, eq_self, d_fdiv h h1]
/-- the division's wholes are the fraction's -/
theorem wholes_eq {a b : Int} (hb : 0 < b) : (ratioL a b).1 / (ratioL a b).2 = a / b := by
  have g := gcd_pos' (a := a) hb
  obtain ⟨x, hx⟩ := Int.gcd_dvd_left a b
  obtain ⟨y, hy⟩ := Int.gcd_dvd_right a b
  show a / ((Int.gcd a b : Nat) : Int) / (b / ((Int.gcd a b : Nat) : Int)) = a / b
  generalize ((Int.gcd a b : Nat) : Int) = d at hx hy g ⊢
  have e1 : a / d = x := by rw [hx]; exact Int.mul_ediv_cancel_left x (by omega)
  have e2 : b / d = y := by rw [hy]; exact Int.mul_ediv_cancel_left y (by omega)
  rw [e1, e2, hx, hy, Int.mul_ediv_mul_of_pos _ _ g]
/-- a fraction in its least terms -/
structure Tk (k : Nat) (t : Int × Int) : Prop where
  fr : Fr k t
  co : Int.gcd t.1 t.2 = 1
theorem Tk.up {k l : Nat} {t : Int × Int} (h : Tk k t) (hl : k ≤ l) : Tk l t := ⟨h.fr.up hl, h.co⟩
theorem ratioL_tk {k : Nat} {a b : Int} (ha : 0 ≤ a) (hb : 0 < b) (h1 : bd k a) (h2 : bd k b) : Tk k (ratioL a b) :=
  ⟨ratioL_ok ha hb h1 h2, Int.gcd_ediv_gcd_ediv_gcd (by have := gcd_pos' (a := a) hb; omega)⟩
theorem ratioL_co {t : Int × Int} (h : Int.gcd t.1 t.2 = 1) : ratioL t.1 t.2 = t := by
  unfold ratioL
  rw [h]
  simp
theorem plusL_tk {k l : Nat} {t u : Int × Int} (h : Tk k t) (g : Fr l u) : Tk (k + l + 1) (plusL t u) := by
  refine ratioL_tk ?_ (Int.mul_pos h.fr.p g.p) ?_ ((h.fr.bp.mul g.bp).up (by omega))
  · exact Int.add_nonneg (Int.mul_nonneg h.fr.n (Int.le_of_lt g.p)) (Int.mul_nonneg g.n (Int.le_of_lt h.fr.p))
  · exact (h.fr.bn.mul g.bp).add (by have := g.bn.mul h.fr.bp; rw [Nat.add_comm] at this; exact this)
/-- what is left of the tokens -/
def lessL (t : Int × Int) (m : Int) : Int × Int := (t.1 - m * t.2, t.2)
theorem wh_nn {k : Nat} {t : Int × Int} (h : Fr k t) : 0 ≤ t.1 / t.2 := Int.ediv_nonneg h.n (Int.le_of_lt h.p)
theorem wh_le {k : Nat} {t : Int × Int} (h : Fr k t) : t.1 / t.2 * t.2 ≤ t.1 := Int.ediv_mul_le t.1 (by have := h.p; omega)
theorem mul_le {k : Nat} {t : Int × Int} (h : Fr k t) {m : Int} (hm : m ≤ t.1 / t.2) : m * t.2 ≤ t.1 :=
  Int.le_trans (Int.mul_le_mul_of_nonneg_right hm (Int.le_of_lt h.p)) (wh_le h)
theorem lessL_tk {k : Nat} {t : Int × Int} (h : Tk k t) {m : Int} (h0 : 0 ≤ m) (hm : m ≤ t.1 / t.2) : Tk k (lessL t m) := by
  have a := mul_le h.fr hm
  have b : 0 ≤ m * t.2 := Int.mul_nonneg h0 (Int.le_of_lt h.fr.p)
  refine ⟨⟨?_, h.fr.p, h.fr.bn.le (i := t.1 - m * t.2) (by omega) (by omega), h.fr.bp⟩, ?_⟩
  · show 0 ≤ t.1 - m * t.2
    omega
  · show Int.gcd (t.1 - m * t.2) t.2 = 1
    rw [Int.gcd_sub_mul_right_left]
    exact h.co
theorem r_paid (n : Nat) {k : Nat} {t : Int × Int} (h : Tk k t) (hk : k ≤ 1000) (c : Int) (hc : 0 ≤ c) (m : Int) (hm : m = if c < t.1 / t.2 then c else t.1 / t.2) : cal (n + 2) i_paid [frD t, .int c] M = .ok (.tup [frD (lessL t m), .int m]) M := by
  have m0 : 0 ≤ m := by have := wh_nn h.fr; rw [hm]; split <;> omega
  have m1 : m ≤ t.1 / t.2 := by rw [hm]; split <;> omega
  have tk := lessL_tk h m0 m1
  have bm : bd k m := (h.fr.bn.div h.fr.n h.fr.p).le m0 m1
  have e1 := r_wholes n t M h.fr.p (h.fr.bp.up (by omega))
  have e2 := r_ratio n (t.1 - m * t.2) t.2 M tk.fr.n h.fr.p (h.fr.bp.up (by omega))
  have e3 : ratioL (t.1 - m * t.2) t.2 = lessL t m := ratioL_co tk.co
  rw [e3] at e2
  rw [st_paid]
  simp only [frD] at e1 e2 ⊢
  simp only [b_paid, C_cal, C_arr, C_gl, lkK_val, pkK_own, x_cint, x_cstr, x_cbl, x_cnon, x_var, x_glob, x_fnv, x_tup, x_lst, x_bin, x_neg, x_cmp, x_chn, x_andv, x_orv, x_one, x_notv, x_ife, x_idx, x_dgt, x_slc, x_call, x_blt, x_isi, x_comp, x_dsp, x_dnew, x_get2, x_get1, k_g2a, k_g2b, k_g2c, k_g1a, k_g1b, pk_dnew, pk_get2, pk_get1, xs_nil, xs_cons, xp_nil, xp_cons, xo_non, xo_som, xt_val, xt_cmp, xt_chn, xt_not, xt_and, xt_or, xt_one, xq_nil, xq_one, xi_seq, xi_enum, xi_items, xi_zip, k_zip1, k_zipT, k_zipL, k_enuT, k_enuL, k_itm, k_seqO, x_stp, k_stp1, k_revT, k_revL, k_evnT, k_evnL, x_lnew, k_lnw, x_lrng1, x_lrng2, k_lrgT, k_lrgF, x_dcompK, x_dcompT, k_dcK, k_dcT, k_dkK, k_dtK, pk_lnew, pk_stp, pk_lrng, pk_dcomp, xi_rng1, xi_rng2, pk_own, pk_cint, pk_cstr, pk_cbl, pk_cnon, pk_var, pk_glob, pk_fnv, pk_tup, pk_lst, pk_bin, pk_neg, pk_cmp, pk_chn, pk_andv, pk_orv, pk_one, pk_notv, pk_ife, pk_idx, pk_dgt, pk_slc, pk_call, pk_blt, pk_isi, pk_comp, pk_dsp, k_tup, k_lst, k_con1, k_pcon1, k_con2, k_bin1, k_cmp1, k_chn1, k_chn2, k_chnT, k_chnF, k_chn4, k_tchn1, k_tchn2, k_tchnT, k_tchnF, k_tchn4, k_idx1, k_dgt1, k_slc1, k_slc2, k_neg, k_not, k_non, k_ifeT, k_ifeF, k_cal1, k_cal2, k_cal3, k_isi, k_intO, k_bl, k_tcmp1, k_tnot, k_tandT, k_tandF, k_torT, k_torF, k_dsp, k_seqT, k_seqL, k_comp, d_add, d_sub, d_lt, d_le, d_gt, d_ge, d_eqS, d_neS, d_eqI, d_neI, d_neNil, ob_of, ob_dk, ob_dt, ob_ls, ob_lk, look_k, look_t, dct_k, dct_t, stor_k, stor_t, stor_l, apnd_l, lst_l, lock_n, lock_l, lenD_o, getD_k, inD_o, i_obD, i_obT, i_obL, gc_len, gc_same, gc_keep, gc_new, gc_drop, gc_stk, p_gc, scp_pure, scps_pure, scp_int, scp_str, scp_bl, scp_non, scp_tup, scp_lst, scps_nil, scps_cons, d_min, d_max, d_abs, d_lenT, d_lenL, d_tupL, d_tupT, d_lstL, d_lstT, i_t0, i_l0, i_t1, i_l1, i_t2, i_l2, i_t3, i_l3, i_t4, i_l4, i_t5, i_l5, i_t6, i_l6, i_t7, i_l7, tr_bl, tr_int, tr_non, tr_tup, tr_lst, y_nil, y_cons, y_next, y_ret, y_brk, y_cnt, y_asg, y_par, y_par1, y_par2, y_ownL, y_ownK, y_ownF, y_ownC, y_ownCT, y_ownCL, y_ownFK, y_app, y_appK, y_app2, y_ext, y_extK, y_extT, y_extL, y_star, y_starK, y_row, y_aug, y_augK, y_augA, y_augT, y_augS, y_setd, y_set1, y_set2, y_set3, y_storK, y_expr, y_exprK, y_ret1, y_retK, y_retn, y_ifs, y_ifsT, y_ifsF, y_forr, y_forK, y_whil, y_pas, y_brk1, y_cnt1, y_frz, y_frzK, m_nm, m_tpT, m_tpL, g_tpL, y_appo, y_apo1, y_apo2, y_asgK, fin_ret, fin_next, g_nm, g_tp, g_nil, g_cons, of_nil, of_cons, ofS_non, ofS_val, ofS_none, wi_nil, wi_cons, q_tf, q_ta, k_andT, k_andF, k_orT, k_orF, Res.bind_ok, SRes.of_ok, Option.bind_some, List.getElem?_cons_zero, List.getElem?_cons_succ, List.set_cons_zero, List.set_cons_succ, List.length_cons, List.length_nil, if_true, if_false, Nat.reduceAdd, Nat.reduceLT, Nat.zero_add, decide_true, decide_false, Bool.not_true, Bool.not_false, not_true_eq_false, not_false_eq_true, eq_self, as_wholes_1, e1, ← hm, d_mul (bm.w h.fr.bp), as_ratio_2, e2]
/-- the tokens at the tick's start -/
def grownL (r : Int × Int) (c : Int) (t : Int × Int) : Int × Int := if c * (plusL t r).2 < (plusL t r).1 * 1 then (c, 1) else plusL t r
theorem grownL_tk {k : Nat} {r : Int × Int} {c : Int} {t : Int × Int} (h : Tk k t) (g : Fr 3 r) (hc : 0 < c ∧ c ≤ 6) : Tk (k + 4) (grownL r c t) := by
  unfold grownL
  split
  · exact ⟨⟨by show 0 ≤ c; omega, by show (0 : Int) < 1; decide, (bd_of (k := 4) (by decide) (by show -(2 ^ 4) < c; omega) (by show c < 2 ^ 4; omega)).up (by omega), (bd_of (k := 4) (i := 1) (by decide) (by decide) (by decide)).up (by omega)⟩, by show Int.gcd c 1 = 1; simp⟩
  · exact (plusL_tk h g).up (by omega)
theorem r_grown (n : Nat) {k : Nat} {r : Int × Int} {c : Int} {t : Int × Int} (h : Tk k t) (hk : k ≤ 900) (g : Fr 3 r) (hc : 0 < c ∧ c ≤ 6) : cal (n + 3) i_grown [frD t, .tup [frD r, .int c]] M = .ok (frD (grownL r c t)) M := by
  have e1 := r_added n M h.fr g (by omega)
  have p := (plusL_tk h g).fr
  have bc : bd 4 c := bd_of (by decide) (by omega) (by omega)
  have b1 : bd 1 1 := bd_of (by decide) (by decide) (by decide)
  have e2 := r_lesser n (plusL t r) (c, 1) M (p.bn.w b1) (bc.w p.bp)
  rw [st_grown]
  simp only [frD] at e1 e2 ⊢
  simp only [b_grown, C_cal, C_arr, C_gl, lkK_val, pkK_own, x_cint, x_cstr, x_cbl, x_cnon, x_var, x_glob, x_fnv, x_tup, x_lst, x_bin, x_neg, x_cmp, x_chn, x_andv, x_orv, x_one, x_notv, x_ife, x_idx, x_dgt, x_slc, x_call, x_blt, x_isi, x_comp, x_dsp, x_dnew, x_get2, x_get1, k_g2a, k_g2b, k_g2c, k_g1a, k_g1b, pk_dnew, pk_get2, pk_get1, xs_nil, xs_cons, xp_nil, xp_cons, xo_non, xo_som, xt_val, xt_cmp, xt_chn, xt_not, xt_and, xt_or, xt_one, xq_nil, xq_one, xi_seq, xi_enum, xi_items, xi_zip, k_zip1, k_zipT, k_zipL, k_enuT, k_enuL, k_itm, k_seqO, x_stp, k_stp1, k_revT, k_revL, k_evnT, k_evnL, x_lnew, k_lnw, x_lrng1, x_lrng2, k_lrgT, k_lrgF, x_dcompK, x_dcompT, k_dcK, k_dcT, k_dkK, k_dtK, pk_lnew, pk_stp, pk_lrng, pk_dcomp, xi_rng1, xi_rng2, pk_own, pk_cint, pk_cstr, pk_cbl, pk_cnon, pk_var, pk_glob, pk_fnv, pk_tup, pk_lst, pk_bin, pk_neg, pk_cmp, pk_chn, pk_andv, pk_orv, pk_one, pk_notv, pk_ife, pk_idx, pk_dgt, pk_slc, pk_call, pk_blt, pk_isi, pk_comp, pk_dsp, k_tup, k_lst, k_con1, k_pcon1, k_con2, k_bin1, k_cmp1, k_chn1, k_chn2, k_chnT, k_chnF, k_chn4, k_tchn1, k_tchn2, k_tchnT, k_tchnF, k_tchn4, k_idx1, k_dgt1, k_slc1, k_slc2, k_neg, k_not, k_non, k_ifeT, k_ifeF, k_cal1, k_cal2, k_cal3, k_isi, k_intO, k_bl, k_tcmp1, k_tnot, k_tandT, k_tandF, k_torT, k_torF, k_dsp, k_seqT, k_seqL, k_comp, d_add, d_sub, d_lt, d_le, d_gt, d_ge, d_eqS, d_neS, d_eqI, d_neI, d_neNil, ob_of, ob_dk, ob_dt, ob_ls, ob_lk, look_k, look_t, dct_k, dct_t, stor_k, stor_t, stor_l, apnd_l, lst_l, lock_n, lock_l, lenD_o, getD_k, inD_o, i_obD, i_obT, i_obL, gc_len, gc_same, gc_keep, gc_new, gc_drop, gc_stk, p_gc, scp_pure, scps_pure, scp_int, scp_str, scp_bl, scp_non, scp_tup, scp_lst, scps_nil, scps_cons, d_min, d_max, d_abs, d_lenT, d_lenL, d_tupL, d_tupT, d_lstL, d_lstT, i_t0, i_l0, i_t1, i_l1, i_t2, i_l2, i_t3, i_l3, i_t4, i_l4, i_t5, i_l5, i_t6, i_l6, i_t7, i_l7, tr_bl, tr_int, tr_non, tr_tup, tr_lst, y_nil, y_cons, y_next, y_ret, y_brk, y_cnt, y_asg, y_par, y_par1, y_par2, y_ownL, y_ownK, y_ownF, y_ownC, y_ownCT, y_ownCL, y_ownFK, y_app, y_appK, y_app2, y_ext, y_extK, y_extT, y_extL, y_star, y_starK, y_row, y_aug, y_augK, y_augA, y_augT, y_augS, y_setd, y_set1, y_set2, y_set3, y_storK, y_expr, y_exprK, y_ret1, y_retK, y_retn, y_ifs, y_ifsT, y_ifsF, y_forr, y_forK, y_whil, y_pas, y_brk1, y_cnt1, y_frz, y_frzK, m_nm, m_tpT, m_tpL, g_tpL, y_appo, y_apo1, y_apo2, y_asgK, fin_ret, fin_next, g_nm, g_tp, g_nil, g_cons, of_nil, of_cons, ofS_non, ofS_val, ofS_none, wi_nil, wi_cons, q_tf, q_ta, k_andT, k_andF, k_orT, k_orF, Res.bind_ok, SRes.of_ok, Option.bind_some, List.getElem?_cons_zero, List.getElem?_cons_succ, List.set_cons_zero, List.set_cons_succ, List.length_cons, List.length_nil, if_true, if_false, Nat.reduceAdd, Nat.reduceLT, Nat.zero_add, decide_true, decide_false, Bool.not_true, Bool.not_false, not_true_eq_false, not_false_eq_true, eq_self, as_added_2, e1, as_lesser_2, e2, grownL]
  split <;> rfl
end
end Mp.Lw
end

section
set_option Elab.async false
set_option linter.all false
set_option maxRecDepth 100000
set_option maxHeartbeats 0
namespace Mp.Lw
open PySem PySem.Spec
def shD (r : Int × Int) (c : Int) : D := .tup [frD r, .int c]
def manyL (r : Int × Int) (c : Int) (t : Int × Int) : Int := (grownL r c t).1 / (grownL r c t).2
def stepL (r : Int × Int) (c : Int) (t : Int × Int) : Int × Int := lessL (grownL r c t) (manyL r c t)
def tailL (r : Int × Int) (c : Int) : Nat → Int × Int → Int × Int
  | 0, t => t
  | k + 1, t => tailL r c k (stepL r c t)
def paceL (r : Int × Int) (c : Int) : Nat → Int × Int → List Int
  | 0, _ => []
  | k + 1, t => manyL r c t :: paceL r c k (stepL r c t)
theorem paceL_len (r : Int × Int) (c : Int) : ∀ k t, (paceL r c k t).length = k
  | 0, _ => rfl
  | k + 1, t => by rw [paceL, List.length_cons, paceL_len]
theorem paceL_take (r : Int × Int) (c : Int) : ∀ k m t, (paceL r c (k + m) t).take k = paceL r c k t
  | 0, m, t => by rw [List.take_zero]; rfl
  | k + 1, m, t => by rw [show k + 1 + m = (k + m) + 1 by omega, paceL, List.take_succ_cons, paceL_take]; rfl
theorem paceL_cat (r : Int × Int) (c : Int) : ∀ k m t, paceL r c k t ++ paceL r c m (tailL r c k t) = paceL r c (k + m) t
  | 0, m, t => by rw [Nat.zero_add]; rfl
  | k + 1, m, t => by rw [show k + 1 + m = (k + m) + 1 by omega, paceL, paceL, tailL, List.cons_append, paceL_cat]
section
variable {f : Ob} {R : Sto} {M : Sto} {b : Nat}
section
variable {r : Int × Int} {c : Int} (g : Fr 3 r) (hc : 0 < c ∧ c ≤ 6)
include g hc
theorem stepL_tk {k : Nat} {t : Int × Int} (h : Tk k t) : Tk (k + 4) (stepL r c t) := by
  have q := grownL_tk h g hc
  exact lessL_tk q (wh_nn q.fr) (Int.le_refl _)
theorem tailL_tk : ∀ (m : Nat) {k : Nat} {t : Int × Int}, Tk k t → Tk (k + 4 * m) (tailL r c m t)
  | 0, k, t, h => h
  | m + 1, k, t, h => (tailL_tk m (stepL_tk g hc h)).up (by omega)
theorem manyL_bd {k : Nat} {t : Int × Int} (h : Tk k t) : 0 ≤ manyL r c t ∧ bd (k + 4) (manyL r c t) := by
  have q := grownL_tk h g hc
  exact ⟨wh_nn q.fr, q.fr.bn.div q.fr.n q.fr.p⟩
theorem paceL_nn : ∀ (m : Nat) {k : Nat} {t : Int × Int}, Tk k t → ∀ x ∈ paceL r c m t, 0 ≤ x ∧ bd (k + 4 * m) x
  | 0, k, t, h, x, hx => by cases hx
  | m + 1, k, t, h, x, hx => by
    rcases List.mem_cons.mp hx with rfl | hx
    · exact ⟨(manyL_bd g hc h).1, (manyL_bd g hc h).2.up (by omega)⟩
    · have := paceL_nn m (stepL_tk g hc h) x hx
      exact ⟨this.1, this.2.up (by omega)⟩
theorem pc_loop (n : Nat) (x1 : Slot) : ∀ (m : Nat) (j : Int) (k : Nat) (t : Int × Int) (rs : List D) (x4 x5 : Slot), Tk k t → k + 4 * m ≤ 800 → rs.length + m ≤ 1000 →
    ∃ x4' x5', forL (forS (C (n + 3)) lg_pace_of_1 lb_pace_of_1) (iota j m) [.val (shD r c), x1, .val (frD t), .own rs, x4, x5] M = .next [.val (shD r c), x1, .val (frD (tailL r c m t)), .own (rs ++ (paceL r c m t).map .int), x4', x5'] M
  | 0, j, k, t, rs, x4, x5, h, hk, hl => ⟨x4, x5, by simp [iota, forL, paceL, tailL]⟩
  | m + 1, j, k, t, rs, x4, x5, h, hk, hl => by
    have q := grownL_tk h g hc
    obtain ⟨x4', x5', e⟩ := pc_loop n x1 m (j + 1) (k + 4) (stepL r c t) (rs ++ [.int (manyL r c t)]) (.val (.int j)) (.val (.int (manyL r c t))) (stepL_tk g hc h) (by omega) (by rw [List.length_append]; simp; omega)
    refine ⟨x4', x5', ?_⟩
    have e1 := r_grown (M := M) n h (by omega) g hc
    have e2 := r_wholes (n + 2) (grownL r c t) M q.fr.p (q.fr.bp.up (by omega))
    have e3 := r_paid (M := M) (n + 1) q (by omega) ((grownL r c t).1 / (grownL r c t).2) (wh_nn q.fr) (manyL r c t) (by simp [manyL])
    have hlt := len_line (xs := rs) (k := 1000) (by omega)
    rw [iota, forL_next [.val (shD r c), x1, .val (frD (stepL r c t)), .own (rs ++ [.int (manyL r c t)]), .val (.int j), .val (.int (manyL r c t))] M]
    · rw [e, paceL, tailL, List.map_cons, List.append_assoc]
      rfl
    · simp only [shD, frD] at e1 e2 e3 ⊢
      simp only [y_forS, lg_pace_of_1, lb_pace_of_1, C_cal, C_arr, C_gl, lkK_val, pkK_own, x_cint, x_cstr, x_cbl, x_cnon, x_var, x_glob, x_fnv, x_tup, x_lst, x_bin, x_neg, x_cmp, x_chn, x_andv, x_orv, x_one, x_notv, x_ife, x_idx, x_dgt, x_slc, x_call, x_blt, x_isi, x_comp, x_dsp, x_dnew, x_get2, x_get1, k_g2a, k_g2b, k_g2c, k_g1a, k_g1b, pk_dnew, pk_get2, pk_get1, xs_nil, xs_cons, xp_nil, xp_cons, xo_non, xo_som, xt_val, xt_cmp, xt_chn, xt_not, xt_and, xt_or, xt_one, xq_nil, xq_one, xi_seq, xi_enum, xi_items, xi_zip, k_zip1, k_zipT, k_zipL, k_enuT, k_enuL, k_itm, k_seqO, x_stp, k_stp1, k_revT, k_revL, k_evnT, k_evnL, x_lnew, k_lnw, x_lrng1, x_lrng2, k_lrgT, k_lrgF, x_dcompK, x_dcompT, k_dcK, k_dcT, k_dkK, k_dtK, pk_lnew, pk_stp, pk_lrng, pk_dcomp, xi_rng1, xi_rng2, pk_own, pk_cint, pk_cstr, pk_cbl, pk_cnon, pk_var, pk_glob, pk_fnv, pk_tup, pk_lst, pk_bin, pk_neg, pk_cmp, pk_chn, pk_andv, pk_orv, pk_one, pk_notv, pk_ife, pk_idx, pk_dgt, pk_slc, pk_call, pk_blt, pk_isi, pk_comp, pk_dsp, k_tup, k_lst, k_con1, k_pcon1, k_con2, k_bin1, k_cmp1, k_chn1, k_chn2, k_chnT, k_chnF, k_chn4, k_tchn1, k_tchn2, k_tchnT, k_tchnF, k_tchn4, k_idx1, k_dgt1, k_slc1, k_slc2, k_neg, k_not, k_non, k_ifeT, k_ifeF, k_cal1, k_cal2, k_cal3, k_isi, k_intO, k_bl, k_tcmp1, k_tnot, k_tandT, k_tandF, k_torT, k_torF, k_dsp, k_seqT, k_seqL, k_comp, d_add, d_sub, d_lt, d_le, d_gt, d_ge, d_eqS, d_neS, d_eqI, d_neI, d_neNil, ob_of, ob_dk, ob_dt, ob_ls, ob_lk, look_k, look_t, dct_k, dct_t, stor_k, stor_t, stor_l, apnd_l, lst_l, lock_n, lock_l, lenD_o, getD_k, inD_o, i_obD, i_obT, i_obL, gc_len, gc_same, gc_keep, gc_new, gc_drop, gc_stk, p_gc, scp_pure, scps_pure, scp_int, scp_str, scp_bl, scp_non, scp_tup, scp_lst, scps_nil, scps_cons, d_min, d_max, d_abs, d_lenT, d_lenL, d_tupL, d_tupT, d_lstL, d_lstT, i_t0, i_l0, i_t1, i_l1, i_t2, i_l2, i_t3, i_l3, i_t4, i_l4, i_t5, i_l5, i_t6, i_l6, i_t7, i_l7, tr_bl, tr_int, tr_non, tr_tup, tr_lst, y_nil, y_cons, y_next, y_ret, y_brk, y_cnt, y_asg, y_par, y_par1, y_par2, y_ownL, y_ownK, y_ownF, y_ownC, y_ownCT, y_ownCL, y_ownFK, y_app, y_appK, y_app2, y_ext, y_extK, y_extT, y_extL, y_star, y_starK, y_row, y_aug, y_augK, y_augA, y_augT, y_augS, y_setd, y_set1, y_set2, y_set3, y_storK, y_expr, y_exprK, y_ret1, y_retK, y_retn, y_ifs, y_ifsT, y_ifsF, y_forr, y_forK, y_whil, y_pas, y_brk1, y_cnt1, y_frz, y_frzK, m_nm, m_tpT, m_tpL, g_tpL, y_appo, y_apo1, y_apo2, y_asgK, fin_ret, fin_next, g_nm, g_tp, g_nil, g_cons, of_nil, of_cons, ofS_non, ofS_val, ofS_none, wi_nil, wi_cons, q_tf, q_ta, k_andT, k_andF, k_orT, k_orF, Res.bind_ok, SRes.of_ok, Option.bind_some, List.getElem?_cons_zero, List.getElem?_cons_succ, List.set_cons_zero, List.set_cons_succ, List.length_cons, List.length_nil, if_true, if_false, Nat.reduceAdd, Nat.reduceLT, Nat.zero_add, decide_true, decide_false, Bool.not_true, Bool.not_false, not_true_eq_false, not_false_eq_true, eq_self, as_grown_2, e1, as_wholes_1, e2, as_paid_2, e3, hlt, stepL]
theorem r_pace_of (n : Nat) {k : Nat} {t : Int × Int} (h : Tk k t) (m : Nat) (hk : k + 4 * m ≤ 800) : cal (n + 4) i_pace_of [shD r c, .int (m : Int), frD t] M = .ok (.tup ((paceL r c m t).map .int)) M := by
  obtain ⟨x4, x5, e⟩ := pc_loop (M := M) g hc n (.val (.int (m : Int))) m 0 k t [] .non .non h hk (by simp; omega)
  have rg : ∀ M : Sto, rng1K (.int (m : Int)) M = .ok (iota 0 m) M := fun M => by
    have := k_rng1 (n := (m : Int)) (M := M) (by omega)
    rw [Int.toNat_natCast] at this
    exact this
  rw [List.nil_append] at e
  rw [st_pace_of]
  simp only [b_pace_of, C_cal, C_arr, C_gl, lkK_val, pkK_own, x_cint, x_cstr, x_cbl, x_cnon, x_var, x_glob, x_fnv, x_tup, x_lst, x_bin, x_neg, x_cmp, x_chn, x_andv, x_orv, x_one, x_notv, x_ife, x_idx, x_dgt, x_slc, x_call, x_blt, x_isi, x_comp, x_dsp, x_dnew, x_get2, x_get1, k_g2a, k_g2b, k_g2c, k_g1a, k_g1b, pk_dnew, pk_get2, pk_get1, xs_nil, xs_cons, xp_nil, xp_cons, xo_non, xo_som, xt_val, xt_cmp, xt_chn, xt_not, xt_and, xt_or, xt_one, xq_nil, xq_one, xi_seq, xi_enum, xi_items, xi_zip, k_zip1, k_zipT, k_zipL, k_enuT, k_enuL, k_itm, k_seqO, x_stp, k_stp1, k_revT, k_revL, k_evnT, k_evnL, x_lnew, k_lnw, x_lrng1, x_lrng2, k_lrgT, k_lrgF, x_dcompK, x_dcompT, k_dcK, k_dcT, k_dkK, k_dtK, pk_lnew, pk_stp, pk_lrng, pk_dcomp, xi_rng1, xi_rng2, pk_own, pk_cint, pk_cstr, pk_cbl, pk_cnon, pk_var, pk_glob, pk_fnv, pk_tup, pk_lst, pk_bin, pk_neg, pk_cmp, pk_chn, pk_andv, pk_orv, pk_one, pk_notv, pk_ife, pk_idx, pk_dgt, pk_slc, pk_call, pk_blt, pk_isi, pk_comp, pk_dsp, k_tup, k_lst, k_con1, k_pcon1, k_con2, k_bin1, k_cmp1, k_chn1, k_chn2, k_chnT, k_chnF, k_chn4, k_tchn1, k_tchn2, k_tchnT, k_tchnF, k_tchn4, k_idx1, k_dgt1, k_slc1, k_slc2, k_neg, k_not, k_non, k_ifeT, k_ifeF, k_cal1, k_cal2, k_cal3, k_isi, k_intO, k_bl, k_tcmp1, k_tnot, k_tandT, k_tandF, k_torT, k_torF, k_dsp, k_seqT, k_seqL, k_comp, d_add, d_sub, d_lt, d_le, d_gt, d_ge, d_eqS, d_neS, d_eqI, d_neI, d_neNil, ob_of, ob_dk, ob_dt, ob_ls, ob_lk, look_k, look_t, dct_k, dct_t, stor_k, stor_t, stor_l, apnd_l, lst_l, lock_n, lock_l, lenD_o, getD_k, inD_o, i_obD, i_obT, i_obL, gc_len, gc_same, gc_keep, gc_new, gc_drop, gc_stk, p_gc, scp_pure, scps_pure, scp_int, scp_str, scp_bl, scp_non, scp_tup, scp_lst, scps_nil, scps_cons, d_min, d_max, d_abs, d_lenT, d_lenL, d_tupL, d_tupT, d_lstL, d_lstT, i_t0, i_l0, i_t1, i_l1, i_t2, i_l2, i_t3, i_l3, i_t4, i_l4, i_t5, i_l5, i_t6, i_l6, i_t7, i_l7, tr_bl, tr_int, tr_non, tr_tup, tr_lst, y_nil, y_cons, y_next, y_ret, y_brk, y_cnt, y_asg, y_par, y_par1, y_par2, y_ownL, y_ownK, y_ownF, y_ownC, y_ownCT, y_ownCL, y_ownFK, y_app, y_appK, y_app2, y_ext, y_extK, y_extT, y_extL, y_star, y_starK, y_row, y_aug, y_augK, y_augA, y_augT, y_augS, y_setd, y_set1, y_set2, y_set3, y_storK, y_expr, y_exprK, y_ret1, y_retK, y_retn, y_ifs, y_ifsT, y_ifsF, y_forr, y_forK, y_whil, y_pas, y_brk1, y_cnt1, y_frz, y_frzK, m_nm, m_tpT, m_tpL, g_tpL, y_appo, y_apo1, y_apo2, y_asgK, fin_ret, fin_next, g_nm, g_tp, g_nil, g_cons, of_nil, of_cons, ofS_non, ofS_val, ofS_none, wi_nil, wi_cons, q_tf, q_ta, k_andT, k_andF, k_orT, k_orF, Res.bind_ok, SRes.of_ok, Option.bind_some, List.getElem?_cons_zero, List.getElem?_cons_succ, List.set_cons_zero, List.set_cons_succ, List.length_cons, List.length_nil, if_true, if_false, Nat.reduceAdd, Nat.reduceLT, Nat.zero_add, decide_true, decide_false, Bool.not_true, Bool.not_false, not_true_eq_false, not_false_eq_true, eq_self, rg, e, gc_len]
/-! ### the cut -/
abbrev E7 (a b c d e f g : Slot) : Env := [a, b, c, d, e, f, g]
theorem ct_loop (n : Nat) (x1 x2 x3 x5 : Slot) : ∀ (m : Nat) (j : Int) (k : Nat) (t : Int × Int) (x4 : Slot), Tk k t → k + 4 * m ≤ 800 →
    ∃ x4', forL (forS (C (n + 3)) lg__law_cut_right_1 lb__law_cut_right_1) (iota j m) (E7 (.val (shD r c)) x1 x2 x3 x4 x5 (.val (frD t))) M = .next (E7 (.val (shD r c)) x1 x2 x3 x4' x5 (.val (frD (tailL r c m t)))) M
  | 0, j, k, t, x4, h, hk => ⟨x4, rfl⟩
  | m + 1, j, k, t, x4, h, hk => by
    have q := grownL_tk h g hc
    obtain ⟨x4', e⟩ := ct_loop n x1 x2 x3 x5 m (j + 1) (k + 4) (stepL r c t) (.val (.int j)) (stepL_tk g hc h) (by omega)
    refine ⟨x4', ?_⟩
    have e1 := r_grown (M := M) n h (by omega) g hc
    have e2 := r_wholes (n + 2) (grownL r c t) M q.fr.p (q.fr.bp.up (by omega))
    have e3 := r_paid (M := M) (n + 1) q (by omega) ((grownL r c t).1 / (grownL r c t).2) (wh_nn q.fr) (manyL r c t) (by simp [manyL])
    rw [iota, forL_next (E7 (.val (shD r c)) x1 x2 x3 (.val (.int j)) x5 (.val (frD (stepL r c t)))) M]
    · exact e
    · simp only [shD, frD] at e1 e2 e3 ⊢
      simp only [y_forS, lg__law_cut_right_1, lb__law_cut_right_1, E7, C_cal, C_arr, C_gl, lkK_val, pkK_own, x_cint, x_cstr, x_cbl, x_cnon, x_var, x_glob, x_fnv, x_tup, x_lst, x_bin, x_neg, x_cmp, x_chn, x_andv, x_orv, x_one, x_notv, x_ife, x_idx, x_dgt, x_slc, x_call, x_blt, x_isi, x_comp, x_dsp, x_dnew, x_get2, x_get1, k_g2a, k_g2b, k_g2c, k_g1a, k_g1b, pk_dnew, pk_get2, pk_get1, xs_nil, xs_cons, xp_nil, xp_cons, xo_non, xo_som, xt_val, xt_cmp, xt_chn, xt_not, xt_and, xt_or, xt_one, xq_nil, xq_one, xi_seq, xi_enum, xi_items, xi_zip, k_zip1, k_zipT, k_zipL, k_enuT, k_enuL, k_itm, k_seqO, x_stp, k_stp1, k_revT, k_revL, k_evnT, k_evnL, x_lnew, k_lnw, x_lrng1, x_lrng2, k_lrgT, k_lrgF, x_dcompK, x_dcompT, k_dcK, k_dcT, k_dkK, k_dtK, pk_lnew, pk_stp, pk_lrng, pk_dcomp, xi_rng1, xi_rng2, pk_own, pk_cint, pk_cstr, pk_cbl, pk_cnon, pk_var, pk_glob, pk_fnv, pk_tup, pk_lst, pk_bin, pk_neg, pk_cmp, pk_chn, pk_andv, pk_orv, pk_one, pk_notv, pk_ife, pk_idx, pk_dgt, pk_slc, pk_call, pk_blt, pk_isi, pk_comp, pk_dsp, k_tup, k_lst, k_con1, k_pcon1, k_con2, k_bin1, k_cmp1, k_chn1, k_chn2, k_chnT, k_chnF, k_chn4, k_tchn1, k_tchn2, k_tchnT, k_tchnF, k_tchn4, k_idx1, k_dgt1, k_slc1, k_slc2, k_neg, k_not, k_non, k_ifeT, k_ifeF, k_cal1, k_cal2, k_cal3, k_isi, k_intO, k_bl, k_tcmp1, k_tnot, k_tandT, k_tandF, k_torT, k_torF, k_dsp, k_seqT, k_seqL, k_comp, d_add, d_sub, d_lt, d_le, d_gt, d_ge, d_eqS, d_neS, d_eqI, d_neI, d_neNil, ob_of, ob_dk, ob_dt, ob_ls, ob_lk, look_k, look_t, dct_k, dct_t, stor_k, stor_t, stor_l, apnd_l, lst_l, lock_n, lock_l, lenD_o, getD_k, inD_o, i_obD, i_obT, i_obL, gc_len, gc_same, gc_keep, gc_new, gc_drop, gc_stk, p_gc, scp_pure, scps_pure, scp_int, scp_str, scp_bl, scp_non, scp_tup, scp_lst, scps_nil, scps_cons, d_min, d_max, d_abs, d_lenT, d_lenL, d_tupL, d_tupT, d_lstL, d_lstT, i_t0, i_l0, i_t1, i_l1, i_t2, i_l2, i_t3, i_l3, i_t4, i_l4, i_t5, i_l5, i_t6, i_l6, i_t7, i_l7, tr_bl, tr_int, tr_non, tr_tup, tr_lst, y_nil, y_cons, y_next, y_ret, y_brk, y_cnt, y_asg, y_par, y_par1, y_par2, y_ownL, y_ownK, y_ownF, y_ownC, y_ownCT, y_ownCL, y_ownFK, y_app, y_appK, y_app2, y_ext, y_extK, y_extT, y_extL, y_star, y_starK, y_row, y_aug, y_augK, y_augA, y_augT, y_augS, y_setd, y_set1, y_set2, y_set3, y_storK, y_expr, y_exprK, y_ret1, y_retK, y_retn, y_ifs, y_ifsT, y_ifsF, y_forr, y_forK, y_whil, y_pas, y_brk1, y_cnt1, y_frz, y_frzK, m_nm, m_tpT, m_tpL, g_tpL, y_appo, y_apo1, y_apo2, y_asgK, fin_ret, fin_next, g_nm, g_tp, g_nil, g_cons, of_nil, of_cons, ofS_non, ofS_val, ofS_none, wi_nil, wi_cons, q_tf, q_ta, k_andT, k_andF, k_orT, k_orF, Res.bind_ok, SRes.of_ok, Option.bind_some, List.getElem?_cons_zero, List.getElem?_cons_succ, List.set_cons_zero, List.set_cons_succ, List.length_cons, List.length_nil, if_true, if_false, Nat.reduceAdd, Nat.reduceLT, Nat.zero_add, decide_true, decide_false, Bool.not_true, Bool.not_false, not_true_eq_false, not_false_eq_true, eq_self, as_grown_2, e1, as_wholes_1, e2, as_paid_2, e3, stepL]
theorem ints_sw {k m : Nat} {l : List Int} (hl : ∀ x ∈ l, 0 ≤ x ∧ bd k x) (hm : l.length ≤ m) (hk : k ≤ 100) : Sw (.tup (l.map .int)) (m * 2002 + 3) 1 := by
  refine (Sw.tups (w := 2000) (d := 0) (n := m) (fun x hx => ?_) (by rw [List.length_map]; exact hm)).up (by omega) (by omega)
  obtain ⟨i, hi, rfl⟩ := List.mem_map.mp hx
  have := (hl i hi).2
  exact Sw.int (Nat.lt_of_lt_of_le this (Nat.pow_le_pow_right (by decide) (by omega)))
theorem r_cut_right (n : Nat) {k : Nat} {t : Int × Int} (h : Tk k t) (m a : Nat) (ha : a ≤ m) (hk : k + 4 * m ≤ 100) : cal (n + 5) i__law_cut_right [shD r c, frD t, .int (m : Int), .int (a : Int)] M = .ok (.bl true) M := by
  have e1 := r_pace_of (M := M) g hc n h m (by omega)
  obtain ⟨x4, e2⟩ := ct_loop (M := M) g hc (n + 1) (.val (frD t)) (.val (.int (m : Int))) (.val (.int (a : Int))) (.val (.tup ((paceL r c m t).map .int))) a 0 k t .non h (by omega)
  have e3 := r_pace_of (M := M) g hc n (tailL_tk g hc a h) (m - a) (by omega)
  have rg : ∀ M : Sto, rng1K (.int (a : Int)) M = .ok (iota 0 a) M := fun M => by
    have := k_rng1 (n := (a : Int)) (M := M) (by omega)
    rw [Int.toNat_natCast] at this
    exact this
  have sl : slcD (.tup ((paceL r c m t).map .int)) none (some (a : Int)) M = .ok (.tup ((paceL r c a t).map .int)) M := by
    rw [ids_take]
    obtain ⟨d, rfl⟩ : ∃ d, m = a + d := ⟨m - a, by omega⟩
    rw [paceL_take]
  have sm : (m : Int) - (a : Int) = ((m - a : Nat) : Int) := by omega
  have cat : binD .add (.tup ((paceL r c a t).map .int)) (.tup ((paceL r c (m - a) (tailL r c a t)).map .int)) M = .ok (.tup ((paceL r c m t).map .int)) M := by
    rw [d_catT (by rw [List.length_map, List.length_map, paceL_len, paceL_len]; unfold line; omega), ← List.map_append, paceL_cat, show a + (m - a) = m by omega]
  have sw := ints_sw g hc (paceL_nn g hc m h) (m := m) (by rw [paceL_len]; omega) (by omega)
  rw [st__law_cut_right]
  simp only [E7] at e2
  simp only [b__law_cut_right, C_cal, C_arr, C_gl, lkK_val, pkK_own, x_cint, x_cstr, x_cbl, x_cnon, x_var, x_glob, x_fnv, x_tup, x_lst, x_bin, x_neg, x_cmp, x_chn, x_andv, x_orv, x_one, x_notv, x_ife, x_idx, x_dgt, x_slc, x_call, x_blt, x_isi, x_comp, x_dsp, x_dnew, x_get2, x_get1, k_g2a, k_g2b, k_g2c, k_g1a, k_g1b, pk_dnew, pk_get2, pk_get1, xs_nil, xs_cons, xp_nil, xp_cons, xo_non, xo_som, xt_val, xt_cmp, xt_chn, xt_not, xt_and, xt_or, xt_one, xq_nil, xq_one, xi_seq, xi_enum, xi_items, xi_zip, k_zip1, k_zipT, k_zipL, k_enuT, k_enuL, k_itm, k_seqO, x_stp, k_stp1, k_revT, k_revL, k_evnT, k_evnL, x_lnew, k_lnw, x_lrng1, x_lrng2, k_lrgT, k_lrgF, x_dcompK, x_dcompT, k_dcK, k_dcT, k_dkK, k_dtK, pk_lnew, pk_stp, pk_lrng, pk_dcomp, xi_rng1, xi_rng2, pk_own, pk_cint, pk_cstr, pk_cbl, pk_cnon, pk_var, pk_glob, pk_fnv, pk_tup, pk_lst, pk_bin, pk_neg, pk_cmp, pk_chn, pk_andv, pk_orv, pk_one, pk_notv, pk_ife, pk_idx, pk_dgt, pk_slc, pk_call, pk_blt, pk_isi, pk_comp, pk_dsp, k_tup, k_lst, k_con1, k_pcon1, k_con2, k_bin1, k_cmp1, k_chn1, k_chn2, k_chnT, k_chnF, k_chn4, k_tchn1, k_tchn2, k_tchnT, k_tchnF, k_tchn4, k_idx1, k_dgt1, k_slc1, k_slc2, k_neg, k_not, k_non, k_ifeT, k_ifeF, k_cal1, k_cal2, k_cal3, k_isi, k_intO, k_bl, k_tcmp1, k_tnot, k_tandT, k_tandF, k_torT, k_torF, k_dsp, k_seqT, k_seqL, k_comp, d_add, d_sub, d_lt, d_le, d_gt, d_ge, d_eqS, d_neS, d_eqI, d_neI, d_neNil, ob_of, ob_dk, ob_dt, ob_ls, ob_lk, look_k, look_t, dct_k, dct_t, stor_k, stor_t, stor_l, apnd_l, lst_l, lock_n, lock_l, lenD_o, getD_k, inD_o, i_obD, i_obT, i_obL, gc_len, gc_same, gc_keep, gc_new, gc_drop, gc_stk, p_gc, scp_pure, scps_pure, scp_int, scp_str, scp_bl, scp_non, scp_tup, scp_lst, scps_nil, scps_cons, d_min, d_max, d_abs, d_lenT, d_lenL, d_tupL, d_tupT, d_lstL, d_lstT, i_t0, i_l0, i_t1, i_l1, i_t2, i_l2, i_t3, i_l3, i_t4, i_l4, i_t5, i_l5, i_t6, i_l6, i_t7, i_l7, tr_bl, tr_int, tr_non, tr_tup, tr_lst, y_nil, y_cons, y_next, y_ret, y_brk, y_cnt, y_asg, y_par, y_par1, y_par2, y_ownL, y_ownK, y_ownF, y_ownC, y_ownCT, y_ownCL, y_ownFK, y_app, y_appK, y_app2, y_ext, y_extK, y_extT, y_extL, y_star, y_starK, y_row, y_aug, y_augK, y_augA, y_augT, y_augS, y_setd, y_set1, y_set2, y_set3, y_storK, y_expr, y_exprK, y_ret1, y_retK, y_retn, y_ifs, y_ifsT, y_ifsF, y_forr, y_forK, y_whil, y_pas, y_brk1, y_cnt1, y_frz, y_frzK, m_nm, m_tpT, m_tpL, g_tpL, y_appo, y_apo1, y_apo2, y_asgK, fin_ret, fin_next, g_nm, g_tp, g_nil, g_cons, of_nil, of_cons, ofS_non, ofS_val, ofS_none, wi_nil, wi_cons, q_tf, q_ta, k_andT, k_andF, k_orT, k_orF, Res.bind_ok, SRes.of_ok, Option.bind_some, List.getElem?_cons_zero, List.getElem?_cons_succ, List.set_cons_zero, List.set_cons_succ, List.length_cons, List.length_nil, if_true, if_false, Nat.reduceAdd, Nat.reduceLT, Nat.zero_add, decide_true, decide_false, Bool.not_true, Bool.not_false, not_true_eq_false, not_false_eq_true, eq_self, as_pace_of_2_tokens, e1, rg, e2, sl, sm, e3, cat, d_eqX sw]
end
end
end Mp.Lw
end

section
set_option Elab.async false
set_option linter.all false
set_option maxRecDepth 100000
set_option maxHeartbeats 0
namespace Mp.Lw
open PySem PySem.Spec
theorem ratioL_val {a b : Int} (hb : 0 < b) : (ratioL a b).1 * b = a * (ratioL a b).2 := by
  have g := gcd_pos' (a := a) hb
  obtain ⟨x, hx⟩ := Int.gcd_dvd_left a b
  obtain ⟨y, hy⟩ := Int.gcd_dvd_right a b
  show a / ((Int.gcd a b : Nat) : Int) * b = a * (b / ((Int.gcd a b : Nat) : Int))
  generalize ((Int.gcd a b : Nat) : Int) = d at hx hy g ⊢
  have e1 : a / d = x := by rw [hx]; exact Int.mul_ediv_cancel_left x (by omega)
  have e2 : b / d = y := by rw [hy]; exact Int.mul_ediv_cancel_left y (by omega)
  rw [e1, e2, hx, hy]
  grind
theorem plusL_val {t u : Int × Int} (h : 0 < t.2) (g : 0 < u.2) : (plusL t u).1 * (t.2 * u.2) = (t.1 * u.2 + u.1 * t.2) * (plusL t u).2 := ratioL_val (Int.mul_pos h g)
theorem plusL_pos {t u : Int × Int} (h : 0 < t.2) (g : 0 < u.2) : 0 < (plusL t u).2 := by
  have hb := Int.mul_pos h g
  exact Int.ediv_pos_of_pos_of_dvd hb (Int.le_of_lt (gcd_pos' hb)) (Int.gcd_dvd_right _ _)
def goalL (r : Int × Int) : Nat → Int × Int → Int × Int
  | 0, t => t
  | k + 1, t => goalL r k (plusL t r)
section
variable {r : Int × Int} {c : Int} (r0 : 0 ≤ r.1) (r2 : 0 < r.2) (cap : ¬ c * (plusL r (1, 1)).2 < (plusL r (1, 1)).1 * 1)
include r0 r2 cap
theorem cap_le : r.1 + r.2 ≤ c * r.2 := by
  have e := plusL_val (t := r) (u := (1, 1)) r2 (by decide)
  have p := plusL_pos (t := r) (u := (1, 1)) r2 (by decide)
  simp only [Int.mul_one, Int.one_mul] at e cap
  generalize (plusL r (1, 1)) = q at *
  refine Int.le_of_mul_le_mul_right (a := q.2) ?_ p
  rw [← e]
  have : q.1 * r.2 ≤ c * q.2 * r.2 := Int.mul_le_mul_of_nonneg_right (by omega) (Int.le_of_lt r2)
  rw [show c * r.2 * q.2 = c * q.2 * r.2 by grind]
  exact this
theorem grownL_cap {t : Int × Int} (h0 : 0 ≤ t.1) (h1 : t.1 < t.2) : grownL r c t = plusL t r := by
  have h2 : 0 < t.2 := by omega
  have hc := cap_le r0 r2 cap
  have e := plusL_val (t := t) (u := r) h2 r2
  have p := plusL_pos (t := t) (u := r) h2 r2
  unfold grownL
  rw [if_neg]
  generalize (plusL t r) = q at *
  intro z
  have a1 : t.1 * r.2 + r.1 * t.2 ≤ t.2 * r.2 + r.1 * t.2 := Int.add_le_add_right (Int.mul_le_mul_of_nonneg_right (Int.le_of_lt h1) (Int.le_of_lt r2)) _
  have a2 : t.2 * r.2 + r.1 * t.2 = t.2 * (r.1 + r.2) := by grind
  have a3 : t.2 * (r.1 + r.2) ≤ t.2 * (c * r.2) := Int.mul_le_mul_of_nonneg_left hc (Int.le_of_lt h2)
  have a4 : (t.1 * r.2 + r.1 * t.2) * q.2 ≤ (t.2 * (c * r.2)) * q.2 := Int.mul_le_mul_of_nonneg_right (by omega) (Int.le_of_lt p)
  rw [← e] at a4
  have a5 : t.2 * (c * r.2) * q.2 = c * q.2 * (t.2 * r.2) := by grind
  rw [a5] at a4
  have := Int.le_of_mul_le_mul_right a4 (Int.mul_pos h2 r2)
  omega
theorem floor_of {g t : Int × Int} {S : Int} (g2 : 0 < g.2) (h0 : 0 ≤ t.1) (h1 : t.1 < t.2) (e : g.1 * t.2 = (S * t.2 + t.1) * g.2) : g.1 / g.2 = S := by
  have h2 : 0 < t.2 := by omega
  have lo : S * g.2 ≤ g.1 := by
    refine Int.le_of_mul_le_mul_right (a := t.2) ?_ h2
    rw [e]
    have : 0 ≤ t.1 * g.2 := Int.mul_nonneg h0 (Int.le_of_lt g2)
    grind
  have hi : g.1 < (S + 1) * g.2 := by
    refine Int.lt_of_mul_lt_mul_right (a := t.2) ?_ (Int.le_of_lt h2)
    rw [e]
    have : t.1 * g.2 < t.2 * g.2 := Int.mul_lt_mul_of_pos_right h1 g2
    grind
  have a := (Int.le_ediv_iff_mul_le g2).mpr lo
  have b := (Int.ediv_lt_iff_lt_mul g2).mpr hi
  omega
theorem sums : ∀ (k : Nat) (t g : Int × Int) (S : Int), 0 ≤ t.1 → t.1 < t.2 → 0 < g.2 → g.1 * t.2 = (S * t.2 + t.1) * g.2 → S + (paceL r c k t).sum = (goalL r k g).1 / (goalL r k g).2
  | 0, t, g, S, h0, h1, g2, e => by
    rw [paceL, goalL, List.sum_nil, floor_of r0 r2 cap g2 h0 h1 e]
    omega
  | k + 1, t, g, S, h0, h1, g2, e => by
    have h2 : 0 < t.2 := by omega
    have ec := grownL_cap r0 r2 cap h0 h1
    have e1 := plusL_val (t := t) (u := r) h2 r2
    have p1 := plusL_pos (t := t) (u := r) h2 r2
    have e2 := plusL_val (t := g) (u := r) g2 r2
    have p2 := plusL_pos (t := g) (u := r) g2 r2
    rw [paceL, goalL, List.sum_cons, ← Int.add_assoc]
    unfold stepL manyL
    rw [ec]
    have m0 : 0 ≤ (plusL t r).1 - (plusL t r).1 / (plusL t r).2 * (plusL t r).2 := by
      have := Int.ediv_mul_le (plusL t r).1 (b := (plusL t r).2) (by omega)
      omega
    have m1 : (plusL t r).1 - (plusL t r).1 / (plusL t r).2 * (plusL t r).2 < (plusL t r).2 := by
      have := Int.lt_ediv_add_one_mul_self (plusL t r).1 p1
      grind
    refine sums k _ _ _ m0 m1 p2 ?_
    simp only [lessL]
    generalize hq : (plusL t r).1 / (plusL t r).2 = w at *
    generalize plusL t r = q at *
    generalize plusL g r = h at *
    refine Int.eq_of_mul_eq_mul_right (a := g.2 * r.2 * t.2) ?_ ?_
    · have := Int.mul_pos (Int.mul_pos g2 r2) h2
      omega
    · have k1 : h.1 * q.2 * (g.2 * r.2 * t.2) = h.1 * (g.2 * r.2) * (q.2 * t.2) := by grind
      rw [k1, e2]
      have k2 : (g.1 * r.2 + r.1 * g.2) * h.2 * (q.2 * t.2) = (g.1 * t.2) * (r.2 * h.2 * q.2) + r.1 * g.2 * h.2 * q.2 * t.2 := by grind
      rw [k2, e]
      have k3 : ((S + w) * q.2 + (q.1 - w * q.2)) * h.2 * (g.2 * r.2 * t.2) = S * q.2 * h.2 * g.2 * r.2 * t.2 + (q.1 * (t.2 * r.2)) * (h.2 * g.2) := by grind
      rw [k3, e1]
      grind
end
end Mp.Lw
end

section
set_option Elab.async false
set_option linter.all false
set_option maxRecDepth 100000
set_option maxHeartbeats 0
namespace Mp.Lw
open PySem PySem.Spec
section
variable {f : Ob} {R : Sto} {M : Sto} {b : Nat}
theorem d_sumT (ns : List Int) : bltD .sum [.tup (ns.map .int)] M = .ok (.int ns.sum) M := by
  have : intsD (ns.map .int) = some ns := by
    induction ns with
    | nil => rfl
    | cons a r ih => simp only [List.map_cons, intsD, ih, Option.map_some]
  simp only [bltD, this]
section
variable {r : Int × Int} {c : Int} (g : Fr 3 r) (hc : 0 < c ∧ c ≤ 6)
include g hc
theorem goalL_fr : ∀ (m : Nat) {k : Nat} {t : Int × Int}, Tk k t → Tk (k + 4 * m) (goalL r m t)
  | 0, k, t, h => h
  | m + 1, k, t, h => (goalL_fr m (plusL_tk h g)).up (by omega)
theorem goalL_succ : ∀ (m : Nat) (t : Int × Int), goalL r (m + 1) t = plusL (goalL r m t) r
  | 0, t => rfl
  | m + 1, t => by rw [goalL, goalL_succ m, goalL]
theorem gl_loop (n : Nat) (x1 x2 x3 x4 : Slot) : ∀ (m : Nat) (j : Int) (k : Nat) (t : Int × Int) (x6 : Slot), Tk k t → k + 4 * m ≤ 800 →
    ∃ x6', forL (forS (C (n + 2)) lg__law_sums_right_1 lb__law_sums_right_1) (iota j m) (E7 (.val (shD r c)) x1 x2 x3 x4 (.val (frD t)) x6) M = .next (E7 (.val (shD r c)) x1 x2 x3 x4 (.val (frD (goalL r m t))) x6') M
  | 0, j, k, t, x6, h, hk => ⟨x6, rfl⟩
  | m + 1, j, k, t, x6, h, hk => by
    obtain ⟨x6', e⟩ := gl_loop n x1 x2 x3 x4 m (j + 1) (k + 4) (plusL t r) (.val (.int j)) (plusL_tk h g) (by omega)
    refine ⟨x6', ?_⟩
    have e1 := r_added n M h.fr g (by omega)
    rw [iota, forL_next (E7 (.val (shD r c)) x1 x2 x3 x4 (.val (frD (plusL t r))) (.val (.int j))) M]
    · exact e
    · simp only [shD, frD] at e1 ⊢
      simp only [y_forS, lg__law_sums_right_1, lb__law_sums_right_1, E7, C_cal, C_arr, C_gl, lkK_val, pkK_own, x_cint, x_cstr, x_cbl, x_cnon, x_var, x_glob, x_fnv, x_tup, x_lst, x_bin, x_neg, x_cmp, x_chn, x_andv, x_orv, x_one, x_notv, x_ife, x_idx, x_dgt, x_slc, x_call, x_blt, x_isi, x_comp, x_dsp, x_dnew, x_get2, x_get1, k_g2a, k_g2b, k_g2c, k_g1a, k_g1b, pk_dnew, pk_get2, pk_get1, xs_nil, xs_cons, xp_nil, xp_cons, xo_non, xo_som, xt_val, xt_cmp, xt_chn, xt_not, xt_and, xt_or, xt_one, xq_nil, xq_one, xi_seq, xi_enum, xi_items, xi_zip, k_zip1, k_zipT, k_zipL, k_enuT, k_enuL, k_itm, k_seqO, x_stp, k_stp1, k_revT, k_revL, k_evnT, k_evnL, x_lnew, k_lnw, x_lrng1, x_lrng2, k_lrgT, k_lrgF, x_dcompK, x_dcompT, k_dcK, k_dcT, k_dkK, k_dtK, pk_lnew, pk_stp, pk_lrng, pk_dcomp, xi_rng1, xi_rng2, pk_own, pk_cint, pk_cstr, pk_cbl, pk_cnon, pk_var, pk_glob, pk_fnv, pk_tup, pk_lst, pk_bin, pk_neg, pk_cmp, pk_chn, pk_andv, pk_orv, pk_one, pk_notv, pk_ife, pk_idx, pk_dgt, pk_slc, pk_call, pk_blt, pk_isi, pk_comp, pk_dsp, k_tup, k_lst, k_con1, k_pcon1, k_con2, k_bin1, k_cmp1, k_chn1, k_chn2, k_chnT, k_chnF, k_chn4, k_tchn1, k_tchn2, k_tchnT, k_tchnF, k_tchn4, k_idx1, k_dgt1, k_slc1, k_slc2, k_neg, k_not, k_non, k_ifeT, k_ifeF, k_cal1, k_cal2, k_cal3, k_isi, k_intO, k_bl, k_tcmp1, k_tnot, k_tandT, k_tandF, k_torT, k_torF, k_dsp, k_seqT, k_seqL, k_comp, d_add, d_sub, d_lt, d_le, d_gt, d_ge, d_eqS, d_neS, d_eqI, d_neI, d_neNil, ob_of, ob_dk, ob_dt, ob_ls, ob_lk, look_k, look_t, dct_k, dct_t, stor_k, stor_t, stor_l, apnd_l, lst_l, lock_n, lock_l, lenD_o, getD_k, inD_o, i_obD, i_obT, i_obL, gc_len, gc_same, gc_keep, gc_new, gc_drop, gc_stk, p_gc, scp_pure, scps_pure, scp_int, scp_str, scp_bl, scp_non, scp_tup, scp_lst, scps_nil, scps_cons, d_min, d_max, d_abs, d_lenT, d_lenL, d_tupL, d_tupT, d_lstL, d_lstT, i_t0, i_l0, i_t1, i_l1, i_t2, i_l2, i_t3, i_l3, i_t4, i_l4, i_t5, i_l5, i_t6, i_l6, i_t7, i_l7, tr_bl, tr_int, tr_non, tr_tup, tr_lst, y_nil, y_cons, y_next, y_ret, y_brk, y_cnt, y_asg, y_par, y_par1, y_par2, y_ownL, y_ownK, y_ownF, y_ownC, y_ownCT, y_ownCL, y_ownFK, y_app, y_appK, y_app2, y_ext, y_extK, y_extT, y_extL, y_star, y_starK, y_row, y_aug, y_augK, y_augA, y_augT, y_augS, y_setd, y_set1, y_set2, y_set3, y_storK, y_expr, y_exprK, y_ret1, y_retK, y_retn, y_ifs, y_ifsT, y_ifsF, y_forr, y_forK, y_whil, y_pas, y_brk1, y_cnt1, y_frz, y_frzK, m_nm, m_tpT, m_tpL, g_tpL, y_appo, y_apo1, y_apo2, y_asgK, fin_ret, fin_next, g_nm, g_tp, g_nil, g_cons, of_nil, of_cons, ofS_non, ofS_val, ofS_none, wi_nil, wi_cons, q_tf, q_ta, k_andT, k_andF, k_orT, k_orF, Res.bind_ok, SRes.of_ok, Option.bind_some, List.getElem?_cons_zero, List.getElem?_cons_succ, List.set_cons_zero, List.set_cons_succ, List.length_cons, List.length_nil, if_true, if_false, Nat.reduceAdd, Nat.reduceLT, Nat.zero_add, decide_true, decide_false, Bool.not_true, Bool.not_false, not_true_eq_false, not_false_eq_true, eq_self, as_added_2, e1]
section
variable (cap : ¬ c * (plusL r (1, 1)).2 < (plusL r (1, 1)).1 * 1) {t : Int × Int} (h0 : 0 ≤ t.1) (h1 : t.1 < t.2)
include cap h0 h1
theorem sm_loop (n : Nat) {k : Nat} (h : Tk k t) (m : Nat) (hk : k + 4 * m ≤ 100) : ∀ (l j : Nat) (x4 x5 x6 : Slot), j + l = m + 1 →
    ∃ x4' x5' x6', forL (forS (C (n + 2)) lg__law_sums_right_2 lb__law_sums_right_2) (iota (j : Int) l) (E7 (.val (shD r c)) (.val (frD t)) (.val (.int (m : Int))) (.val (.tup ((paceL r c m t).map .int))) x4 x5 x6) M = .next (E7 (.val (shD r c)) (.val (frD t)) (.val (.int (m : Int))) (.val (.tup ((paceL r c m t).map .int))) x4' x5' x6') M
  | 0, j, x4, x5, x6, hj => ⟨x4, x5, x6, rfl⟩
  | l + 1, j, x4, x5, x6, hj => by
    obtain ⟨y6, e1⟩ := gl_loop (M := M) g hc n (.val (frD t)) (.val (.int (m : Int))) (.val (.tup ((paceL r c m t).map .int))) (.val (.int (j : Int))) j 0 k t x6 h (by omega)
    obtain ⟨x4', x5', x6', e⟩ := sm_loop n h m hk l (j + 1) (.val (.int (j : Int))) (.val (frD (goalL r j t))) y6 (by omega)
    refine ⟨x4', x5', x6', ?_⟩
    have gl := goalL_fr g hc j h
    have e2 := r_wholes (n + 1) (goalL r j t) M gl.fr.p (gl.fr.bp.up (by omega))
    have e3 := sums g.n g.p cap j t t 0 h0 h1 (by omega) (by rw [Int.zero_mul, Int.zero_add])
    have e4 : (paceL r c m t).take j = paceL r c j t := by
      obtain ⟨d, rfl⟩ : ∃ d, m = j + d := ⟨m - j, by omega⟩
      exact paceL_take r c j d t
    have e5 : ((paceL r c j t).sum) = (goalL r j t).1 / (goalL r j t).2 := by omega
    rw [iota, forL_next (E7 (.val (shD r c)) (.val (frD t)) (.val (.int (m : Int))) (.val (.tup ((paceL r c m t).map .int))) (.val (.int (j : Int))) (.val (frD (goalL r j t))) y6) M]
    · exact e
    · simp only [E7] at e1
      simp only [y_forS, lg__law_sums_right_2, lb__law_sums_right_2, E7, C_cal, C_arr, C_gl, lkK_val, pkK_own, x_cint, x_cstr, x_cbl, x_cnon, x_var, x_glob, x_fnv, x_tup, x_lst, x_bin, x_neg, x_cmp, x_chn, x_andv, x_orv, x_one, x_notv, x_ife, x_idx, x_dgt, x_slc, x_call, x_blt, x_isi, x_comp, x_dsp, x_dnew, x_get2, x_get1, k_g2a, k_g2b, k_g2c, k_g1a, k_g1b, pk_dnew, pk_get2, pk_get1, xs_nil, xs_cons, xp_nil, xp_cons, xo_non, xo_som, xt_val, xt_cmp, xt_chn, xt_not, xt_and, xt_or, xt_one, xq_nil, xq_one, xi_seq, xi_enum, xi_items, xi_zip, k_zip1, k_zipT, k_zipL, k_enuT, k_enuL, k_itm, k_seqO, x_stp, k_stp1, k_revT, k_revL, k_evnT, k_evnL, x_lnew, k_lnw, x_lrng1, x_lrng2, k_lrgT, k_lrgF, x_dcompK, x_dcompT, k_dcK, k_dcT, k_dkK, k_dtK, pk_lnew, pk_stp, pk_lrng, pk_dcomp, xi_rng1, xi_rng2, pk_own, pk_cint, pk_cstr, pk_cbl, pk_cnon, pk_var, pk_glob, pk_fnv, pk_tup, pk_lst, pk_bin, pk_neg, pk_cmp, pk_chn, pk_andv, pk_orv, pk_one, pk_notv, pk_ife, pk_idx, pk_dgt, pk_slc, pk_call, pk_blt, pk_isi, pk_comp, pk_dsp, k_tup, k_lst, k_con1, k_pcon1, k_con2, k_bin1, k_cmp1, k_chn1, k_chn2, k_chnT, k_chnF, k_chn4, k_tchn1, k_tchn2, k_tchnT, k_tchnF, k_tchn4, k_idx1, k_dgt1, k_slc1, k_slc2, k_neg, k_not, k_non, k_ifeT, k_ifeF, k_cal1, k_cal2, k_cal3, k_isi, k_intO, k_bl, k_tcmp1, k_tnot, k_tandT, k_tandF, k_torT, k_torF, k_dsp, k_seqT, k_seqL, k_comp, d_add, d_sub, d_lt, d_le, d_gt, d_ge, d_eqS, d_neS, d_eqI, d_neI, d_neNil, ob_of, ob_dk, ob_dt, ob_ls, ob_lk, look_k, look_t, dct_k, dct_t, stor_k, stor_t, stor_l, apnd_l, lst_l, lock_n, lock_l, lenD_o, getD_k, inD_o, i_obD, i_obT, i_obL, gc_len, gc_same, gc_keep, gc_new, gc_drop, gc_stk, p_gc, scp_pure, scps_pure, scp_int, scp_str, scp_bl, scp_non, scp_tup, scp_lst, scps_nil, scps_cons, d_min, d_max, d_abs, d_lenT, d_lenL, d_tupL, d_tupT, d_lstL, d_lstT, i_t0, i_l0, i_t1, i_l1, i_t2, i_l2, i_t3, i_l3, i_t4, i_l4, i_t5, i_l5, i_t6, i_l6, i_t7, i_l7, tr_bl, tr_int, tr_non, tr_tup, tr_lst, y_nil, y_cons, y_next, y_ret, y_brk, y_cnt, y_asg, y_par, y_par1, y_par2, y_ownL, y_ownK, y_ownF, y_ownC, y_ownCT, y_ownCL, y_ownFK, y_app, y_appK, y_app2, y_ext, y_extK, y_extT, y_extL, y_star, y_starK, y_row, y_aug, y_augK, y_augA, y_augT, y_augS, y_setd, y_set1, y_set2, y_set3, y_storK, y_expr, y_exprK, y_ret1, y_retK, y_retn, y_ifs, y_ifsT, y_ifsF, y_forr, y_forK, y_whil, y_pas, y_brk1, y_cnt1, y_frz, y_frzK, m_nm, m_tpT, m_tpL, g_tpL, y_appo, y_apo1, y_apo2, y_asgK, fin_ret, fin_next, g_nm, g_tp, g_nil, g_cons, of_nil, of_cons, ofS_non, ofS_val, ofS_none, wi_nil, wi_cons, q_tf, q_ta, k_andT, k_andF, k_orT, k_orF, Res.bind_ok, SRes.of_ok, Option.bind_some, List.getElem?_cons_zero, List.getElem?_cons_succ, List.set_cons_zero, List.set_cons_succ, List.length_cons, List.length_nil, if_true, if_false, Nat.reduceAdd, Nat.reduceLT, Nat.zero_add, decide_true, decide_false, Bool.not_true, Bool.not_false, not_true_eq_false, not_false_eq_true, eq_self, k_rngN j M (by omega), e1, ids_take, e4, d_sumT, as_wholes_1, e2, e5, Bool.false_eq_true]
theorem r_sums_right (n : Nat) {k : Nat} (h : Tk k t) (m : Nat) (hk : k + 4 * m ≤ 100) : cal (n + 5) i__law_sums_right [shD r c, frD t, .int (m : Int)] M = .ok (.bl true) M := by
  have e1 := r_pace_of (M := M) g hc n h m (by omega)
  obtain ⟨x4, x5, x6, e2⟩ := sm_loop (M := M) g hc cap h0 h1 (n + 2) h m hk (m + 1) 0 .non .non .non (by omega)
  have rg : ∀ M : Sto, rng1K (.int ((m : Int) + 1)) M = .ok (iota 0 (m + 1)) M := fun M => k_rngN (m + 1) M (by omega)
  simp only [E7, (show ((0 : Nat) : Int) = 0 from rfl)] at e2
  rw [st__law_sums_right]
  simp only [b__law_sums_right, C_cal, C_arr, C_gl, lkK_val, pkK_own, x_cint, x_cstr, x_cbl, x_cnon, x_var, x_glob, x_fnv, x_tup, x_lst, x_bin, x_neg, x_cmp, x_chn, x_andv, x_orv, x_one, x_notv, x_ife, x_idx, x_dgt, x_slc, x_call, x_blt, x_isi, x_comp, x_dsp, x_dnew, x_get2, x_get1, k_g2a, k_g2b, k_g2c, k_g1a, k_g1b, pk_dnew, pk_get2, pk_get1, xs_nil, xs_cons, xp_nil, xp_cons, xo_non, xo_som, xt_val, xt_cmp, xt_chn, xt_not, xt_and, xt_or, xt_one, xq_nil, xq_one, xi_seq, xi_enum, xi_items, xi_zip, k_zip1, k_zipT, k_zipL, k_enuT, k_enuL, k_itm, k_seqO, x_stp, k_stp1, k_revT, k_revL, k_evnT, k_evnL, x_lnew, k_lnw, x_lrng1, x_lrng2, k_lrgT, k_lrgF, x_dcompK, x_dcompT, k_dcK, k_dcT, k_dkK, k_dtK, pk_lnew, pk_stp, pk_lrng, pk_dcomp, xi_rng1, xi_rng2, pk_own, pk_cint, pk_cstr, pk_cbl, pk_cnon, pk_var, pk_glob, pk_fnv, pk_tup, pk_lst, pk_bin, pk_neg, pk_cmp, pk_chn, pk_andv, pk_orv, pk_one, pk_notv, pk_ife, pk_idx, pk_dgt, pk_slc, pk_call, pk_blt, pk_isi, pk_comp, pk_dsp, k_tup, k_lst, k_con1, k_pcon1, k_con2, k_bin1, k_cmp1, k_chn1, k_chn2, k_chnT, k_chnF, k_chn4, k_tchn1, k_tchn2, k_tchnT, k_tchnF, k_tchn4, k_idx1, k_dgt1, k_slc1, k_slc2, k_neg, k_not, k_non, k_ifeT, k_ifeF, k_cal1, k_cal2, k_cal3, k_isi, k_intO, k_bl, k_tcmp1, k_tnot, k_tandT, k_tandF, k_torT, k_torF, k_dsp, k_seqT, k_seqL, k_comp, d_add, d_sub, d_lt, d_le, d_gt, d_ge, d_eqS, d_neS, d_eqI, d_neI, d_neNil, ob_of, ob_dk, ob_dt, ob_ls, ob_lk, look_k, look_t, dct_k, dct_t, stor_k, stor_t, stor_l, apnd_l, lst_l, lock_n, lock_l, lenD_o, getD_k, inD_o, i_obD, i_obT, i_obL, gc_len, gc_same, gc_keep, gc_new, gc_drop, gc_stk, p_gc, scp_pure, scps_pure, scp_int, scp_str, scp_bl, scp_non, scp_tup, scp_lst, scps_nil, scps_cons, d_min, d_max, d_abs, d_lenT, d_lenL, d_tupL, d_tupT, d_lstL, d_lstT, i_t0, i_l0, i_t1, i_l1, i_t2, i_l2, i_t3, i_l3, i_t4, i_l4, i_t5, i_l5, i_t6, i_l6, i_t7, i_l7, tr_bl, tr_int, tr_non, tr_tup, tr_lst, y_nil, y_cons, y_next, y_ret, y_brk, y_cnt, y_asg, y_par, y_par1, y_par2, y_ownL, y_ownK, y_ownF, y_ownC, y_ownCT, y_ownCL, y_ownFK, y_app, y_appK, y_app2, y_ext, y_extK, y_extT, y_extL, y_star, y_starK, y_row, y_aug, y_augK, y_augA, y_augT, y_augS, y_setd, y_set1, y_set2, y_set3, y_storK, y_expr, y_exprK, y_ret1, y_retK, y_retn, y_ifs, y_ifsT, y_ifsF, y_forr, y_forK, y_whil, y_pas, y_brk1, y_cnt1, y_frz, y_frzK, m_nm, m_tpT, m_tpL, g_tpL, y_appo, y_apo1, y_apo2, y_asgK, fin_ret, fin_next, g_nm, g_tp, g_nil, g_cons, of_nil, of_cons, ofS_non, ofS_val, ofS_none, wi_nil, wi_cons, q_tf, q_ta, k_andT, k_andF, k_orT, k_orF, Res.bind_ok, SRes.of_ok, Option.bind_some, List.getElem?_cons_zero, List.getElem?_cons_succ, List.set_cons_zero, List.set_cons_succ, List.length_cons, List.length_nil, if_true, if_false, Nat.reduceAdd, Nat.reduceLT, Nat.zero_add, decide_true, decide_false, Bool.not_true, Bool.not_false, not_true_eq_false, not_false_eq_true, eq_self, as_pace_of_2_tokens, e1, rg, e2]
end
end
end
end Mp.Lw
end

section
set_option Elab.async false
set_option linter.all false
set_option maxRecDepth 100000
set_option maxHeartbeats 0
namespace Mp.Lw
open PySem PySem.Spec
section
variable {f : Ob} {R : Sto} {M : Sto} {b : Nat}
abbrev jbD : D := .tup [.str "count", .str "emp", .tup []]
abbrev tblD : D := .tup [.str "no", .str "table"]
def qD (i : Int) : D := .tup [.int i, jbD]
def lifeD (q : List D) (t : Int × Int) (o : D) (l : Int) : D := .tup [.tup [], .tup q, frD t, o, .int l]
theorem r_done (n : Nat) (tick : D) : cal (n + 5) i_done_job [.tup [], jbD, tick, .str "eu", .tup []] M = .ok (.tup [.tup [], tblD]) M := by
  have tb : cal (n + 3) i_tables_of [.tup []] M = .ok (.tup []) M := by
    rw [st_tables_of]
    rw [b_tables_of, co_tables_of_1]
    simp only [C_cal, C_arr, C_gl, lkK_val, pkK_own, x_cint, x_cstr, x_cbl, x_cnon, x_var, x_glob, x_fnv, x_tup, x_lst, x_bin, x_neg, x_cmp, x_chn, x_andv, x_orv, x_one, x_notv, x_ife, x_idx, x_dgt, x_slc, x_call, x_blt, x_isi, x_comp, x_dsp, x_dnew, x_get2, x_get1, k_g2a, k_g2b, k_g2c, k_g1a, k_g1b, pk_dnew, pk_get2, pk_get1, xs_nil, xs_cons, xp_nil, xp_cons, xo_non, xo_som, xt_val, xt_cmp, xt_chn, xt_not, xt_and, xt_or, xt_one, xq_nil, xq_one, xi_seq, xi_enum, xi_items, xi_zip, k_zip1, k_zipT, k_zipL, k_enuT, k_enuL, k_itm, k_seqO, x_stp, k_stp1, k_revT, k_revL, k_evnT, k_evnL, x_lnew, k_lnw, x_lrng1, x_lrng2, k_lrgT, k_lrgF, x_dcompK, x_dcompT, k_dcK, k_dcT, k_dkK, k_dtK, pk_lnew, pk_stp, pk_lrng, pk_dcomp, xi_rng1, xi_rng2, pk_own, pk_cint, pk_cstr, pk_cbl, pk_cnon, pk_var, pk_glob, pk_fnv, pk_tup, pk_lst, pk_bin, pk_neg, pk_cmp, pk_chn, pk_andv, pk_orv, pk_one, pk_notv, pk_ife, pk_idx, pk_dgt, pk_slc, pk_call, pk_blt, pk_isi, pk_comp, pk_dsp, k_tup, k_lst, k_con1, k_pcon1, k_con2, k_bin1, k_cmp1, k_chn1, k_chn2, k_chnT, k_chnF, k_chn4, k_tchn1, k_tchn2, k_tchnT, k_tchnF, k_tchn4, k_idx1, k_dgt1, k_slc1, k_slc2, k_neg, k_not, k_non, k_ifeT, k_ifeF, k_cal1, k_cal2, k_cal3, k_isi, k_intO, k_bl, k_tcmp1, k_tnot, k_tandT, k_tandF, k_torT, k_torF, k_dsp, k_seqT, k_seqL, k_comp, d_add, d_sub, d_lt, d_le, d_gt, d_ge, d_eqS, d_neS, d_eqI, d_neI, d_neNil, ob_of, ob_dk, ob_dt, ob_ls, ob_lk, look_k, look_t, dct_k, dct_t, stor_k, stor_t, stor_l, apnd_l, lst_l, lock_n, lock_l, lenD_o, getD_k, inD_o, i_obD, i_obT, i_obL, gc_len, gc_same, gc_keep, gc_new, gc_drop, gc_stk, p_gc, scp_pure, scps_pure, scp_int, scp_str, scp_bl, scp_non, scp_tup, scp_lst, scps_nil, scps_cons, d_min, d_max, d_abs, d_lenT, d_lenL, d_tupL, d_tupT, d_lstL, d_lstT, i_t0, i_l0, i_t1, i_l1, i_t2, i_l2, i_t3, i_l3, i_t4, i_l4, i_t5, i_l5, i_t6, i_l6, i_t7, i_l7, tr_bl, tr_int, tr_non, tr_tup, tr_lst, y_nil, y_cons, y_next, y_ret, y_brk, y_cnt, y_asg, y_par, y_par1, y_par2, y_ownL, y_ownK, y_ownF, y_ownC, y_ownCT, y_ownCL, y_ownFK, y_app, y_appK, y_app2, y_ext, y_extK, y_extT, y_extL, y_star, y_starK, y_row, y_aug, y_augK, y_augA, y_augT, y_augS, y_setd, y_set1, y_set2, y_set3, y_storK, y_expr, y_exprK, y_ret1, y_retK, y_retn, y_ifs, y_ifsT, y_ifsF, y_forr, y_forK, y_whil, y_pas, y_brk1, y_cnt1, y_frz, y_frzK, m_nm, m_tpT, m_tpL, g_tpL, y_appo, y_apo1, y_apo2, y_asgK, fin_ret, fin_next, g_nm, g_tp, g_nil, g_cons, of_nil, of_cons, ofS_non, ofS_val, ofS_none, wi_nil, wi_cons, q_tf, q_ta, k_andT, k_andF, k_orT, k_orF, Res.bind_ok, SRes.of_ok, Option.bind_some, List.getElem?_cons_zero, List.getElem?_cons_succ, List.set_cons_zero, List.set_cons_succ, List.length_cons, List.length_nil, if_true, if_false, Nat.reduceAdd, Nat.reduceLT, Nat.zero_add, decide_true, decide_false, Bool.not_true, Bool.not_false, not_true_eq_false, not_false_eq_true, eq_self, compL]
  have i1 : inD (.str "count") (.tup [.str "put", .str "index"]) M = some false := (in_strs (w := "count") (xs := ["put", "index"]) (by decide +kernel) (by decide +kernel)).trans (by decide +kernel)
  have i2 : inD (.str "emp") (.tup []) M = some false := (in_strs (w := "emp") (xs := []) (by decide +kernel) (by decide +kernel)).trans (by decide +kernel)
  have rf : cal (n + 4) i_refusal_of [.tup [], jbD, tick, .str "eu", .tup []] M = .ok (.str "table") M := by
    rw [st_refusal_of]
    simp only [b_refusal_of, C_cal, C_arr, C_gl, lkK_val, pkK_own, x_cint, x_cstr, x_cbl, x_cnon, x_var, x_glob, x_fnv, x_tup, x_lst, x_bin, x_neg, x_cmp, x_chn, x_andv, x_orv, x_one, x_notv, x_ife, x_idx, x_dgt, x_slc, x_call, x_blt, x_isi, x_comp, x_dsp, x_dnew, x_get2, x_get1, k_g2a, k_g2b, k_g2c, k_g1a, k_g1b, pk_dnew, pk_get2, pk_get1, xs_nil, xs_cons, xp_nil, xp_cons, xo_non, xo_som, xt_val, xt_cmp, xt_chn, xt_not, xt_and, xt_or, xt_one, xq_nil, xq_one, xi_seq, xi_enum, xi_items, xi_zip, k_zip1, k_zipT, k_zipL, k_enuT, k_enuL, k_itm, k_seqO, x_stp, k_stp1, k_revT, k_revL, k_evnT, k_evnL, x_lnew, k_lnw, x_lrng1, x_lrng2, k_lrgT, k_lrgF, x_dcompK, x_dcompT, k_dcK, k_dcT, k_dkK, k_dtK, pk_lnew, pk_stp, pk_lrng, pk_dcomp, xi_rng1, xi_rng2, pk_own, pk_cint, pk_cstr, pk_cbl, pk_cnon, pk_var, pk_glob, pk_fnv, pk_tup, pk_lst, pk_bin, pk_neg, pk_cmp, pk_chn, pk_andv, pk_orv, pk_one, pk_notv, pk_ife, pk_idx, pk_dgt, pk_slc, pk_call, pk_blt, pk_isi, pk_comp, pk_dsp, k_tup, k_lst, k_con1, k_pcon1, k_con2, k_bin1, k_cmp1, k_chn1, k_chn2, k_chnT, k_chnF, k_chn4, k_tchn1, k_tchn2, k_tchnT, k_tchnF, k_tchn4, k_idx1, k_dgt1, k_slc1, k_slc2, k_neg, k_not, k_non, k_ifeT, k_ifeF, k_cal1, k_cal2, k_cal3, k_isi, k_intO, k_bl, k_tcmp1, k_tnot, k_tandT, k_tandF, k_torT, k_torF, k_dsp, k_seqT, k_seqL, k_comp, d_add, d_sub, d_lt, d_le, d_gt, d_ge, d_eqS, d_neS, d_eqI, d_neI, d_neNil, ob_of, ob_dk, ob_dt, ob_ls, ob_lk, look_k, look_t, dct_k, dct_t, stor_k, stor_t, stor_l, apnd_l, lst_l, lock_n, lock_l, lenD_o, getD_k, inD_o, i_obD, i_obT, i_obL, gc_len, gc_same, gc_keep, gc_new, gc_drop, gc_stk, p_gc, scp_pure, scps_pure, scp_int, scp_str, scp_bl, scp_non, scp_tup, scp_lst, scps_nil, scps_cons, d_min, d_max, d_abs, d_lenT, d_lenL, d_tupL, d_tupT, d_lstL, d_lstT, i_t0, i_l0, i_t1, i_l1, i_t2, i_l2, i_t3, i_l3, i_t4, i_l4, i_t5, i_l5, i_t6, i_l6, i_t7, i_l7, tr_bl, tr_int, tr_non, tr_tup, tr_lst, y_nil, y_cons, y_next, y_ret, y_brk, y_cnt, y_asg, y_par, y_par1, y_par2, y_ownL, y_ownK, y_ownF, y_ownC, y_ownCT, y_ownCL, y_ownFK, y_app, y_appK, y_app2, y_ext, y_extK, y_extT, y_extL, y_star, y_starK, y_row, y_aug, y_augK, y_augA, y_augT, y_augS, y_setd, y_set1, y_set2, y_set3, y_storK, y_expr, y_exprK, y_ret1, y_retK, y_retn, y_ifs, y_ifsT, y_ifsF, y_forr, y_forK, y_whil, y_pas, y_brk1, y_cnt1, y_frz, y_frzK, m_nm, m_tpT, m_tpL, g_tpL, y_appo, y_apo1, y_apo2, y_asgK, fin_ret, fin_next, g_nm, g_tp, g_nil, g_cons, of_nil, of_cons, ofS_non, ofS_val, ofS_none, wi_nil, wi_cons, q_tf, q_ta, k_andT, k_andF, k_orT, k_orF, Res.bind_ok, SRes.of_ok, Option.bind_some, List.getElem?_cons_zero, List.getElem?_cons_succ, List.set_cons_zero, List.set_cons_succ, List.length_cons, List.length_nil, if_true, if_false, Nat.reduceAdd, Nat.reduceLT, Nat.zero_add, decide_true, decide_false, Bool.not_true, Bool.not_false, not_true_eq_false, not_false_eq_true, eq_self, d_niB i1, d_niB i2, as_tables_of_1, tb]
  rw [st_done_job]
  simp only [b_done_job, C_cal, C_arr, C_gl, lkK_val, pkK_own, x_cint, x_cstr, x_cbl, x_cnon, x_var, x_glob, x_fnv, x_tup, x_lst, x_bin, x_neg, x_cmp, x_chn, x_andv, x_orv, x_one, x_notv, x_ife, x_idx, x_dgt, x_slc, x_call, x_blt, x_isi, x_comp, x_dsp, x_dnew, x_get2, x_get1, k_g2a, k_g2b, k_g2c, k_g1a, k_g1b, pk_dnew, pk_get2, pk_get1, xs_nil, xs_cons, xp_nil, xp_cons, xo_non, xo_som, xt_val, xt_cmp, xt_chn, xt_not, xt_and, xt_or, xt_one, xq_nil, xq_one, xi_seq, xi_enum, xi_items, xi_zip, k_zip1, k_zipT, k_zipL, k_enuT, k_enuL, k_itm, k_seqO, x_stp, k_stp1, k_revT, k_revL, k_evnT, k_evnL, x_lnew, k_lnw, x_lrng1, x_lrng2, k_lrgT, k_lrgF, x_dcompK, x_dcompT, k_dcK, k_dcT, k_dkK, k_dtK, pk_lnew, pk_stp, pk_lrng, pk_dcomp, xi_rng1, xi_rng2, pk_own, pk_cint, pk_cstr, pk_cbl, pk_cnon, pk_var, pk_glob, pk_fnv, pk_tup, pk_lst, pk_bin, pk_neg, pk_cmp, pk_chn, pk_andv, pk_orv, pk_one, pk_notv, pk_ife, pk_idx, pk_dgt, pk_slc, pk_call, pk_blt, pk_isi, pk_comp, pk_dsp, k_tup, k_lst, k_con1, k_pcon1, k_con2, k_bin1, k_cmp1, k_chn1, k_chn2, k_chnT, k_chnF, k_chn4, k_tchn1, k_tchn2, k_tchnT, k_tchnF, k_tchn4, k_idx1, k_dgt1, k_slc1, k_slc2, k_neg, k_not, k_non, k_ifeT, k_ifeF, k_cal1, k_cal2, k_cal3, k_isi, k_intO, k_bl, k_tcmp1, k_tnot, k_tandT, k_tandF, k_torT, k_torF, k_dsp, k_seqT, k_seqL, k_comp, d_add, d_sub, d_lt, d_le, d_gt, d_ge, d_eqS, d_neS, d_eqI, d_neI, d_neNil, ob_of, ob_dk, ob_dt, ob_ls, ob_lk, look_k, look_t, dct_k, dct_t, stor_k, stor_t, stor_l, apnd_l, lst_l, lock_n, lock_l, lenD_o, getD_k, inD_o, i_obD, i_obT, i_obL, gc_len, gc_same, gc_keep, gc_new, gc_drop, gc_stk, p_gc, scp_pure, scps_pure, scp_int, scp_str, scp_bl, scp_non, scp_tup, scp_lst, scps_nil, scps_cons, d_min, d_max, d_abs, d_lenT, d_lenL, d_tupL, d_tupT, d_lstL, d_lstT, i_t0, i_l0, i_t1, i_l1, i_t2, i_l2, i_t3, i_l3, i_t4, i_l4, i_t5, i_l5, i_t6, i_l6, i_t7, i_l7, tr_bl, tr_int, tr_non, tr_tup, tr_lst, y_nil, y_cons, y_next, y_ret, y_brk, y_cnt, y_asg, y_par, y_par1, y_par2, y_ownL, y_ownK, y_ownF, y_ownC, y_ownCT, y_ownCL, y_ownFK, y_app, y_appK, y_app2, y_ext, y_extK, y_extT, y_extL, y_star, y_starK, y_row, y_aug, y_augK, y_augA, y_augT, y_augS, y_setd, y_set1, y_set2, y_set3, y_storK, y_expr, y_exprK, y_ret1, y_retK, y_retn, y_ifs, y_ifsT, y_ifsF, y_forr, y_forK, y_whil, y_pas, y_brk1, y_cnt1, y_frz, y_frzK, m_nm, m_tpT, m_tpL, g_tpL, y_appo, y_apo1, y_apo2, y_asgK, fin_ret, fin_next, g_nm, g_tp, g_nil, g_cons, of_nil, of_cons, ofS_non, ofS_val, ofS_none, wi_nil, wi_cons, q_tf, q_ta, k_andT, k_andF, k_orT, k_orF, Res.bind_ok, SRes.of_ok, Option.bind_some, List.getElem?_cons_zero, List.getElem?_cons_succ, List.set_cons_zero, List.set_cons_succ, List.length_cons, List.length_nil, if_true, if_false, Nat.reduceAdd, Nat.reduceLT, Nat.zero_add, decide_true, decide_false, Bool.not_true, Bool.not_false, not_true_eq_false, not_false_eq_true, eq_self, as_refusal_of_5, rf, d_isnN, isNonD]
theorem star_6 {x0 x1 x2 x3 x4 x5 : Slot} {a b : D} {rest : List D} : starD [.nm 3, .nm 4] 5 (.tup (a :: b :: rest)) [x0, x1, x2, x3, x4, x5] = some [x0, x1, x2, .val a, .val b, .val (.lst rest)] := by
  rfl
theorem r_meas (n : Nat) : cal (n + 6) i_measure_of [.tup [], jbD] M = .ok (.int 1) M := by
  have cns : ¬ ("count" : Str) = "sum" := by decide
  have cnp : ¬ ("count" : Str) = "put" := by decide
  have cni : ¬ ("count" : Str) = "index" := by decide
  have co : cal (n + 3) i_conds_of [jbD] M = .ok (.tup []) M := by
    rw [st_conds_of]
    simp only [b_conds_of, C_cal, C_arr, C_gl, lkK_val, pkK_own, x_cint, x_cstr, x_cbl, x_cnon, x_var, x_glob, x_fnv, x_tup, x_lst, x_bin, x_neg, x_cmp, x_chn, x_andv, x_orv, x_one, x_notv, x_ife, x_idx, x_dgt, x_slc, x_call, x_blt, x_isi, x_comp, x_dsp, x_dnew, x_get2, x_get1, k_g2a, k_g2b, k_g2c, k_g1a, k_g1b, pk_dnew, pk_get2, pk_get1, xs_nil, xs_cons, xp_nil, xp_cons, xo_non, xo_som, xt_val, xt_cmp, xt_chn, xt_not, xt_and, xt_or, xt_one, xq_nil, xq_one, xi_seq, xi_enum, xi_items, xi_zip, k_zip1, k_zipT, k_zipL, k_enuT, k_enuL, k_itm, k_seqO, x_stp, k_stp1, k_revT, k_revL, k_evnT, k_evnL, x_lnew, k_lnw, x_lrng1, x_lrng2, k_lrgT, k_lrgF, x_dcompK, x_dcompT, k_dcK, k_dcT, k_dkK, k_dtK, pk_lnew, pk_stp, pk_lrng, pk_dcomp, xi_rng1, xi_rng2, pk_own, pk_cint, pk_cstr, pk_cbl, pk_cnon, pk_var, pk_glob, pk_fnv, pk_tup, pk_lst, pk_bin, pk_neg, pk_cmp, pk_chn, pk_andv, pk_orv, pk_one, pk_notv, pk_ife, pk_idx, pk_dgt, pk_slc, pk_call, pk_blt, pk_isi, pk_comp, pk_dsp, k_tup, k_lst, k_con1, k_pcon1, k_con2, k_bin1, k_cmp1, k_chn1, k_chn2, k_chnT, k_chnF, k_chn4, k_tchn1, k_tchn2, k_tchnT, k_tchnF, k_tchn4, k_idx1, k_dgt1, k_slc1, k_slc2, k_neg, k_not, k_non, k_ifeT, k_ifeF, k_cal1, k_cal2, k_cal3, k_isi, k_intO, k_bl, k_tcmp1, k_tnot, k_tandT, k_tandF, k_torT, k_torF, k_dsp, k_seqT, k_seqL, k_comp, d_add, d_sub, d_lt, d_le, d_gt, d_ge, d_eqS, d_neS, d_eqI, d_neI, d_neNil, ob_of, ob_dk, ob_dt, ob_ls, ob_lk, look_k, look_t, dct_k, dct_t, stor_k, stor_t, stor_l, apnd_l, lst_l, lock_n, lock_l, lenD_o, getD_k, inD_o, i_obD, i_obT, i_obL, gc_len, gc_same, gc_keep, gc_new, gc_drop, gc_stk, p_gc, scp_pure, scps_pure, scp_int, scp_str, scp_bl, scp_non, scp_tup, scp_lst, scps_nil, scps_cons, d_min, d_max, d_abs, d_lenT, d_lenL, d_tupL, d_tupT, d_lstL, d_lstT, i_t0, i_l0, i_t1, i_l1, i_t2, i_l2, i_t3, i_l3, i_t4, i_l4, i_t5, i_l5, i_t6, i_l6, i_t7, i_l7, tr_bl, tr_int, tr_non, tr_tup, tr_lst, y_nil, y_cons, y_next, y_ret, y_brk, y_cnt, y_asg, y_par, y_par1, y_par2, y_ownL, y_ownK, y_ownF, y_ownC, y_ownCT, y_ownCL, y_ownFK, y_app, y_appK, y_app2, y_ext, y_extK, y_extT, y_extL, y_star, y_starK, y_row, y_aug, y_augK, y_augA, y_augT, y_augS, y_setd, y_set1, y_set2, y_set3, y_storK, y_expr, y_exprK, y_ret1, y_retK, y_retn, y_ifs, y_ifsT, y_ifsF, y_forr, y_forK, y_whil, y_pas, y_brk1, y_cnt1, y_frz, y_frzK, m_nm, m_tpT, m_tpL, g_tpL, y_appo, y_apo1, y_apo2, y_asgK, fin_ret, fin_next, g_nm, g_tp, g_nil, g_cons, of_nil, of_cons, ofS_non, ofS_val, ofS_none, wi_nil, wi_cons, q_tf, q_ta, k_andT, k_andF, k_orT, k_orF, Res.bind_ok, SRes.of_ok, Option.bind_some, List.getElem?_cons_zero, List.getElem?_cons_succ, List.set_cons_zero, List.set_cons_succ, List.length_cons, List.length_nil, if_true, if_false, Nat.reduceAdd, Nat.reduceLT, Nat.zero_add, decide_true, decide_false, Bool.not_true, Bool.not_false, not_true_eq_false, not_false_eq_true, eq_self, cns]
  have co2 : cal (n + 4) i_conds_of [jbD] M = .ok (.tup []) M := by
    rw [st_conds_of]
    simp only [b_conds_of, C_cal, C_arr, C_gl, lkK_val, pkK_own, x_cint, x_cstr, x_cbl, x_cnon, x_var, x_glob, x_fnv, x_tup, x_lst, x_bin, x_neg, x_cmp, x_chn, x_andv, x_orv, x_one, x_notv, x_ife, x_idx, x_dgt, x_slc, x_call, x_blt, x_isi, x_comp, x_dsp, x_dnew, x_get2, x_get1, k_g2a, k_g2b, k_g2c, k_g1a, k_g1b, pk_dnew, pk_get2, pk_get1, xs_nil, xs_cons, xp_nil, xp_cons, xo_non, xo_som, xt_val, xt_cmp, xt_chn, xt_not, xt_and, xt_or, xt_one, xq_nil, xq_one, xi_seq, xi_enum, xi_items, xi_zip, k_zip1, k_zipT, k_zipL, k_enuT, k_enuL, k_itm, k_seqO, x_stp, k_stp1, k_revT, k_revL, k_evnT, k_evnL, x_lnew, k_lnw, x_lrng1, x_lrng2, k_lrgT, k_lrgF, x_dcompK, x_dcompT, k_dcK, k_dcT, k_dkK, k_dtK, pk_lnew, pk_stp, pk_lrng, pk_dcomp, xi_rng1, xi_rng2, pk_own, pk_cint, pk_cstr, pk_cbl, pk_cnon, pk_var, pk_glob, pk_fnv, pk_tup, pk_lst, pk_bin, pk_neg, pk_cmp, pk_chn, pk_andv, pk_orv, pk_one, pk_notv, pk_ife, pk_idx, pk_dgt, pk_slc, pk_call, pk_blt, pk_isi, pk_comp, pk_dsp, k_tup, k_lst, k_con1, k_pcon1, k_con2, k_bin1, k_cmp1, k_chn1, k_chn2, k_chnT, k_chnF, k_chn4, k_tchn1, k_tchn2, k_tchnT, k_tchnF, k_tchn4, k_idx1, k_dgt1, k_slc1, k_slc2, k_neg, k_not, k_non, k_ifeT, k_ifeF, k_cal1, k_cal2, k_cal3, k_isi, k_intO, k_bl, k_tcmp1, k_tnot, k_tandT, k_tandF, k_torT, k_torF, k_dsp, k_seqT, k_seqL, k_comp, d_add, d_sub, d_lt, d_le, d_gt, d_ge, d_eqS, d_neS, d_eqI, d_neI, d_neNil, ob_of, ob_dk, ob_dt, ob_ls, ob_lk, look_k, look_t, dct_k, dct_t, stor_k, stor_t, stor_l, apnd_l, lst_l, lock_n, lock_l, lenD_o, getD_k, inD_o, i_obD, i_obT, i_obL, gc_len, gc_same, gc_keep, gc_new, gc_drop, gc_stk, p_gc, scp_pure, scps_pure, scp_int, scp_str, scp_bl, scp_non, scp_tup, scp_lst, scps_nil, scps_cons, d_min, d_max, d_abs, d_lenT, d_lenL, d_tupL, d_tupT, d_lstL, d_lstT, i_t0, i_l0, i_t1, i_l1, i_t2, i_l2, i_t3, i_l3, i_t4, i_l4, i_t5, i_l5, i_t6, i_l6, i_t7, i_l7, tr_bl, tr_int, tr_non, tr_tup, tr_lst, y_nil, y_cons, y_next, y_ret, y_brk, y_cnt, y_asg, y_par, y_par1, y_par2, y_ownL, y_ownK, y_ownF, y_ownC, y_ownCT, y_ownCL, y_ownFK, y_app, y_appK, y_app2, y_ext, y_extK, y_extT, y_extL, y_star, y_starK, y_row, y_aug, y_augK, y_augA, y_augT, y_augS, y_setd, y_set1, y_set2, y_set3, y_storK, y_expr, y_exprK, y_ret1, y_retK, y_retn, y_ifs, y_ifsT, y_ifsF, y_forr, y_forK, y_whil, y_pas, y_brk1, y_cnt1, y_frz, y_frzK, m_nm, m_tpT, m_tpL, g_tpL, y_appo, y_apo1, y_apo2, y_asgK, fin_ret, fin_next, g_nm, g_tp, g_nil, g_cons, of_nil, of_cons, ofS_non, ofS_val, ofS_none, wi_nil, wi_cons, q_tf, q_ta, k_andT, k_andF, k_orT, k_orF, Res.bind_ok, SRes.of_ok, Option.bind_some, List.getElem?_cons_zero, List.getElem?_cons_succ, List.set_cons_zero, List.set_cons_succ, List.length_cons, List.length_nil, if_true, if_false, Nat.reduceAdd, Nat.reduceLT, Nat.zero_add, decide_true, decide_false, Bool.not_true, Bool.not_false, not_true_eq_false, not_false_eq_true, eq_self, cns]
  have ix : cal (n + 4) i_index_at [.tup [], jbD] M = .ok .non M := by
    rw [st_index_at]
    simp only [b_index_at, C_cal, C_arr, C_gl, lkK_val, pkK_own, x_cint, x_cstr, x_cbl, x_cnon, x_var, x_glob, x_fnv, x_tup, x_lst, x_bin, x_neg, x_cmp, x_chn, x_andv, x_orv, x_one, x_notv, x_ife, x_idx, x_dgt, x_slc, x_call, x_blt, x_isi, x_comp, x_dsp, x_dnew, x_get2, x_get1, k_g2a, k_g2b, k_g2c, k_g1a, k_g1b, pk_dnew, pk_get2, pk_get1, xs_nil, xs_cons, xp_nil, xp_cons, xo_non, xo_som, xt_val, xt_cmp, xt_chn, xt_not, xt_and, xt_or, xt_one, xq_nil, xq_one, xi_seq, xi_enum, xi_items, xi_zip, k_zip1, k_zipT, k_zipL, k_enuT, k_enuL, k_itm, k_seqO, x_stp, k_stp1, k_revT, k_revL, k_evnT, k_evnL, x_lnew, k_lnw, x_lrng1, x_lrng2, k_lrgT, k_lrgF, x_dcompK, x_dcompT, k_dcK, k_dcT, k_dkK, k_dtK, pk_lnew, pk_stp, pk_lrng, pk_dcomp, xi_rng1, xi_rng2, pk_own, pk_cint, pk_cstr, pk_cbl, pk_cnon, pk_var, pk_glob, pk_fnv, pk_tup, pk_lst, pk_bin, pk_neg, pk_cmp, pk_chn, pk_andv, pk_orv, pk_one, pk_notv, pk_ife, pk_idx, pk_dgt, pk_slc, pk_call, pk_blt, pk_isi, pk_comp, pk_dsp, k_tup, k_lst, k_con1, k_pcon1, k_con2, k_bin1, k_cmp1, k_chn1, k_chn2, k_chnT, k_chnF, k_chn4, k_tchn1, k_tchn2, k_tchnT, k_tchnF, k_tchn4, k_idx1, k_dgt1, k_slc1, k_slc2, k_neg, k_not, k_non, k_ifeT, k_ifeF, k_cal1, k_cal2, k_cal3, k_isi, k_intO, k_bl, k_tcmp1, k_tnot, k_tandT, k_tandF, k_torT, k_torF, k_dsp, k_seqT, k_seqL, k_comp, d_add, d_sub, d_lt, d_le, d_gt, d_ge, d_eqS, d_neS, d_eqI, d_neI, d_neNil, ob_of, ob_dk, ob_dt, ob_ls, ob_lk, look_k, look_t, dct_k, dct_t, stor_k, stor_t, stor_l, apnd_l, lst_l, lock_n, lock_l, lenD_o, getD_k, inD_o, i_obD, i_obT, i_obL, gc_len, gc_same, gc_keep, gc_new, gc_drop, gc_stk, p_gc, scp_pure, scps_pure, scp_int, scp_str, scp_bl, scp_non, scp_tup, scp_lst, scps_nil, scps_cons, d_min, d_max, d_abs, d_lenT, d_lenL, d_tupL, d_tupT, d_lstL, d_lstT, i_t0, i_l0, i_t1, i_l1, i_t2, i_l2, i_t3, i_l3, i_t4, i_l4, i_t5, i_l5, i_t6, i_l6, i_t7, i_l7, tr_bl, tr_int, tr_non, tr_tup, tr_lst, y_nil, y_cons, y_next, y_ret, y_brk, y_cnt, y_asg, y_par, y_par1, y_par2, y_ownL, y_ownK, y_ownF, y_ownC, y_ownCT, y_ownCL, y_ownFK, y_app, y_appK, y_app2, y_ext, y_extK, y_extT, y_extL, y_star, y_starK, y_row, y_aug, y_augK, y_augA, y_augT, y_augS, y_setd, y_set1, y_set2, y_set3, y_storK, y_expr, y_exprK, y_ret1, y_retK, y_retn, y_ifs, y_ifsT, y_ifsF, y_forr, y_forK, y_whil, y_pas, y_brk1, y_cnt1, y_frz, y_frzK, m_nm, m_tpT, m_tpL, g_tpL, y_appo, y_apo1, y_apo2, y_asgK, fin_ret, fin_next, g_nm, g_tp, g_nil, g_cons, of_nil, of_cons, ofS_non, ofS_val, ofS_none, wi_nil, wi_cons, q_tf, q_ta, k_andT, k_andF, k_orT, k_orF, Res.bind_ok, SRes.of_ok, Option.bind_some, List.getElem?_cons_zero, List.getElem?_cons_succ, List.set_cons_zero, List.set_cons_succ, List.length_cons, List.length_nil, if_true, if_false, Nat.reduceAdd, Nat.reduceLT, Nat.zero_add, decide_true, decide_false, Bool.not_true, Bool.not_false, not_true_eq_false, not_false_eq_true, eq_self, as_conds_of_1, co, forL, enumD]
  have po : cal (n + 2) i_parts_of [.tup [], .str "emp"] M = .ok (.tup [.int 0, .tup [], .tup []]) M := by
    rw [st_parts_of]
    simp only [b_parts_of, C_cal, C_arr, C_gl, lkK_val, pkK_own, x_cint, x_cstr, x_cbl, x_cnon, x_var, x_glob, x_fnv, x_tup, x_lst, x_bin, x_neg, x_cmp, x_chn, x_andv, x_orv, x_one, x_notv, x_ife, x_idx, x_dgt, x_slc, x_call, x_blt, x_isi, x_comp, x_dsp, x_dnew, x_get2, x_get1, k_g2a, k_g2b, k_g2c, k_g1a, k_g1b, pk_dnew, pk_get2, pk_get1, xs_nil, xs_cons, xp_nil, xp_cons, xo_non, xo_som, xt_val, xt_cmp, xt_chn, xt_not, xt_and, xt_or, xt_one, xq_nil, xq_one, xi_seq, xi_enum, xi_items, xi_zip, k_zip1, k_zipT, k_zipL, k_enuT, k_enuL, k_itm, k_seqO, x_stp, k_stp1, k_revT, k_revL, k_evnT, k_evnL, x_lnew, k_lnw, x_lrng1, x_lrng2, k_lrgT, k_lrgF, x_dcompK, x_dcompT, k_dcK, k_dcT, k_dkK, k_dtK, pk_lnew, pk_stp, pk_lrng, pk_dcomp, xi_rng1, xi_rng2, pk_own, pk_cint, pk_cstr, pk_cbl, pk_cnon, pk_var, pk_glob, pk_fnv, pk_tup, pk_lst, pk_bin, pk_neg, pk_cmp, pk_chn, pk_andv, pk_orv, pk_one, pk_notv, pk_ife, pk_idx, pk_dgt, pk_slc, pk_call, pk_blt, pk_isi, pk_comp, pk_dsp, k_tup, k_lst, k_con1, k_pcon1, k_con2, k_bin1, k_cmp1, k_chn1, k_chn2, k_chnT, k_chnF, k_chn4, k_tchn1, k_tchn2, k_tchnT, k_tchnF, k_tchn4, k_idx1, k_dgt1, k_slc1, k_slc2, k_neg, k_not, k_non, k_ifeT, k_ifeF, k_cal1, k_cal2, k_cal3, k_isi, k_intO, k_bl, k_tcmp1, k_tnot, k_tandT, k_tandF, k_torT, k_torF, k_dsp, k_seqT, k_seqL, k_comp, d_add, d_sub, d_lt, d_le, d_gt, d_ge, d_eqS, d_neS, d_eqI, d_neI, d_neNil, ob_of, ob_dk, ob_dt, ob_ls, ob_lk, look_k, look_t, dct_k, dct_t, stor_k, stor_t, stor_l, apnd_l, lst_l, lock_n, lock_l, lenD_o, getD_k, inD_o, i_obD, i_obT, i_obL, gc_len, gc_same, gc_keep, gc_new, gc_drop, gc_stk, p_gc, scp_pure, scps_pure, scp_int, scp_str, scp_bl, scp_non, scp_tup, scp_lst, scps_nil, scps_cons, d_min, d_max, d_abs, d_lenT, d_lenL, d_tupL, d_tupT, d_lstL, d_lstT, i_t0, i_l0, i_t1, i_l1, i_t2, i_l2, i_t3, i_l3, i_t4, i_l4, i_t5, i_l5, i_t6, i_l6, i_t7, i_l7, tr_bl, tr_int, tr_non, tr_tup, tr_lst, y_nil, y_cons, y_next, y_ret, y_brk, y_cnt, y_asg, y_par, y_par1, y_par2, y_ownL, y_ownK, y_ownF, y_ownC, y_ownCT, y_ownCL, y_ownFK, y_app, y_appK, y_app2, y_ext, y_extK, y_extT, y_extL, y_star, y_starK, y_row, y_aug, y_augK, y_augA, y_augT, y_augS, y_setd, y_set1, y_set2, y_set3, y_storK, y_expr, y_exprK, y_ret1, y_retK, y_retn, y_ifs, y_ifsT, y_ifsF, y_forr, y_forK, y_whil, y_pas, y_brk1, y_cnt1, y_frz, y_frzK, m_nm, m_tpT, m_tpL, g_tpL, y_appo, y_apo1, y_apo2, y_asgK, fin_ret, fin_next, g_nm, g_tp, g_nil, g_cons, of_nil, of_cons, ofS_non, ofS_val, ofS_none, wi_nil, wi_cons, q_tf, q_ta, k_andT, k_andF, k_orT, k_orF, Res.bind_ok, SRes.of_ok, Option.bind_some, List.getElem?_cons_zero, List.getElem?_cons_succ, List.set_cons_zero, List.set_cons_succ, List.length_cons, List.length_nil, if_true, if_false, Nat.reduceAdd, Nat.reduceLT, Nat.zero_add, decide_true, decide_false, Bool.not_true, Bool.not_false, not_true_eq_false, not_false_eq_true, eq_self, forL, gl_VOID]
  have ro : cal (n + 3) i_rows_of [.tup [], .str "emp"] M = .ok (.tup []) M := by
    rw [st_rows_of]
    simp only [b_rows_of, C_cal, C_arr, C_gl, lkK_val, pkK_own, x_cint, x_cstr, x_cbl, x_cnon, x_var, x_glob, x_fnv, x_tup, x_lst, x_bin, x_neg, x_cmp, x_chn, x_andv, x_orv, x_one, x_notv, x_ife, x_idx, x_dgt, x_slc, x_call, x_blt, x_isi, x_comp, x_dsp, x_dnew, x_get2, x_get1, k_g2a, k_g2b, k_g2c, k_g1a, k_g1b, pk_dnew, pk_get2, pk_get1, xs_nil, xs_cons, xp_nil, xp_cons, xo_non, xo_som, xt_val, xt_cmp, xt_chn, xt_not, xt_and, xt_or, xt_one, xq_nil, xq_one, xi_seq, xi_enum, xi_items, xi_zip, k_zip1, k_zipT, k_zipL, k_enuT, k_enuL, k_itm, k_seqO, x_stp, k_stp1, k_revT, k_revL, k_evnT, k_evnL, x_lnew, k_lnw, x_lrng1, x_lrng2, k_lrgT, k_lrgF, x_dcompK, x_dcompT, k_dcK, k_dcT, k_dkK, k_dtK, pk_lnew, pk_stp, pk_lrng, pk_dcomp, xi_rng1, xi_rng2, pk_own, pk_cint, pk_cstr, pk_cbl, pk_cnon, pk_var, pk_glob, pk_fnv, pk_tup, pk_lst, pk_bin, pk_neg, pk_cmp, pk_chn, pk_andv, pk_orv, pk_one, pk_notv, pk_ife, pk_idx, pk_dgt, pk_slc, pk_call, pk_blt, pk_isi, pk_comp, pk_dsp, k_tup, k_lst, k_con1, k_pcon1, k_con2, k_bin1, k_cmp1, k_chn1, k_chn2, k_chnT, k_chnF, k_chn4, k_tchn1, k_tchn2, k_tchnT, k_tchnF, k_tchn4, k_idx1, k_dgt1, k_slc1, k_slc2, k_neg, k_not, k_non, k_ifeT, k_ifeF, k_cal1, k_cal2, k_cal3, k_isi, k_intO, k_bl, k_tcmp1, k_tnot, k_tandT, k_tandF, k_torT, k_torF, k_dsp, k_seqT, k_seqL, k_comp, d_add, d_sub, d_lt, d_le, d_gt, d_ge, d_eqS, d_neS, d_eqI, d_neI, d_neNil, ob_of, ob_dk, ob_dt, ob_ls, ob_lk, look_k, look_t, dct_k, dct_t, stor_k, stor_t, stor_l, apnd_l, lst_l, lock_n, lock_l, lenD_o, getD_k, inD_o, i_obD, i_obT, i_obL, gc_len, gc_same, gc_keep, gc_new, gc_drop, gc_stk, p_gc, scp_pure, scps_pure, scp_int, scp_str, scp_bl, scp_non, scp_tup, scp_lst, scps_nil, scps_cons, d_min, d_max, d_abs, d_lenT, d_lenL, d_tupL, d_tupT, d_lstL, d_lstT, i_t0, i_l0, i_t1, i_l1, i_t2, i_l2, i_t3, i_l3, i_t4, i_l4, i_t5, i_l5, i_t6, i_l6, i_t7, i_l7, tr_bl, tr_int, tr_non, tr_tup, tr_lst, y_nil, y_cons, y_next, y_ret, y_brk, y_cnt, y_asg, y_par, y_par1, y_par2, y_ownL, y_ownK, y_ownF, y_ownC, y_ownCT, y_ownCL, y_ownFK, y_app, y_appK, y_app2, y_ext, y_extK, y_extT, y_extL, y_star, y_starK, y_row, y_aug, y_augK, y_augA, y_augT, y_augS, y_setd, y_set1, y_set2, y_set3, y_storK, y_expr, y_exprK, y_ret1, y_retK, y_retn, y_ifs, y_ifsT, y_ifsF, y_forr, y_forK, y_whil, y_pas, y_brk1, y_cnt1, y_frz, y_frzK, m_nm, m_tpT, m_tpL, g_tpL, y_appo, y_apo1, y_apo2, y_asgK, fin_ret, fin_next, g_nm, g_tp, g_nil, g_cons, of_nil, of_cons, ofS_non, ofS_val, ofS_none, wi_nil, wi_cons, q_tf, q_ta, k_andT, k_andF, k_orT, k_orF, Res.bind_ok, SRes.of_ok, Option.bind_some, List.getElem?_cons_zero, List.getElem?_cons_succ, List.set_cons_zero, List.set_cons_succ, List.length_cons, List.length_nil, if_true, if_false, Nat.reduceAdd, Nat.reduceLT, Nat.zero_add, decide_true, decide_false, Bool.not_true, Bool.not_false, not_true_eq_false, not_false_eq_true, eq_self, as_parts_of_2, po]
  have me : cal (n + 4) i_meeting [.tup [], .str "emp", .tup []] M = .ok (.tup []) M := by
    rw [st_meeting]
    rw [b_meeting, co_meeting_1]
    simp only [C_cal, C_arr, C_gl, lkK_val, pkK_own, x_cint, x_cstr, x_cbl, x_cnon, x_var, x_glob, x_fnv, x_tup, x_lst, x_bin, x_neg, x_cmp, x_chn, x_andv, x_orv, x_one, x_notv, x_ife, x_idx, x_dgt, x_slc, x_call, x_blt, x_isi, x_comp, x_dsp, x_dnew, x_get2, x_get1, k_g2a, k_g2b, k_g2c, k_g1a, k_g1b, pk_dnew, pk_get2, pk_get1, xs_nil, xs_cons, xp_nil, xp_cons, xo_non, xo_som, xt_val, xt_cmp, xt_chn, xt_not, xt_and, xt_or, xt_one, xq_nil, xq_one, xi_seq, xi_enum, xi_items, xi_zip, k_zip1, k_zipT, k_zipL, k_enuT, k_enuL, k_itm, k_seqO, x_stp, k_stp1, k_revT, k_revL, k_evnT, k_evnL, x_lnew, k_lnw, x_lrng1, x_lrng2, k_lrgT, k_lrgF, x_dcompK, x_dcompT, k_dcK, k_dcT, k_dkK, k_dtK, pk_lnew, pk_stp, pk_lrng, pk_dcomp, xi_rng1, xi_rng2, pk_own, pk_cint, pk_cstr, pk_cbl, pk_cnon, pk_var, pk_glob, pk_fnv, pk_tup, pk_lst, pk_bin, pk_neg, pk_cmp, pk_chn, pk_andv, pk_orv, pk_one, pk_notv, pk_ife, pk_idx, pk_dgt, pk_slc, pk_call, pk_blt, pk_isi, pk_comp, pk_dsp, k_tup, k_lst, k_con1, k_pcon1, k_con2, k_bin1, k_cmp1, k_chn1, k_chn2, k_chnT, k_chnF, k_chn4, k_tchn1, k_tchn2, k_tchnT, k_tchnF, k_tchn4, k_idx1, k_dgt1, k_slc1, k_slc2, k_neg, k_not, k_non, k_ifeT, k_ifeF, k_cal1, k_cal2, k_cal3, k_isi, k_intO, k_bl, k_tcmp1, k_tnot, k_tandT, k_tandF, k_torT, k_torF, k_dsp, k_seqT, k_seqL, k_comp, d_add, d_sub, d_lt, d_le, d_gt, d_ge, d_eqS, d_neS, d_eqI, d_neI, d_neNil, ob_of, ob_dk, ob_dt, ob_ls, ob_lk, look_k, look_t, dct_k, dct_t, stor_k, stor_t, stor_l, apnd_l, lst_l, lock_n, lock_l, lenD_o, getD_k, inD_o, i_obD, i_obT, i_obL, gc_len, gc_same, gc_keep, gc_new, gc_drop, gc_stk, p_gc, scp_pure, scps_pure, scp_int, scp_str, scp_bl, scp_non, scp_tup, scp_lst, scps_nil, scps_cons, d_min, d_max, d_abs, d_lenT, d_lenL, d_tupL, d_tupT, d_lstL, d_lstT, i_t0, i_l0, i_t1, i_l1, i_t2, i_l2, i_t3, i_l3, i_t4, i_l4, i_t5, i_l5, i_t6, i_l6, i_t7, i_l7, tr_bl, tr_int, tr_non, tr_tup, tr_lst, y_nil, y_cons, y_next, y_ret, y_brk, y_cnt, y_asg, y_par, y_par1, y_par2, y_ownL, y_ownK, y_ownF, y_ownC, y_ownCT, y_ownCL, y_ownFK, y_app, y_appK, y_app2, y_ext, y_extK, y_extT, y_extL, y_star, y_starK, y_row, y_aug, y_augK, y_augA, y_augT, y_augS, y_setd, y_set1, y_set2, y_set3, y_storK, y_expr, y_exprK, y_ret1, y_retK, y_retn, y_ifs, y_ifsT, y_ifsF, y_forr, y_forK, y_whil, y_pas, y_brk1, y_cnt1, y_frz, y_frzK, m_nm, m_tpT, m_tpL, g_tpL, y_appo, y_apo1, y_apo2, y_asgK, fin_ret, fin_next, g_nm, g_tp, g_nil, g_cons, of_nil, of_cons, ofS_non, ofS_val, ofS_none, wi_nil, wi_cons, q_tf, q_ta, k_andT, k_andF, k_orT, k_orF, Res.bind_ok, SRes.of_ok, Option.bind_some, List.getElem?_cons_zero, List.getElem?_cons_succ, List.set_cons_zero, List.set_cons_succ, List.length_cons, List.length_nil, if_true, if_false, Nat.reduceAdd, Nat.reduceLT, Nat.zero_add, decide_true, decide_false, Bool.not_true, Bool.not_false, not_true_eq_false, not_false_eq_true, eq_self, as_rows_of_2, ro, compL]
  have lo : cal (n + 5) i_looked_at [.tup [], jbD] M = .ok (.tup [.non, .tup []]) M := by
    rw [st_looked_at]
    simp only [b_looked_at, C_cal, C_arr, C_gl, lkK_val, pkK_own, x_cint, x_cstr, x_cbl, x_cnon, x_var, x_glob, x_fnv, x_tup, x_lst, x_bin, x_neg, x_cmp, x_chn, x_andv, x_orv, x_one, x_notv, x_ife, x_idx, x_dgt, x_slc, x_call, x_blt, x_isi, x_comp, x_dsp, x_dnew, x_get2, x_get1, k_g2a, k_g2b, k_g2c, k_g1a, k_g1b, pk_dnew, pk_get2, pk_get1, xs_nil, xs_cons, xp_nil, xp_cons, xo_non, xo_som, xt_val, xt_cmp, xt_chn, xt_not, xt_and, xt_or, xt_one, xq_nil, xq_one, xi_seq, xi_enum, xi_items, xi_zip, k_zip1, k_zipT, k_zipL, k_enuT, k_enuL, k_itm, k_seqO, x_stp, k_stp1, k_revT, k_revL, k_evnT, k_evnL, x_lnew, k_lnw, x_lrng1, x_lrng2, k_lrgT, k_lrgF, x_dcompK, x_dcompT, k_dcK, k_dcT, k_dkK, k_dtK, pk_lnew, pk_stp, pk_lrng, pk_dcomp, xi_rng1, xi_rng2, pk_own, pk_cint, pk_cstr, pk_cbl, pk_cnon, pk_var, pk_glob, pk_fnv, pk_tup, pk_lst, pk_bin, pk_neg, pk_cmp, pk_chn, pk_andv, pk_orv, pk_one, pk_notv, pk_ife, pk_idx, pk_dgt, pk_slc, pk_call, pk_blt, pk_isi, pk_comp, pk_dsp, k_tup, k_lst, k_con1, k_pcon1, k_con2, k_bin1, k_cmp1, k_chn1, k_chn2, k_chnT, k_chnF, k_chn4, k_tchn1, k_tchn2, k_tchnT, k_tchnF, k_tchn4, k_idx1, k_dgt1, k_slc1, k_slc2, k_neg, k_not, k_non, k_ifeT, k_ifeF, k_cal1, k_cal2, k_cal3, k_isi, k_intO, k_bl, k_tcmp1, k_tnot, k_tandT, k_tandF, k_torT, k_torF, k_dsp, k_seqT, k_seqL, k_comp, d_add, d_sub, d_lt, d_le, d_gt, d_ge, d_eqS, d_neS, d_eqI, d_neI, d_neNil, ob_of, ob_dk, ob_dt, ob_ls, ob_lk, look_k, look_t, dct_k, dct_t, stor_k, stor_t, stor_l, apnd_l, lst_l, lock_n, lock_l, lenD_o, getD_k, inD_o, i_obD, i_obT, i_obL, gc_len, gc_same, gc_keep, gc_new, gc_drop, gc_stk, p_gc, scp_pure, scps_pure, scp_int, scp_str, scp_bl, scp_non, scp_tup, scp_lst, scps_nil, scps_cons, d_min, d_max, d_abs, d_lenT, d_lenL, d_tupL, d_tupT, d_lstL, d_lstT, i_t0, i_l0, i_t1, i_l1, i_t2, i_l2, i_t3, i_l3, i_t4, i_l4, i_t5, i_l5, i_t6, i_l6, i_t7, i_l7, tr_bl, tr_int, tr_non, tr_tup, tr_lst, y_nil, y_cons, y_next, y_ret, y_brk, y_cnt, y_asg, y_par, y_par1, y_par2, y_ownL, y_ownK, y_ownF, y_ownC, y_ownCT, y_ownCL, y_ownFK, y_app, y_appK, y_app2, y_ext, y_extK, y_extT, y_extL, y_star, y_starK, y_row, y_aug, y_augK, y_augA, y_augT, y_augS, y_setd, y_set1, y_set2, y_set3, y_storK, y_expr, y_exprK, y_ret1, y_retK, y_retn, y_ifs, y_ifsT, y_ifsF, y_forr, y_forK, y_whil, y_pas, y_brk1, y_cnt1, y_frz, y_frzK, m_nm, m_tpT, m_tpL, g_tpL, y_appo, y_apo1, y_apo2, y_asgK, fin_ret, fin_next, g_nm, g_tp, g_nil, g_cons, of_nil, of_cons, ofS_non, ofS_val, ofS_none, wi_nil, wi_cons, q_tf, q_ta, k_andT, k_andF, k_orT, k_orF, Res.bind_ok, SRes.of_ok, Option.bind_some, List.getElem?_cons_zero, List.getElem?_cons_succ, List.set_cons_zero, List.set_cons_succ, List.length_cons, List.length_nil, if_true, if_false, Nat.reduceAdd, Nat.reduceLT, Nat.zero_add, decide_true, decide_false, Bool.not_true, Bool.not_false, not_true_eq_false, not_false_eq_true, eq_self, as_index_at_2, ix, d_isN, isNonD, as_meeting_3, me]
  have i1 : inD (.str "count") (.tup [.str "rows", .str "count", .str "sum"]) M = some true := (in_strs (w := "count") (xs := ["rows", "count", "sum"]) (by decide +kernel) (by decide +kernel)).trans (by decide +kernel)
  rw [st_measure_of]
  simp only [b_measure_of, jbD, C_cal, C_arr, C_gl, lkK_val, pkK_own, x_cint, x_cstr, x_cbl, x_cnon, x_var, x_glob, x_fnv, x_tup, x_lst, x_bin, x_neg, x_cmp, x_chn, x_andv, x_orv, x_one, x_notv, x_ife, x_idx, x_dgt, x_slc, x_call, x_blt, x_isi, x_comp, x_dsp, x_dnew, x_get2, x_get1, k_g2a, k_g2b, k_g2c, k_g1a, k_g1b, pk_dnew, pk_get2, pk_get1, xs_nil, xs_cons, xp_nil, xp_cons, xo_non, xo_som, xt_val, xt_cmp, xt_chn, xt_not, xt_and, xt_or, xt_one, xq_nil, xq_one, xi_seq, xi_enum, xi_items, xi_zip, k_zip1, k_zipT, k_zipL, k_enuT, k_enuL, k_itm, k_seqO, x_stp, k_stp1, k_revT, k_revL, k_evnT, k_evnL, x_lnew, k_lnw, x_lrng1, x_lrng2, k_lrgT, k_lrgF, x_dcompK, x_dcompT, k_dcK, k_dcT, k_dkK, k_dtK, pk_lnew, pk_stp, pk_lrng, pk_dcomp, xi_rng1, xi_rng2, pk_own, pk_cint, pk_cstr, pk_cbl, pk_cnon, pk_var, pk_glob, pk_fnv, pk_tup, pk_lst, pk_bin, pk_neg, pk_cmp, pk_chn, pk_andv, pk_orv, pk_one, pk_notv, pk_ife, pk_idx, pk_dgt, pk_slc, pk_call, pk_blt, pk_isi, pk_comp, pk_dsp, k_tup, k_lst, k_con1, k_pcon1, k_con2, k_bin1, k_cmp1, k_chn1, k_chn2, k_chnT, k_chnF, k_chn4, k_tchn1, k_tchn2, k_tchnT, k_tchnF, k_tchn4, k_idx1, k_dgt1, k_slc1, k_slc2, k_neg, k_not, k_non, k_ifeT, k_ifeF, k_cal1, k_cal2, k_cal3, k_isi, k_intO, k_bl, k_tcmp1, k_tnot, k_tandT, k_tandF, k_torT, k_torF, k_dsp, k_seqT, k_seqL, k_comp, d_add, d_sub, d_lt, d_le, d_gt, d_ge, d_eqS, d_neS, d_eqI, d_neI, d_neNil, ob_of, ob_dk, ob_dt, ob_ls, ob_lk, look_k, look_t, dct_k, dct_t, stor_k, stor_t, stor_l, apnd_l, lst_l, lock_n, lock_l, lenD_o, getD_k, inD_o, i_obD, i_obT, i_obL, gc_len, gc_same, gc_keep, gc_new, gc_drop, gc_stk, p_gc, scp_pure, scps_pure, scp_int, scp_str, scp_bl, scp_non, scp_tup, scp_lst, scps_nil, scps_cons, d_min, d_max, d_abs, d_lenT, d_lenL, d_tupL, d_tupT, d_lstL, d_lstT, i_t0, i_l0, i_t1, i_l1, i_t2, i_l2, i_t3, i_l3, i_t4, i_l4, i_t5, i_l5, i_t6, i_l6, i_t7, i_l7, tr_bl, tr_int, tr_non, tr_tup, tr_lst, y_nil, y_cons, y_next, y_ret, y_brk, y_cnt, y_asg, y_par, y_par1, y_par2, y_ownL, y_ownK, y_ownF, y_ownC, y_ownCT, y_ownCL, y_ownFK, y_app, y_appK, y_app2, y_ext, y_extK, y_extT, y_extL, y_star, y_starK, y_row, y_aug, y_augK, y_augA, y_augT, y_augS, y_setd, y_set1, y_set2, y_set3, y_storK, y_expr, y_exprK, y_ret1, y_retK, y_retn, y_ifs, y_ifsT, y_ifsF, y_forr, y_forK, y_whil, y_pas, y_brk1, y_cnt1, y_frz, y_frzK, m_nm, m_tpT, m_tpL, g_tpL, y_appo, y_apo1, y_apo2, y_asgK, fin_ret, fin_next, g_nm, g_tp, g_nil, g_cons, of_nil, of_cons, ofS_non, ofS_val, ofS_none, wi_nil, wi_cons, q_tf, q_ta, k_andT, k_andF, k_orT, k_orF, Res.bind_ok, SRes.of_ok, Option.bind_some, List.getElem?_cons_zero, List.getElem?_cons_succ, List.set_cons_zero, List.set_cons_succ, List.length_cons, List.length_nil, if_true, if_false, Nat.reduceAdd, Nat.reduceLT, Nat.zero_add, decide_true, decide_false, Bool.not_true, Bool.not_false, not_true_eq_false, not_false_eq_true, eq_self, starK, star_6, cnp, cni, gl_OF_MANY_measures, d_inB i1, as_looked_at_2, lo]
  rfl
theorem r_begun (n : Nat) (a : Int) (q : List D) (t : Int × Int) (o : D) (ho : o = .non ∨ o = .int 1) (l : Int) : cal (n + 7) i_begun_cost [lifeD (qD a :: q) t o l] M = .ok (.int 1) M := by
  have e := r_meas (M := M) n
  rw [st_begun_cost]
  rcases ho with rfl | rfl
  · simp only [lifeD, qD, frD, b_begun_cost, C_cal, C_arr, C_gl, lkK_val, pkK_own, x_cint, x_cstr, x_cbl, x_cnon, x_var, x_glob, x_fnv, x_tup, x_lst, x_bin, x_neg, x_cmp, x_chn, x_andv, x_orv, x_one, x_notv, x_ife, x_idx, x_dgt, x_slc, x_call, x_blt, x_isi, x_comp, x_dsp, x_dnew, x_get2, x_get1, k_g2a, k_g2b, k_g2c, k_g1a, k_g1b, pk_dnew, pk_get2, pk_get1, xs_nil, xs_cons, xp_nil, xp_cons, xo_non, xo_som, xt_val, xt_cmp, xt_chn, xt_not, xt_and, xt_or, xt_one, xq_nil, xq_one, xi_seq, xi_enum, xi_items, xi_zip, k_zip1, k_zipT, k_zipL, k_enuT, k_enuL, k_itm, k_seqO, x_stp, k_stp1, k_revT, k_revL, k_evnT, k_evnL, x_lnew, k_lnw, x_lrng1, x_lrng2, k_lrgT, k_lrgF, x_dcompK, x_dcompT, k_dcK, k_dcT, k_dkK, k_dtK, pk_lnew, pk_stp, pk_lrng, pk_dcomp, xi_rng1, xi_rng2, pk_own, pk_cint, pk_cstr, pk_cbl, pk_cnon, pk_var, pk_glob, pk_fnv, pk_tup, pk_lst, pk_bin, pk_neg, pk_cmp, pk_chn, pk_andv, pk_orv, pk_one, pk_notv, pk_ife, pk_idx, pk_dgt, pk_slc, pk_call, pk_blt, pk_isi, pk_comp, pk_dsp, k_tup, k_lst, k_con1, k_pcon1, k_con2, k_bin1, k_cmp1, k_chn1, k_chn2, k_chnT, k_chnF, k_chn4, k_tchn1, k_tchn2, k_tchnT, k_tchnF, k_tchn4, k_idx1, k_dgt1, k_slc1, k_slc2, k_neg, k_not, k_non, k_ifeT, k_ifeF, k_cal1, k_cal2, k_cal3, k_isi, k_intO, k_bl, k_tcmp1, k_tnot, k_tandT, k_tandF, k_torT, k_torF, k_dsp, k_seqT, k_seqL, k_comp, d_add, d_sub, d_lt, d_le, d_gt, d_ge, d_eqS, d_neS, d_eqI, d_neI, d_neNil, ob_of, ob_dk, ob_dt, ob_ls, ob_lk, look_k, look_t, dct_k, dct_t, stor_k, stor_t, stor_l, apnd_l, lst_l, lock_n, lock_l, lenD_o, getD_k, inD_o, i_obD, i_obT, i_obL, gc_len, gc_same, gc_keep, gc_new, gc_drop, gc_stk, p_gc, scp_pure, scps_pure, scp_int, scp_str, scp_bl, scp_non, scp_tup, scp_lst, scps_nil, scps_cons, d_min, d_max, d_abs, d_lenT, d_lenL, d_tupL, d_tupT, d_lstL, d_lstT, i_t0, i_l0, i_t1, i_l1, i_t2, i_l2, i_t3, i_l3, i_t4, i_l4, i_t5, i_l5, i_t6, i_l6, i_t7, i_l7, tr_bl, tr_int, tr_non, tr_tup, tr_lst, y_nil, y_cons, y_next, y_ret, y_brk, y_cnt, y_asg, y_par, y_par1, y_par2, y_ownL, y_ownK, y_ownF, y_ownC, y_ownCT, y_ownCL, y_ownFK, y_app, y_appK, y_app2, y_ext, y_extK, y_extT, y_extL, y_star, y_starK, y_row, y_aug, y_augK, y_augA, y_augT, y_augS, y_setd, y_set1, y_set2, y_set3, y_storK, y_expr, y_exprK, y_ret1, y_retK, y_retn, y_ifs, y_ifsT, y_ifsF, y_forr, y_forK, y_whil, y_pas, y_brk1, y_cnt1, y_frz, y_frzK, m_nm, m_tpT, m_tpL, g_tpL, y_appo, y_apo1, y_apo2, y_asgK, fin_ret, fin_next, g_nm, g_tp, g_nil, g_cons, of_nil, of_cons, ofS_non, ofS_val, ofS_none, wi_nil, wi_cons, q_tf, q_ta, k_andT, k_andF, k_orT, k_orF, Res.bind_ok, SRes.of_ok, Option.bind_some, List.getElem?_cons_zero, List.getElem?_cons_succ, List.set_cons_zero, List.set_cons_succ, List.length_cons, List.length_nil, if_true, if_false, Nat.reduceAdd, Nat.reduceLT, Nat.zero_add, decide_true, decide_false, Bool.not_true, Bool.not_false, not_true_eq_false, not_false_eq_true, eq_self, d_isN, isNonD, as_measure_of_2, e]
  · simp only [lifeD, qD, frD, b_begun_cost, C_cal, C_arr, C_gl, lkK_val, pkK_own, x_cint, x_cstr, x_cbl, x_cnon, x_var, x_glob, x_fnv, x_tup, x_lst, x_bin, x_neg, x_cmp, x_chn, x_andv, x_orv, x_one, x_notv, x_ife, x_idx, x_dgt, x_slc, x_call, x_blt, x_isi, x_comp, x_dsp, x_dnew, x_get2, x_get1, k_g2a, k_g2b, k_g2c, k_g1a, k_g1b, pk_dnew, pk_get2, pk_get1, xs_nil, xs_cons, xp_nil, xp_cons, xo_non, xo_som, xt_val, xt_cmp, xt_chn, xt_not, xt_and, xt_or, xt_one, xq_nil, xq_one, xi_seq, xi_enum, xi_items, xi_zip, k_zip1, k_zipT, k_zipL, k_enuT, k_enuL, k_itm, k_seqO, x_stp, k_stp1, k_revT, k_revL, k_evnT, k_evnL, x_lnew, k_lnw, x_lrng1, x_lrng2, k_lrgT, k_lrgF, x_dcompK, x_dcompT, k_dcK, k_dcT, k_dkK, k_dtK, pk_lnew, pk_stp, pk_lrng, pk_dcomp, xi_rng1, xi_rng2, pk_own, pk_cint, pk_cstr, pk_cbl, pk_cnon, pk_var, pk_glob, pk_fnv, pk_tup, pk_lst, pk_bin, pk_neg, pk_cmp, pk_chn, pk_andv, pk_orv, pk_one, pk_notv, pk_ife, pk_idx, pk_dgt, pk_slc, pk_call, pk_blt, pk_isi, pk_comp, pk_dsp, k_tup, k_lst, k_con1, k_pcon1, k_con2, k_bin1, k_cmp1, k_chn1, k_chn2, k_chnT, k_chnF, k_chn4, k_tchn1, k_tchn2, k_tchnT, k_tchnF, k_tchn4, k_idx1, k_dgt1, k_slc1, k_slc2, k_neg, k_not, k_non, k_ifeT, k_ifeF, k_cal1, k_cal2, k_cal3, k_isi, k_intO, k_bl, k_tcmp1, k_tnot, k_tandT, k_tandF, k_torT, k_torF, k_dsp, k_seqT, k_seqL, k_comp, d_add, d_sub, d_lt, d_le, d_gt, d_ge, d_eqS, d_neS, d_eqI, d_neI, d_neNil, ob_of, ob_dk, ob_dt, ob_ls, ob_lk, look_k, look_t, dct_k, dct_t, stor_k, stor_t, stor_l, apnd_l, lst_l, lock_n, lock_l, lenD_o, getD_k, inD_o, i_obD, i_obT, i_obL, gc_len, gc_same, gc_keep, gc_new, gc_drop, gc_stk, p_gc, scp_pure, scps_pure, scp_int, scp_str, scp_bl, scp_non, scp_tup, scp_lst, scps_nil, scps_cons, d_min, d_max, d_abs, d_lenT, d_lenL, d_tupL, d_tupT, d_lstL, d_lstT, i_t0, i_l0, i_t1, i_l1, i_t2, i_l2, i_t3, i_l3, i_t4, i_l4, i_t5, i_l5, i_t6, i_l6, i_t7, i_l7, tr_bl, tr_int, tr_non, tr_tup, tr_lst, y_nil, y_cons, y_next, y_ret, y_brk, y_cnt, y_asg, y_par, y_par1, y_par2, y_ownL, y_ownK, y_ownF, y_ownC, y_ownCT, y_ownCL, y_ownFK, y_app, y_appK, y_app2, y_ext, y_extK, y_extT, y_extL, y_star, y_starK, y_row, y_aug, y_augK, y_augA, y_augT, y_augS, y_setd, y_set1, y_set2, y_set3, y_storK, y_expr, y_exprK, y_ret1, y_retK, y_retn, y_ifs, y_ifsT, y_ifsF, y_forr, y_forK, y_whil, y_pas, y_brk1, y_cnt1, y_frz, y_frzK, m_nm, m_tpT, m_tpL, g_tpL, y_appo, y_apo1, y_apo2, y_asgK, fin_ret, fin_next, g_nm, g_tp, g_nil, g_cons, of_nil, of_cons, ofS_non, ofS_val, ofS_none, wi_nil, wi_cons, q_tf, q_ta, k_andT, k_andF, k_orT, k_orF, Res.bind_ok, SRes.of_ok, Option.bind_some, List.getElem?_cons_zero, List.getElem?_cons_succ, List.set_cons_zero, List.set_cons_succ, List.length_cons, List.length_nil, if_true, if_false, Nat.reduceAdd, Nat.reduceLT, Nat.zero_add, decide_true, decide_false, Bool.not_true, Bool.not_false, not_true_eq_false, not_false_eq_true, eq_self, d_isN, isNonD, Bool.false_eq_true]
theorem r_first (n : Nat) (a : Int) (q : List D) (t : Int × Int) (o : D) (l : Int) (tick : D) : cal (n + 6) i_first_done [lifeD (qD a :: q) t o l, tick, .str "eu", .tup []] M = .ok (.tup [lifeD q t .non l, .tup [.int a, tick, tblD]]) M := by
  have e := r_done (M := M) n tick
  have c1 : ∀ M : Sto, slcD (.tup (.tup [.int a, jbD] :: q)) (some 1) none M = .ok (.tup q) M := fun M => by
    have e : cutD (D.tup [.int a, jbD] :: q) (some 1) none = q := cut_drop _ 1
    rw [slc_t, e]
  rw [st_first_done]
  simp only [lifeD, qD, frD, b_first_done, C_cal, C_arr, C_gl, lkK_val, pkK_own, x_cint, x_cstr, x_cbl, x_cnon, x_var, x_glob, x_fnv, x_tup, x_lst, x_bin, x_neg, x_cmp, x_chn, x_andv, x_orv, x_one, x_notv, x_ife, x_idx, x_dgt, x_slc, x_call, x_blt, x_isi, x_comp, x_dsp, x_dnew, x_get2, x_get1, k_g2a, k_g2b, k_g2c, k_g1a, k_g1b, pk_dnew, pk_get2, pk_get1, xs_nil, xs_cons, xp_nil, xp_cons, xo_non, xo_som, xt_val, xt_cmp, xt_chn, xt_not, xt_and, xt_or, xt_one, xq_nil, xq_one, xi_seq, xi_enum, xi_items, xi_zip, k_zip1, k_zipT, k_zipL, k_enuT, k_enuL, k_itm, k_seqO, x_stp, k_stp1, k_revT, k_revL, k_evnT, k_evnL, x_lnew, k_lnw, x_lrng1, x_lrng2, k_lrgT, k_lrgF, x_dcompK, x_dcompT, k_dcK, k_dcT, k_dkK, k_dtK, pk_lnew, pk_stp, pk_lrng, pk_dcomp, xi_rng1, xi_rng2, pk_own, pk_cint, pk_cstr, pk_cbl, pk_cnon, pk_var, pk_glob, pk_fnv, pk_tup, pk_lst, pk_bin, pk_neg, pk_cmp, pk_chn, pk_andv, pk_orv, pk_one, pk_notv, pk_ife, pk_idx, pk_dgt, pk_slc, pk_call, pk_blt, pk_isi, pk_comp, pk_dsp, k_tup, k_lst, k_con1, k_pcon1, k_con2, k_bin1, k_cmp1, k_chn1, k_chn2, k_chnT, k_chnF, k_chn4, k_tchn1, k_tchn2, k_tchnT, k_tchnF, k_tchn4, k_idx1, k_dgt1, k_slc1, k_slc2, k_neg, k_not, k_non, k_ifeT, k_ifeF, k_cal1, k_cal2, k_cal3, k_isi, k_intO, k_bl, k_tcmp1, k_tnot, k_tandT, k_tandF, k_torT, k_torF, k_dsp, k_seqT, k_seqL, k_comp, d_add, d_sub, d_lt, d_le, d_gt, d_ge, d_eqS, d_neS, d_eqI, d_neI, d_neNil, ob_of, ob_dk, ob_dt, ob_ls, ob_lk, look_k, look_t, dct_k, dct_t, stor_k, stor_t, stor_l, apnd_l, lst_l, lock_n, lock_l, lenD_o, getD_k, inD_o, i_obD, i_obT, i_obL, gc_len, gc_same, gc_keep, gc_new, gc_drop, gc_stk, p_gc, scp_pure, scps_pure, scp_int, scp_str, scp_bl, scp_non, scp_tup, scp_lst, scps_nil, scps_cons, d_min, d_max, d_abs, d_lenT, d_lenL, d_tupL, d_tupT, d_lstL, d_lstT, i_t0, i_l0, i_t1, i_l1, i_t2, i_l2, i_t3, i_l3, i_t4, i_l4, i_t5, i_l5, i_t6, i_l6, i_t7, i_l7, tr_bl, tr_int, tr_non, tr_tup, tr_lst, y_nil, y_cons, y_next, y_ret, y_brk, y_cnt, y_asg, y_par, y_par1, y_par2, y_ownL, y_ownK, y_ownF, y_ownC, y_ownCT, y_ownCL, y_ownFK, y_app, y_appK, y_app2, y_ext, y_extK, y_extT, y_extL, y_star, y_starK, y_row, y_aug, y_augK, y_augA, y_augT, y_augS, y_setd, y_set1, y_set2, y_set3, y_storK, y_expr, y_exprK, y_ret1, y_retK, y_retn, y_ifs, y_ifsT, y_ifsF, y_forr, y_forK, y_whil, y_pas, y_brk1, y_cnt1, y_frz, y_frzK, m_nm, m_tpT, m_tpL, g_tpL, y_appo, y_apo1, y_apo2, y_asgK, fin_ret, fin_next, g_nm, g_tp, g_nil, g_cons, of_nil, of_cons, ofS_non, ofS_val, ofS_none, wi_nil, wi_cons, q_tf, q_ta, k_andT, k_andF, k_orT, k_orF, Res.bind_ok, SRes.of_ok, Option.bind_some, List.getElem?_cons_zero, List.getElem?_cons_succ, List.set_cons_zero, List.set_cons_succ, List.length_cons, List.length_nil, if_true, if_false, Nat.reduceAdd, Nat.reduceLT, Nat.zero_add, decide_true, decide_false, Bool.not_true, Bool.not_false, not_true_eq_false, not_false_eq_true, eq_self, as_done_job_2_tick_land_rules, e, c1]
theorem r_life_of (n : Nat) : cal (n + 1) i_life_of [.tup []] M = .ok (lifeD [] (0, 1) .non 0) M := by
  rw [st_life_of]
  simp only [b_life_of, C_cal, C_arr, C_gl, lkK_val, pkK_own, x_cint, x_cstr, x_cbl, x_cnon, x_var, x_glob, x_fnv, x_tup, x_lst, x_bin, x_neg, x_cmp, x_chn, x_andv, x_orv, x_one, x_notv, x_ife, x_idx, x_dgt, x_slc, x_call, x_blt, x_isi, x_comp, x_dsp, x_dnew, x_get2, x_get1, k_g2a, k_g2b, k_g2c, k_g1a, k_g1b, pk_dnew, pk_get2, pk_get1, xs_nil, xs_cons, xp_nil, xp_cons, xo_non, xo_som, xt_val, xt_cmp, xt_chn, xt_not, xt_and, xt_or, xt_one, xq_nil, xq_one, xi_seq, xi_enum, xi_items, xi_zip, k_zip1, k_zipT, k_zipL, k_enuT, k_enuL, k_itm, k_seqO, x_stp, k_stp1, k_revT, k_revL, k_evnT, k_evnL, x_lnew, k_lnw, x_lrng1, x_lrng2, k_lrgT, k_lrgF, x_dcompK, x_dcompT, k_dcK, k_dcT, k_dkK, k_dtK, pk_lnew, pk_stp, pk_lrng, pk_dcomp, xi_rng1, xi_rng2, pk_own, pk_cint, pk_cstr, pk_cbl, pk_cnon, pk_var, pk_glob, pk_fnv, pk_tup, pk_lst, pk_bin, pk_neg, pk_cmp, pk_chn, pk_andv, pk_orv, pk_one, pk_notv, pk_ife, pk_idx, pk_dgt, pk_slc, pk_call, pk_blt, pk_isi, pk_comp, pk_dsp, k_tup, k_lst, k_con1, k_pcon1, k_con2, k_bin1, k_cmp1, k_chn1, k_chn2, k_chnT, k_chnF, k_chn4, k_tchn1, k_tchn2, k_tchnT, k_tchnF, k_tchn4, k_idx1, k_dgt1, k_slc1, k_slc2, k_neg, k_not, k_non, k_ifeT, k_ifeF, k_cal1, k_cal2, k_cal3, k_isi, k_intO, k_bl, k_tcmp1, k_tnot, k_tandT, k_tandF, k_torT, k_torF, k_dsp, k_seqT, k_seqL, k_comp, d_add, d_sub, d_lt, d_le, d_gt, d_ge, d_eqS, d_neS, d_eqI, d_neI, d_neNil, ob_of, ob_dk, ob_dt, ob_ls, ob_lk, look_k, look_t, dct_k, dct_t, stor_k, stor_t, stor_l, apnd_l, lst_l, lock_n, lock_l, lenD_o, getD_k, inD_o, i_obD, i_obT, i_obL, gc_len, gc_same, gc_keep, gc_new, gc_drop, gc_stk, p_gc, scp_pure, scps_pure, scp_int, scp_str, scp_bl, scp_non, scp_tup, scp_lst, scps_nil, scps_cons, d_min, d_max, d_abs, d_lenT, d_lenL, d_tupL, d_tupT, d_lstL, d_lstT, i_t0, i_l0, i_t1, i_l1, i_t2, i_l2, i_t3, i_l3, i_t4, i_l4, i_t5, i_l5, i_t6, i_l6, i_t7, i_l7, tr_bl, tr_int, tr_non, tr_tup, tr_lst, y_nil, y_cons, y_next, y_ret, y_brk, y_cnt, y_asg, y_par, y_par1, y_par2, y_ownL, y_ownK, y_ownF, y_ownC, y_ownCT, y_ownCL, y_ownFK, y_app, y_appK, y_app2, y_ext, y_extK, y_extT, y_extL, y_star, y_starK, y_row, y_aug, y_augK, y_augA, y_augT, y_augS, y_setd, y_set1, y_set2, y_set3, y_storK, y_expr, y_exprK, y_ret1, y_retK, y_retn, y_ifs, y_ifsT, y_ifsF, y_forr, y_forK, y_whil, y_pas, y_brk1, y_cnt1, y_frz, y_frzK, m_nm, m_tpT, m_tpL, g_tpL, y_appo, y_apo1, y_apo2, y_asgK, fin_ret, fin_next, g_nm, g_tp, g_nil, g_cons, of_nil, of_cons, ofS_non, ofS_val, ofS_none, wi_nil, wi_cons, q_tf, q_ta, k_andT, k_andF, k_orT, k_orF, Res.bind_ok, SRes.of_ok, Option.bind_some, List.getElem?_cons_zero, List.getElem?_cons_succ, List.set_cons_zero, List.set_cons_succ, List.length_cons, List.length_nil, if_true, if_false, Nat.reduceAdd, Nat.reduceLT, Nat.zero_add, decide_true, decide_false, Bool.not_true, Bool.not_false, not_true_eq_false, not_false_eq_true, eq_self, gl_NOUGHT, lifeD, frD]
theorem r_handed (n : Nat) (q : List D) (t : Int × Int) (o : D) (l : Int) (hq : q.length ≤ 1000) : cal (n + 1) i_handed_in [lifeD q t o l, jbD] M = .ok (lifeD (q ++ [qD l]) t o (l + 1)) M := by
  have cat : ∀ M : Sto, binD .add (.tup q) (.tup [.tup [.int l, jbD]]) M = .ok (.tup (q ++ [.tup [.int l, jbD]])) M := fun M => d_catT (by unfold line; simp; omega)
  rw [st_handed_in]
  simp only [lifeD, frD, qD, b_handed_in, C_cal, C_arr, C_gl, lkK_val, pkK_own, x_cint, x_cstr, x_cbl, x_cnon, x_var, x_glob, x_fnv, x_tup, x_lst, x_bin, x_neg, x_cmp, x_chn, x_andv, x_orv, x_one, x_notv, x_ife, x_idx, x_dgt, x_slc, x_call, x_blt, x_isi, x_comp, x_dsp, x_dnew, x_get2, x_get1, k_g2a, k_g2b, k_g2c, k_g1a, k_g1b, pk_dnew, pk_get2, pk_get1, xs_nil, xs_cons, xp_nil, xp_cons, xo_non, xo_som, xt_val, xt_cmp, xt_chn, xt_not, xt_and, xt_or, xt_one, xq_nil, xq_one, xi_seq, xi_enum, xi_items, xi_zip, k_zip1, k_zipT, k_zipL, k_enuT, k_enuL, k_itm, k_seqO, x_stp, k_stp1, k_revT, k_revL, k_evnT, k_evnL, x_lnew, k_lnw, x_lrng1, x_lrng2, k_lrgT, k_lrgF, x_dcompK, x_dcompT, k_dcK, k_dcT, k_dkK, k_dtK, pk_lnew, pk_stp, pk_lrng, pk_dcomp, xi_rng1, xi_rng2, pk_own, pk_cint, pk_cstr, pk_cbl, pk_cnon, pk_var, pk_glob, pk_fnv, pk_tup, pk_lst, pk_bin, pk_neg, pk_cmp, pk_chn, pk_andv, pk_orv, pk_one, pk_notv, pk_ife, pk_idx, pk_dgt, pk_slc, pk_call, pk_blt, pk_isi, pk_comp, pk_dsp, k_tup, k_lst, k_con1, k_pcon1, k_con2, k_bin1, k_cmp1, k_chn1, k_chn2, k_chnT, k_chnF, k_chn4, k_tchn1, k_tchn2, k_tchnT, k_tchnF, k_tchn4, k_idx1, k_dgt1, k_slc1, k_slc2, k_neg, k_not, k_non, k_ifeT, k_ifeF, k_cal1, k_cal2, k_cal3, k_isi, k_intO, k_bl, k_tcmp1, k_tnot, k_tandT, k_tandF, k_torT, k_torF, k_dsp, k_seqT, k_seqL, k_comp, d_add, d_sub, d_lt, d_le, d_gt, d_ge, d_eqS, d_neS, d_eqI, d_neI, d_neNil, ob_of, ob_dk, ob_dt, ob_ls, ob_lk, look_k, look_t, dct_k, dct_t, stor_k, stor_t, stor_l, apnd_l, lst_l, lock_n, lock_l, lenD_o, getD_k, inD_o, i_obD, i_obT, i_obL, gc_len, gc_same, gc_keep, gc_new, gc_drop, gc_stk, p_gc, scp_pure, scps_pure, scp_int, scp_str, scp_bl, scp_non, scp_tup, scp_lst, scps_nil, scps_cons, d_min, d_max, d_abs, d_lenT, d_lenL, d_tupL, d_tupT, d_lstL, d_lstT, i_t0, i_l0, i_t1, i_l1, i_t2, i_l2, i_t3, i_l3, i_t4, i_l4, i_t5, i_l5, i_t6, i_l6, i_t7, i_l7, tr_bl, tr_int, tr_non, tr_tup, tr_lst, y_nil, y_cons, y_next, y_ret, y_brk, y_cnt, y_asg, y_par, y_par1, y_par2, y_ownL, y_ownK, y_ownF, y_ownC, y_ownCT, y_ownCL, y_ownFK, y_app, y_appK, y_app2, y_ext, y_extK, y_extT, y_extL, y_star, y_starK, y_row, y_aug, y_augK, y_augA, y_augT, y_augS, y_setd, y_set1, y_set2, y_set3, y_storK, y_expr, y_exprK, y_ret1, y_retK, y_retn, y_ifs, y_ifsT, y_ifsF, y_forr, y_forK, y_whil, y_pas, y_brk1, y_cnt1, y_frz, y_frzK, m_nm, m_tpT, m_tpL, g_tpL, y_appo, y_apo1, y_apo2, y_asgK, fin_ret, fin_next, g_nm, g_tp, g_nil, g_cons, of_nil, of_cons, ofS_non, ofS_val, ofS_none, wi_nil, wi_cons, q_tf, q_ta, k_andT, k_andF, k_orT, k_orF, Res.bind_ok, SRes.of_ok, Option.bind_some, List.getElem?_cons_zero, List.getElem?_cons_succ, List.set_cons_zero, List.set_cons_succ, List.length_cons, List.length_nil, if_true, if_false, Nat.reduceAdd, Nat.reduceLT, Nat.zero_add, decide_true, decide_false, Bool.not_true, Bool.not_false, not_true_eq_false, not_false_eq_true, eq_self, cat]
theorem r_with_tokens (n : Nat) (q : List D) (t u : Int × Int) (o : D) (l : Int) : cal (n + 1) i_with_tokens [lifeD q t o l, frD u] M = .ok (lifeD q u o l) M := by
  have c1 : ∀ M : Sto, slcD (lifeD q t o l) none (some 2) M = .ok (.tup [.tup [], .tup q]) M := fun M => by rfl
  have c2 : ∀ M : Sto, slcD (lifeD q t o l) (some 3) none M = .ok (.tup [o, .int l]) M := fun M => by rfl
  have cat : ∀ (x y : List D) (M : Sto), x.length ≤ 10 → y.length ≤ 10 → binD .add (.tup x) (.tup y) M = .ok (.tup (x ++ y)) M := fun x y M hx hy => d_catT (by unfold line; omega)
  simp only [lifeD] at c1 c2 ⊢
  rw [st_with_tokens]
  simp only [b_with_tokens, C_cal, C_arr, C_gl, lkK_val, pkK_own, x_cint, x_cstr, x_cbl, x_cnon, x_var, x_glob, x_fnv, x_tup, x_lst, x_bin, x_neg, x_cmp, x_chn, x_andv, x_orv, x_one, x_notv, x_ife, x_idx, x_dgt, x_slc, x_call, x_blt, x_isi, x_comp, x_dsp, x_dnew, x_get2, x_get1, k_g2a, k_g2b, k_g2c, k_g1a, k_g1b, pk_dnew, pk_get2, pk_get1, xs_nil, xs_cons, xp_nil, xp_cons, xo_non, xo_som, xt_val, xt_cmp, xt_chn, xt_not, xt_and, xt_or, xt_one, xq_nil, xq_one, xi_seq, xi_enum, xi_items, xi_zip, k_zip1, k_zipT, k_zipL, k_enuT, k_enuL, k_itm, k_seqO, x_stp, k_stp1, k_revT, k_revL, k_evnT, k_evnL, x_lnew, k_lnw, x_lrng1, x_lrng2, k_lrgT, k_lrgF, x_dcompK, x_dcompT, k_dcK, k_dcT, k_dkK, k_dtK, pk_lnew, pk_stp, pk_lrng, pk_dcomp, xi_rng1, xi_rng2, pk_own, pk_cint, pk_cstr, pk_cbl, pk_cnon, pk_var, pk_glob, pk_fnv, pk_tup, pk_lst, pk_bin, pk_neg, pk_cmp, pk_chn, pk_andv, pk_orv, pk_one, pk_notv, pk_ife, pk_idx, pk_dgt, pk_slc, pk_call, pk_blt, pk_isi, pk_comp, pk_dsp, k_tup, k_lst, k_con1, k_pcon1, k_con2, k_bin1, k_cmp1, k_chn1, k_chn2, k_chnT, k_chnF, k_chn4, k_tchn1, k_tchn2, k_tchnT, k_tchnF, k_tchn4, k_idx1, k_dgt1, k_slc1, k_slc2, k_neg, k_not, k_non, k_ifeT, k_ifeF, k_cal1, k_cal2, k_cal3, k_isi, k_intO, k_bl, k_tcmp1, k_tnot, k_tandT, k_tandF, k_torT, k_torF, k_dsp, k_seqT, k_seqL, k_comp, d_add, d_sub, d_lt, d_le, d_gt, d_ge, d_eqS, d_neS, d_eqI, d_neI, d_neNil, ob_of, ob_dk, ob_dt, ob_ls, ob_lk, look_k, look_t, dct_k, dct_t, stor_k, stor_t, stor_l, apnd_l, lst_l, lock_n, lock_l, lenD_o, getD_k, inD_o, i_obD, i_obT, i_obL, gc_len, gc_same, gc_keep, gc_new, gc_drop, gc_stk, p_gc, scp_pure, scps_pure, scp_int, scp_str, scp_bl, scp_non, scp_tup, scp_lst, scps_nil, scps_cons, d_min, d_max, d_abs, d_lenT, d_lenL, d_tupL, d_tupT, d_lstL, d_lstT, i_t0, i_l0, i_t1, i_l1, i_t2, i_l2, i_t3, i_l3, i_t4, i_l4, i_t5, i_l5, i_t6, i_l6, i_t7, i_l7, tr_bl, tr_int, tr_non, tr_tup, tr_lst, y_nil, y_cons, y_next, y_ret, y_brk, y_cnt, y_asg, y_par, y_par1, y_par2, y_ownL, y_ownK, y_ownF, y_ownC, y_ownCT, y_ownCL, y_ownFK, y_app, y_appK, y_app2, y_ext, y_extK, y_extT, y_extL, y_star, y_starK, y_row, y_aug, y_augK, y_augA, y_augT, y_augS, y_setd, y_set1, y_set2, y_set3, y_storK, y_expr, y_exprK, y_ret1, y_retK, y_retn, y_ifs, y_ifsT, y_ifsF, y_forr, y_forK, y_whil, y_pas, y_brk1, y_cnt1, y_frz, y_frzK, m_nm, m_tpT, m_tpL, g_tpL, y_appo, y_apo1, y_apo2, y_asgK, fin_ret, fin_next, g_nm, g_tp, g_nil, g_cons, of_nil, of_cons, ofS_non, ofS_val, ofS_none, wi_nil, wi_cons, q_tf, q_ta, k_andT, k_andF, k_orT, k_orF, Res.bind_ok, SRes.of_ok, Option.bind_some, List.getElem?_cons_zero, List.getElem?_cons_succ, List.set_cons_zero, List.set_cons_succ, List.length_cons, List.length_nil, if_true, if_false, Nat.reduceAdd, Nat.reduceLT, Nat.zero_add, decide_true, decide_false, Bool.not_true, Bool.not_false, not_true_eq_false, not_false_eq_true, eq_self, c1, c2, cat [.tup [], .tup q] [frD u] M (by simp) (by simp), List.cons_append, List.nil_append, cat [.tup [], .tup q, frD u] [o, .int l] M (by simp) (by simp), lifeD]
theorem r_struck (n : Nat) (q : List D) (t : Int × Int) (o : D) (l : Int) (tick : D) : cal (n + 2) i_life_struck [lifeD q t o l, tick, .tup []] M = .ok (lifeD q t o l) M := by
  have s1 : cal (n + 1) i_store_struck [.tup [], .tup [], tick] M = .ok (.tup []) M := by
    rw [st_store_struck]
    simp only [b_store_struck, C_cal, C_arr, C_gl, lkK_val, pkK_own, x_cint, x_cstr, x_cbl, x_cnon, x_var, x_glob, x_fnv, x_tup, x_lst, x_bin, x_neg, x_cmp, x_chn, x_andv, x_orv, x_one, x_notv, x_ife, x_idx, x_dgt, x_slc, x_call, x_blt, x_isi, x_comp, x_dsp, x_dnew, x_get2, x_get1, k_g2a, k_g2b, k_g2c, k_g1a, k_g1b, pk_dnew, pk_get2, pk_get1, xs_nil, xs_cons, xp_nil, xp_cons, xo_non, xo_som, xt_val, xt_cmp, xt_chn, xt_not, xt_and, xt_or, xt_one, xq_nil, xq_one, xi_seq, xi_enum, xi_items, xi_zip, k_zip1, k_zipT, k_zipL, k_enuT, k_enuL, k_itm, k_seqO, x_stp, k_stp1, k_revT, k_revL, k_evnT, k_evnL, x_lnew, k_lnw, x_lrng1, x_lrng2, k_lrgT, k_lrgF, x_dcompK, x_dcompT, k_dcK, k_dcT, k_dkK, k_dtK, pk_lnew, pk_stp, pk_lrng, pk_dcomp, xi_rng1, xi_rng2, pk_own, pk_cint, pk_cstr, pk_cbl, pk_cnon, pk_var, pk_glob, pk_fnv, pk_tup, pk_lst, pk_bin, pk_neg, pk_cmp, pk_chn, pk_andv, pk_orv, pk_one, pk_notv, pk_ife, pk_idx, pk_dgt, pk_slc, pk_call, pk_blt, pk_isi, pk_comp, pk_dsp, k_tup, k_lst, k_con1, k_pcon1, k_con2, k_bin1, k_cmp1, k_chn1, k_chn2, k_chnT, k_chnF, k_chn4, k_tchn1, k_tchn2, k_tchnT, k_tchnF, k_tchn4, k_idx1, k_dgt1, k_slc1, k_slc2, k_neg, k_not, k_non, k_ifeT, k_ifeF, k_cal1, k_cal2, k_cal3, k_isi, k_intO, k_bl, k_tcmp1, k_tnot, k_tandT, k_tandF, k_torT, k_torF, k_dsp, k_seqT, k_seqL, k_comp, d_add, d_sub, d_lt, d_le, d_gt, d_ge, d_eqS, d_neS, d_eqI, d_neI, d_neNil, ob_of, ob_dk, ob_dt, ob_ls, ob_lk, look_k, look_t, dct_k, dct_t, stor_k, stor_t, stor_l, apnd_l, lst_l, lock_n, lock_l, lenD_o, getD_k, inD_o, i_obD, i_obT, i_obL, gc_len, gc_same, gc_keep, gc_new, gc_drop, gc_stk, p_gc, scp_pure, scps_pure, scp_int, scp_str, scp_bl, scp_non, scp_tup, scp_lst, scps_nil, scps_cons, d_min, d_max, d_abs, d_lenT, d_lenL, d_tupL, d_tupT, d_lstL, d_lstT, i_t0, i_l0, i_t1, i_l1, i_t2, i_l2, i_t3, i_l3, i_t4, i_l4, i_t5, i_l5, i_t6, i_l6, i_t7, i_l7, tr_bl, tr_int, tr_non, tr_tup, tr_lst, y_nil, y_cons, y_next, y_ret, y_brk, y_cnt, y_asg, y_par, y_par1, y_par2, y_ownL, y_ownK, y_ownF, y_ownC, y_ownCT, y_ownCL, y_ownFK, y_app, y_appK, y_app2, y_ext, y_extK, y_extT, y_extL, y_star, y_starK, y_row, y_aug, y_augK, y_augA, y_augT, y_augS, y_setd, y_set1, y_set2, y_set3, y_storK, y_expr, y_exprK, y_ret1, y_retK, y_retn, y_ifs, y_ifsT, y_ifsF, y_forr, y_forK, y_whil, y_pas, y_brk1, y_cnt1, y_frz, y_frzK, m_nm, m_tpT, m_tpL, g_tpL, y_appo, y_apo1, y_apo2, y_asgK, fin_ret, fin_next, g_nm, g_tp, g_nil, g_cons, of_nil, of_cons, ofS_non, ofS_val, ofS_none, wi_nil, wi_cons, q_tf, q_ta, k_andT, k_andF, k_orT, k_orF, Res.bind_ok, SRes.of_ok, Option.bind_some, List.getElem?_cons_zero, List.getElem?_cons_succ, List.set_cons_zero, List.set_cons_succ, List.length_cons, List.length_nil, if_true, if_false, Nat.reduceAdd, Nat.reduceLT, Nat.zero_add, decide_true, decide_false, Bool.not_true, Bool.not_false, not_true_eq_false, not_false_eq_true, eq_self, forL]
  have c2 : ∀ M : Sto, slcD (lifeD q t o l) (some 1) none M = .ok (.tup [.tup q, frD t, o, .int l]) M := fun M => by rfl
  have i0 : ∀ M : Sto, idxD (lifeD q t o l) (.int 0) M = .ok (.tup []) M := fun M => by rfl
  have cat : ∀ (x y : List D) (M : Sto), x.length ≤ 10 → y.length ≤ 10 → binD .add (.tup x) (.tup y) M = .ok (.tup (x ++ y)) M := fun x y M hx hy => d_catT (by unfold line; omega)
  have w1 : cal (n + 1) i_with_store [lifeD q t o l, .tup []] M = .ok (lifeD q t o l) M := by
    simp only [lifeD] at c2 ⊢
    rw [st_with_store]
    simp only [b_with_store, C_cal, C_arr, C_gl, lkK_val, pkK_own, x_cint, x_cstr, x_cbl, x_cnon, x_var, x_glob, x_fnv, x_tup, x_lst, x_bin, x_neg, x_cmp, x_chn, x_andv, x_orv, x_one, x_notv, x_ife, x_idx, x_dgt, x_slc, x_call, x_blt, x_isi, x_comp, x_dsp, x_dnew, x_get2, x_get1, k_g2a, k_g2b, k_g2c, k_g1a, k_g1b, pk_dnew, pk_get2, pk_get1, xs_nil, xs_cons, xp_nil, xp_cons, xo_non, xo_som, xt_val, xt_cmp, xt_chn, xt_not, xt_and, xt_or, xt_one, xq_nil, xq_one, xi_seq, xi_enum, xi_items, xi_zip, k_zip1, k_zipT, k_zipL, k_enuT, k_enuL, k_itm, k_seqO, x_stp, k_stp1, k_revT, k_revL, k_evnT, k_evnL, x_lnew, k_lnw, x_lrng1, x_lrng2, k_lrgT, k_lrgF, x_dcompK, x_dcompT, k_dcK, k_dcT, k_dkK, k_dtK, pk_lnew, pk_stp, pk_lrng, pk_dcomp, xi_rng1, xi_rng2, pk_own, pk_cint, pk_cstr, pk_cbl, pk_cnon, pk_var, pk_glob, pk_fnv, pk_tup, pk_lst, pk_bin, pk_neg, pk_cmp, pk_chn, pk_andv, pk_orv, pk_one, pk_notv, pk_ife, pk_idx, pk_dgt, pk_slc, pk_call, pk_blt, pk_isi, pk_comp, pk_dsp, k_tup, k_lst, k_con1, k_pcon1, k_con2, k_bin1, k_cmp1, k_chn1, k_chn2, k_chnT, k_chnF, k_chn4, k_tchn1, k_tchn2, k_tchnT, k_tchnF, k_tchn4, k_idx1, k_dgt1, k_slc1, k_slc2, k_neg, k_not, k_non, k_ifeT, k_ifeF, k_cal1, k_cal2, k_cal3, k_isi, k_intO, k_bl, k_tcmp1, k_tnot, k_tandT, k_tandF, k_torT, k_torF, k_dsp, k_seqT, k_seqL, k_comp, d_add, d_sub, d_lt, d_le, d_gt, d_ge, d_eqS, d_neS, d_eqI, d_neI, d_neNil, ob_of, ob_dk, ob_dt, ob_ls, ob_lk, look_k, look_t, dct_k, dct_t, stor_k, stor_t, stor_l, apnd_l, lst_l, lock_n, lock_l, lenD_o, getD_k, inD_o, i_obD, i_obT, i_obL, gc_len, gc_same, gc_keep, gc_new, gc_drop, gc_stk, p_gc, scp_pure, scps_pure, scp_int, scp_str, scp_bl, scp_non, scp_tup, scp_lst, scps_nil, scps_cons, d_min, d_max, d_abs, d_lenT, d_lenL, d_tupL, d_tupT, d_lstL, d_lstT, i_t0, i_l0, i_t1, i_l1, i_t2, i_l2, i_t3, i_l3, i_t4, i_l4, i_t5, i_l5, i_t6, i_l6, i_t7, i_l7, tr_bl, tr_int, tr_non, tr_tup, tr_lst, y_nil, y_cons, y_next, y_ret, y_brk, y_cnt, y_asg, y_par, y_par1, y_par2, y_ownL, y_ownK, y_ownF, y_ownC, y_ownCT, y_ownCL, y_ownFK, y_app, y_appK, y_app2, y_ext, y_extK, y_extT, y_extL, y_star, y_starK, y_row, y_aug, y_augK, y_augA, y_augT, y_augS, y_setd, y_set1, y_set2, y_set3, y_storK, y_expr, y_exprK, y_ret1, y_retK, y_retn, y_ifs, y_ifsT, y_ifsF, y_forr, y_forK, y_whil, y_pas, y_brk1, y_cnt1, y_frz, y_frzK, m_nm, m_tpT, m_tpL, g_tpL, y_appo, y_apo1, y_apo2, y_asgK, fin_ret, fin_next, g_nm, g_tp, g_nil, g_cons, of_nil, of_cons, ofS_non, ofS_val, ofS_none, wi_nil, wi_cons, q_tf, q_ta, k_andT, k_andF, k_orT, k_orF, Res.bind_ok, SRes.of_ok, Option.bind_some, List.getElem?_cons_zero, List.getElem?_cons_succ, List.set_cons_zero, List.set_cons_succ, List.length_cons, List.length_nil, if_true, if_false, Nat.reduceAdd, Nat.reduceLT, Nat.zero_add, decide_true, decide_false, Bool.not_true, Bool.not_false, not_true_eq_false, not_false_eq_true, eq_self, c2, cat [.tup []] [.tup q, frD t, o, .int l] M (by simp) (by simp), lifeD, List.cons_append, List.nil_append]
  simp only [lifeD] at i0 w1 ⊢
  rw [st_life_struck]
  simp only [b_life_struck, C_cal, C_arr, C_gl, lkK_val, pkK_own, x_cint, x_cstr, x_cbl, x_cnon, x_var, x_glob, x_fnv, x_tup, x_lst, x_bin, x_neg, x_cmp, x_chn, x_andv, x_orv, x_one, x_notv, x_ife, x_idx, x_dgt, x_slc, x_call, x_blt, x_isi, x_comp, x_dsp, x_dnew, x_get2, x_get1, k_g2a, k_g2b, k_g2c, k_g1a, k_g1b, pk_dnew, pk_get2, pk_get1, xs_nil, xs_cons, xp_nil, xp_cons, xo_non, xo_som, xt_val, xt_cmp, xt_chn, xt_not, xt_and, xt_or, xt_one, xq_nil, xq_one, xi_seq, xi_enum, xi_items, xi_zip, k_zip1, k_zipT, k_zipL, k_enuT, k_enuL, k_itm, k_seqO, x_stp, k_stp1, k_revT, k_revL, k_evnT, k_evnL, x_lnew, k_lnw, x_lrng1, x_lrng2, k_lrgT, k_lrgF, x_dcompK, x_dcompT, k_dcK, k_dcT, k_dkK, k_dtK, pk_lnew, pk_stp, pk_lrng, pk_dcomp, xi_rng1, xi_rng2, pk_own, pk_cint, pk_cstr, pk_cbl, pk_cnon, pk_var, pk_glob, pk_fnv, pk_tup, pk_lst, pk_bin, pk_neg, pk_cmp, pk_chn, pk_andv, pk_orv, pk_one, pk_notv, pk_ife, pk_idx, pk_dgt, pk_slc, pk_call, pk_blt, pk_isi, pk_comp, pk_dsp, k_tup, k_lst, k_con1, k_pcon1, k_con2, k_bin1, k_cmp1, k_chn1, k_chn2, k_chnT, k_chnF, k_chn4, k_tchn1, k_tchn2, k_tchnT, k_tchnF, k_tchn4, k_idx1, k_dgt1, k_slc1, k_slc2, k_neg, k_not, k_non, k_ifeT, k_ifeF, k_cal1, k_cal2, k_cal3, k_isi, k_intO, k_bl, k_tcmp1, k_tnot, k_tandT, k_tandF, k_torT, k_torF, k_dsp, k_seqT, k_seqL, k_comp, d_add, d_sub, d_lt, d_le, d_gt, d_ge, d_eqS, d_neS, d_eqI, d_neI, d_neNil, ob_of, ob_dk, ob_dt, ob_ls, ob_lk, look_k, look_t, dct_k, dct_t, stor_k, stor_t, stor_l, apnd_l, lst_l, lock_n, lock_l, lenD_o, getD_k, inD_o, i_obD, i_obT, i_obL, gc_len, gc_same, gc_keep, gc_new, gc_drop, gc_stk, p_gc, scp_pure, scps_pure, scp_int, scp_str, scp_bl, scp_non, scp_tup, scp_lst, scps_nil, scps_cons, d_min, d_max, d_abs, d_lenT, d_lenL, d_tupL, d_tupT, d_lstL, d_lstT, i_t0, i_l0, i_t1, i_l1, i_t2, i_l2, i_t3, i_l3, i_t4, i_l4, i_t5, i_l5, i_t6, i_l6, i_t7, i_l7, tr_bl, tr_int, tr_non, tr_tup, tr_lst, y_nil, y_cons, y_next, y_ret, y_brk, y_cnt, y_asg, y_par, y_par1, y_par2, y_ownL, y_ownK, y_ownF, y_ownC, y_ownCT, y_ownCL, y_ownFK, y_app, y_appK, y_app2, y_ext, y_extK, y_extT, y_extL, y_star, y_starK, y_row, y_aug, y_augK, y_augA, y_augT, y_augS, y_setd, y_set1, y_set2, y_set3, y_storK, y_expr, y_exprK, y_ret1, y_retK, y_retn, y_ifs, y_ifsT, y_ifsF, y_forr, y_forK, y_whil, y_pas, y_brk1, y_cnt1, y_frz, y_frzK, m_nm, m_tpT, m_tpL, g_tpL, y_appo, y_apo1, y_apo2, y_asgK, fin_ret, fin_next, g_nm, g_tp, g_nil, g_cons, of_nil, of_cons, ofS_non, ofS_val, ofS_none, wi_nil, wi_cons, q_tf, q_ta, k_andT, k_andF, k_orT, k_orF, Res.bind_ok, SRes.of_ok, Option.bind_some, List.getElem?_cons_zero, List.getElem?_cons_succ, List.set_cons_zero, List.set_cons_succ, List.length_cons, List.length_nil, if_true, if_false, Nat.reduceAdd, Nat.reduceLT, Nat.zero_add, decide_true, decide_false, Bool.not_true, Bool.not_false, not_true_eq_false, not_false_eq_true, eq_self, as_store_struck_1_rules_tick, i0, s1, as_with_store_2, w1]
end
end Mp.Lw
end

section
set_option Elab.async false
set_option linter.all false
set_option maxRecDepth 100000
set_option maxHeartbeats 0
namespace Mp.Lw
open PySem PySem.Spec
section
variable {f : Ob} {R : Sto} {M : Sto} {b : Nat}
def QOk (q : List D) : Prop := (∀ x ∈ q, ∃ a : Int, 0 ≤ a ∧ a ≤ 100 ∧ x = qD a) ∧ q.length ≤ 40
theorem qD_sw {a : Int} (h0 : 0 ≤ a) (h1 : a ≤ 100) : Sw (qD a) 30000 3 :=
  (Sw.tup (.cons (.ints (by omega) (by omega)) (.cons (.tup (.cons (.str (s := "count") (by decide +kernel) (by decide +kernel)) (.cons (.str (s := "emp") (by decide +kernel) (by decide +kernel)) (.cons (.tup .nil) .nil)))) .nil))).up (by omega) (by omega)
theorem q_sw {q : List D} (h : QOk q) : Sw (.tup q) 1300000 4 :=
  (Sw.tups (fun x hx => by obtain ⟨a, h0, h1, rfl⟩ := h.1 x hx; exact qD_sw h0 h1) h.2).up (by omega) (by omega)
theorem q_ne {q : List D} (h : QOk q) (M : Sto) : cmpD .ne (.tup q) (.tup []) M = .ok (.bl (!q.isEmpty)) M := by
  rw [d_neG ((q_sw h).eqOk (Sw.tup .nil))]
  cases q with
  | nil => simp [py, pys, PyData.eqv, PyData.eqvAll]
  | cons a q => simp [py, pys, PyData.eqv, PyData.eqvAll]
theorem QOk.tl {a : D} {q : List D} (h : QOk (a :: q)) : QOk q := ⟨fun x hx => h.1 x (List.mem_cons_of_mem _ hx), by have := h.2; rw [List.length_cons] at this; omega⟩
theorem QOk.drop {q : List D} (h : QOk q) (m : Nat) : QOk (q.drop m) := ⟨fun x hx => h.1 x (List.mem_of_mem_drop hx), by rw [List.length_drop]; have := h.2; omega⟩
abbrev E12 (l t g d o c k w r : Slot) : Env := [l, .val .non, t, .val (.str "eu"), .val (.tup []), g, d, o, c, k, w, r]
theorem lessL_0 (t : Int × Int) : lessL t 0 = t := by
  unfold lessL
  rw [Int.zero_mul, Int.sub_zero]
theorem lessL_lessL (t : Int × Int) (a c : Int) : lessL (lessL t a) c = lessL t (a + c) := by
  unfold lessL
  simp only [Int.add_mul]
  congr 1
  omega
theorem wh_less {k : Nat} {t : Int × Int} (h : Fr k t) : (lessL t 1).1 / (lessL t 1).2 = t.1 / t.2 - 1 := by
  unfold lessL
  show (t.1 - 1 * t.2) / t.2 = _
  rw [Int.one_mul, show t.1 - t.2 = t.1 + (-1) * t.2 by omega, Int.add_mul_ediv_right _ _ (by have := h.p; omega)]
  omega
theorem sl_loop (n : Nat) (tick : D) (l : Int) {k : Nat} (hk : k ≤ 900) : ∀ (q : List D) (t : Int × Int) (o : D) (G : Int) (ds : List D) (c x w r : Slot), QOk q → Tk k t → (o = .non ∨ o = .int 1) → ds.length + q.length ≤ 50 →
    ∃ (o' : D) (ds' : List D) (ow : D) (c' x' w' r' : Slot), (o' = .non ∨ o' = .int 1) ∧ ds'.length = ds.length + min (t.1 / t.2).toNat q.length ∧
      Turns (evT (C (n + 7)) lt_sliced_1) (evSs (C (n + 7)) lb_sliced_1) (E12 (.val (lifeD q t o l)) (.val tick) (.val (.int G)) (.own ds) (.val (.int 0)) c x w r) M
        (E12 (.val (lifeD (q.drop (min (t.1 / t.2).toNat q.length)) (lessL t ((min (t.1 / t.2).toNat q.length : Nat) : Int)) o' l)) (.val tick) (.val (.int (G + ((min (t.1 / t.2).toNat q.length : Nat) : Int)))) (.own ds') (.val ow) c' x' w' r') M
  | [], t, o, G, ds, c, x, w, r, hq, ht, ho, hl => by
    refine ⟨o, ds, .int 0, c, x, w, r, ho, by simp, ?_⟩
    have e : min (t.1 / t.2).toNat ([] : List D).length = 0 := by simp
    rw [e, show ((0 : Nat) : Int) = 0 from rfl, lessL_0, Int.add_zero]
    refine .done (M' := M) ?_
    have i1 : ∀ M : Sto, idxD (lifeD [] t o l) (.int 1) M = .ok (.tup []) M := fun M => by rfl
    have nq := q_ne hq M
    simp only [lt_sliced_1, E12, C_cal, C_arr, C_gl, lkK_val, pkK_own, x_cint, x_cstr, x_cbl, x_cnon, x_var, x_glob, x_fnv, x_tup, x_lst, x_bin, x_neg, x_cmp, x_chn, x_andv, x_orv, x_one, x_notv, x_ife, x_idx, x_dgt, x_slc, x_call, x_blt, x_isi, x_comp, x_dsp, x_dnew, x_get2, x_get1, k_g2a, k_g2b, k_g2c, k_g1a, k_g1b, pk_dnew, pk_get2, pk_get1, xs_nil, xs_cons, xp_nil, xp_cons, xo_non, xo_som, xt_val, xt_cmp, xt_chn, xt_not, xt_and, xt_or, xt_one, xq_nil, xq_one, xi_seq, xi_enum, xi_items, xi_zip, k_zip1, k_zipT, k_zipL, k_enuT, k_enuL, k_itm, k_seqO, x_stp, k_stp1, k_revT, k_revL, k_evnT, k_evnL, x_lnew, k_lnw, x_lrng1, x_lrng2, k_lrgT, k_lrgF, x_dcompK, x_dcompT, k_dcK, k_dcT, k_dkK, k_dtK, pk_lnew, pk_stp, pk_lrng, pk_dcomp, xi_rng1, xi_rng2, pk_own, pk_cint, pk_cstr, pk_cbl, pk_cnon, pk_var, pk_glob, pk_fnv, pk_tup, pk_lst, pk_bin, pk_neg, pk_cmp, pk_chn, pk_andv, pk_orv, pk_one, pk_notv, pk_ife, pk_idx, pk_dgt, pk_slc, pk_call, pk_blt, pk_isi, pk_comp, pk_dsp, k_tup, k_lst, k_con1, k_pcon1, k_con2, k_bin1, k_cmp1, k_chn1, k_chn2, k_chnT, k_chnF, k_chn4, k_tchn1, k_tchn2, k_tchnT, k_tchnF, k_tchn4, k_idx1, k_dgt1, k_slc1, k_slc2, k_neg, k_not, k_non, k_ifeT, k_ifeF, k_cal1, k_cal2, k_cal3, k_isi, k_intO, k_bl, k_tcmp1, k_tnot, k_tandT, k_tandF, k_torT, k_torF, k_dsp, k_seqT, k_seqL, k_comp, d_add, d_sub, d_lt, d_le, d_gt, d_ge, d_eqS, d_neS, d_eqI, d_neI, d_neNil, ob_of, ob_dk, ob_dt, ob_ls, ob_lk, look_k, look_t, dct_k, dct_t, stor_k, stor_t, stor_l, apnd_l, lst_l, lock_n, lock_l, lenD_o, getD_k, inD_o, i_obD, i_obT, i_obL, gc_len, gc_same, gc_keep, gc_new, gc_drop, gc_stk, p_gc, scp_pure, scps_pure, scp_int, scp_str, scp_bl, scp_non, scp_tup, scp_lst, scps_nil, scps_cons, d_min, d_max, d_abs, d_lenT, d_lenL, d_tupL, d_tupT, d_lstL, d_lstT, i_t0, i_l0, i_t1, i_l1, i_t2, i_l2, i_t3, i_l3, i_t4, i_l4, i_t5, i_l5, i_t6, i_l6, i_t7, i_l7, tr_bl, tr_int, tr_non, tr_tup, tr_lst, y_nil, y_cons, y_next, y_ret, y_brk, y_cnt, y_asg, y_par, y_par1, y_par2, y_ownL, y_ownK, y_ownF, y_ownC, y_ownCT, y_ownCL, y_ownFK, y_app, y_appK, y_app2, y_ext, y_extK, y_extT, y_extL, y_star, y_starK, y_row, y_aug, y_augK, y_augA, y_augT, y_augS, y_setd, y_set1, y_set2, y_set3, y_storK, y_expr, y_exprK, y_ret1, y_retK, y_retn, y_ifs, y_ifsT, y_ifsF, y_forr, y_forK, y_whil, y_pas, y_brk1, y_cnt1, y_frz, y_frzK, m_nm, m_tpT, m_tpL, g_tpL, y_appo, y_apo1, y_apo2, y_asgK, fin_ret, fin_next, g_nm, g_tp, g_nil, g_cons, of_nil, of_cons, ofS_non, ofS_val, ofS_none, wi_nil, wi_cons, q_tf, q_ta, k_andT, k_andF, k_orT, k_orF, Res.bind_ok, SRes.of_ok, Option.bind_some, List.getElem?_cons_zero, List.getElem?_cons_succ, List.set_cons_zero, List.set_cons_succ, List.length_cons, List.length_nil, if_true, if_false, Nat.reduceAdd, Nat.reduceLT, Nat.zero_add, decide_true, decide_false, Bool.not_true, Bool.not_false, not_true_eq_false, not_false_eq_true, eq_self, i1, nq, List.isEmpty_nil, Bool.false_eq_true]
  | a :: q, t, o, G, ds, c, x, w, r, hq, ht, ho, hl => by
    obtain ⟨i, i0, i1, rfl⟩ := hq.1 a List.mem_cons_self
    rw [List.length_cons] at hl
    have w0 := wh_nn ht.fr
    have z10 : ¬ (1 : Int) = 0 := by decide
    have bg := r_begun (M := M) n i q t o ho l
    have ix1 : ∀ M : Sto, idxD (lifeD (qD i :: q) t o l) (.int 1) M = .ok (.tup (qD i :: q)) M := fun M => by rfl
    have ix2 : ∀ M : Sto, idxD (lifeD (qD i :: q) t o l) (.int 2) M = .ok (frD t) M := fun M => by rfl
    have ix4 : ∀ M : Sto, idxD (lifeD (qD i :: q) t o l) (.int 4) M = .ok (.int l) M := fun M => by rfl
    have c1 : ∀ M : Sto, slcD (lifeD (qD i :: q) t o l) none (some 2) M = .ok (.tup [.tup [], .tup (qD i :: q)]) M := fun M => by rfl
    have cat : ∀ (x y : List D) (M : Sto), x.length ≤ 10 → y.length ≤ 10 → binD .add (.tup x) (.tup y) M = .ok (.tup (x ++ y)) M := fun x y M hx hy => d_catT (by unfold line; omega)
    have nq := q_ne hq M
    simp only [List.isEmpty_cons, Bool.not_false] at nq
    have tst : evT (C (n + 7)) lt_sliced_1 (E12 (.val (lifeD (qD i :: q) t o l)) (.val tick) (.val (.int G)) (.own ds) (.val (.int 0)) c x w r) M = .ok true M := by
      simp only [lt_sliced_1, E12, C_cal, C_arr, C_gl, lkK_val, pkK_own, x_cint, x_cstr, x_cbl, x_cnon, x_var, x_glob, x_fnv, x_tup, x_lst, x_bin, x_neg, x_cmp, x_chn, x_andv, x_orv, x_one, x_notv, x_ife, x_idx, x_dgt, x_slc, x_call, x_blt, x_isi, x_comp, x_dsp, x_dnew, x_get2, x_get1, k_g2a, k_g2b, k_g2c, k_g1a, k_g1b, pk_dnew, pk_get2, pk_get1, xs_nil, xs_cons, xp_nil, xp_cons, xo_non, xo_som, xt_val, xt_cmp, xt_chn, xt_not, xt_and, xt_or, xt_one, xq_nil, xq_one, xi_seq, xi_enum, xi_items, xi_zip, k_zip1, k_zipT, k_zipL, k_enuT, k_enuL, k_itm, k_seqO, x_stp, k_stp1, k_revT, k_revL, k_evnT, k_evnL, x_lnew, k_lnw, x_lrng1, x_lrng2, k_lrgT, k_lrgF, x_dcompK, x_dcompT, k_dcK, k_dcT, k_dkK, k_dtK, pk_lnew, pk_stp, pk_lrng, pk_dcomp, xi_rng1, xi_rng2, pk_own, pk_cint, pk_cstr, pk_cbl, pk_cnon, pk_var, pk_glob, pk_fnv, pk_tup, pk_lst, pk_bin, pk_neg, pk_cmp, pk_chn, pk_andv, pk_orv, pk_one, pk_notv, pk_ife, pk_idx, pk_dgt, pk_slc, pk_call, pk_blt, pk_isi, pk_comp, pk_dsp, k_tup, k_lst, k_con1, k_pcon1, k_con2, k_bin1, k_cmp1, k_chn1, k_chn2, k_chnT, k_chnF, k_chn4, k_tchn1, k_tchn2, k_tchnT, k_tchnF, k_tchn4, k_idx1, k_dgt1, k_slc1, k_slc2, k_neg, k_not, k_non, k_ifeT, k_ifeF, k_cal1, k_cal2, k_cal3, k_isi, k_intO, k_bl, k_tcmp1, k_tnot, k_tandT, k_tandF, k_torT, k_torF, k_dsp, k_seqT, k_seqL, k_comp, d_add, d_sub, d_lt, d_le, d_gt, d_ge, d_eqS, d_neS, d_eqI, d_neI, d_neNil, ob_of, ob_dk, ob_dt, ob_ls, ob_lk, look_k, look_t, dct_k, dct_t, stor_k, stor_t, stor_l, apnd_l, lst_l, lock_n, lock_l, lenD_o, getD_k, inD_o, i_obD, i_obT, i_obL, gc_len, gc_same, gc_keep, gc_new, gc_drop, gc_stk, p_gc, scp_pure, scps_pure, scp_int, scp_str, scp_bl, scp_non, scp_tup, scp_lst, scps_nil, scps_cons, d_min, d_max, d_abs, d_lenT, d_lenL, d_tupL, d_tupT, d_lstL, d_lstT, i_t0, i_l0, i_t1, i_l1, i_t2, i_l2, i_t3, i_l3, i_t4, i_l4, i_t5, i_l5, i_t6, i_l6, i_t7, i_l7, tr_bl, tr_int, tr_non, tr_tup, tr_lst, y_nil, y_cons, y_next, y_ret, y_brk, y_cnt, y_asg, y_par, y_par1, y_par2, y_ownL, y_ownK, y_ownF, y_ownC, y_ownCT, y_ownCL, y_ownFK, y_app, y_appK, y_app2, y_ext, y_extK, y_extT, y_extL, y_star, y_starK, y_row, y_aug, y_augK, y_augA, y_augT, y_augS, y_setd, y_set1, y_set2, y_set3, y_storK, y_expr, y_exprK, y_ret1, y_retK, y_retn, y_ifs, y_ifsT, y_ifsF, y_forr, y_forK, y_whil, y_pas, y_brk1, y_cnt1, y_frz, y_frzK, m_nm, m_tpT, m_tpL, g_tpL, y_appo, y_apo1, y_apo2, y_asgK, fin_ret, fin_next, g_nm, g_tp, g_nil, g_cons, of_nil, of_cons, ofS_non, ofS_val, ofS_none, wi_nil, wi_cons, q_tf, q_ta, k_andT, k_andF, k_orT, k_orF, Res.bind_ok, SRes.of_ok, Option.bind_some, List.getElem?_cons_zero, List.getElem?_cons_succ, List.set_cons_zero, List.set_cons_succ, List.length_cons, List.length_nil, if_true, if_false, Nat.reduceAdd, Nat.reduceLT, Nat.zero_add, decide_true, decide_false, Bool.not_true, Bool.not_false, not_true_eq_false, not_false_eq_true, eq_self, ix1, nq]
    by_cases hw : t.1 / t.2 = 0
    · have pd := r_paid (M := M) (n + 5) ht (by omega) 1 (by omega) 0 (by rw [hw]; rfl)
      rw [lessL_0] at pd
      have e : min (t.1 / t.2).toNat (qD i :: q).length = 0 := by rw [hw]; simp
      refine ⟨.int 1, ds, .int 1, .val (.int 1), .val (frD t), .val (.int 0), r, .inr rfl, by rw [e]; simp, ?_⟩
      rw [e, show ((0 : Nat) : Int) = 0 from rfl, lessL_0, Int.add_zero, List.drop_zero]
      refine .more (M1 := M) (e2 := E12 (.val (lifeD (qD i :: q) t (.int 1) l)) (.val tick) (.val (.int G)) (.own ds) (.val (.int 1)) (.val (.int 1)) (.val (frD t)) (.val (.int 0)) r) (M2 := M) tst ?_ (.done (M' := M) ?_)
      · simp only [lifeD] at bg ix2 c1 ix4 ⊢
        simp only [lb_sliced_1, E12, C_cal, C_arr, C_gl, lkK_val, pkK_own, x_cint, x_cstr, x_cbl, x_cnon, x_var, x_glob, x_fnv, x_tup, x_lst, x_bin, x_neg, x_cmp, x_chn, x_andv, x_orv, x_one, x_notv, x_ife, x_idx, x_dgt, x_slc, x_call, x_blt, x_isi, x_comp, x_dsp, x_dnew, x_get2, x_get1, k_g2a, k_g2b, k_g2c, k_g1a, k_g1b, pk_dnew, pk_get2, pk_get1, xs_nil, xs_cons, xp_nil, xp_cons, xo_non, xo_som, xt_val, xt_cmp, xt_chn, xt_not, xt_and, xt_or, xt_one, xq_nil, xq_one, xi_seq, xi_enum, xi_items, xi_zip, k_zip1, k_zipT, k_zipL, k_enuT, k_enuL, k_itm, k_seqO, x_stp, k_stp1, k_revT, k_revL, k_evnT, k_evnL, x_lnew, k_lnw, x_lrng1, x_lrng2, k_lrgT, k_lrgF, x_dcompK, x_dcompT, k_dcK, k_dcT, k_dkK, k_dtK, pk_lnew, pk_stp, pk_lrng, pk_dcomp, xi_rng1, xi_rng2, pk_own, pk_cint, pk_cstr, pk_cbl, pk_cnon, pk_var, pk_glob, pk_fnv, pk_tup, pk_lst, pk_bin, pk_neg, pk_cmp, pk_chn, pk_andv, pk_orv, pk_one, pk_notv, pk_ife, pk_idx, pk_dgt, pk_slc, pk_call, pk_blt, pk_isi, pk_comp, pk_dsp, k_tup, k_lst, k_con1, k_pcon1, k_con2, k_bin1, k_cmp1, k_chn1, k_chn2, k_chnT, k_chnF, k_chn4, k_tchn1, k_tchn2, k_tchnT, k_tchnF, k_tchn4, k_idx1, k_dgt1, k_slc1, k_slc2, k_neg, k_not, k_non, k_ifeT, k_ifeF, k_cal1, k_cal2, k_cal3, k_isi, k_intO, k_bl, k_tcmp1, k_tnot, k_tandT, k_tandF, k_torT, k_torF, k_dsp, k_seqT, k_seqL, k_comp, d_add, d_sub, d_lt, d_le, d_gt, d_ge, d_eqS, d_neS, d_eqI, d_neI, d_neNil, ob_of, ob_dk, ob_dt, ob_ls, ob_lk, look_k, look_t, dct_k, dct_t, stor_k, stor_t, stor_l, apnd_l, lst_l, lock_n, lock_l, lenD_o, getD_k, inD_o, i_obD, i_obT, i_obL, gc_len, gc_same, gc_keep, gc_new, gc_drop, gc_stk, p_gc, scp_pure, scps_pure, scp_int, scp_str, scp_bl, scp_non, scp_tup, scp_lst, scps_nil, scps_cons, d_min, d_max, d_abs, d_lenT, d_lenL, d_tupL, d_tupT, d_lstL, d_lstT, i_t0, i_l0, i_t1, i_l1, i_t2, i_l2, i_t3, i_l3, i_t4, i_l4, i_t5, i_l5, i_t6, i_l6, i_t7, i_l7, tr_bl, tr_int, tr_non, tr_tup, tr_lst, y_nil, y_cons, y_next, y_ret, y_brk, y_cnt, y_asg, y_par, y_par1, y_par2, y_ownL, y_ownK, y_ownF, y_ownC, y_ownCT, y_ownCL, y_ownFK, y_app, y_appK, y_app2, y_ext, y_extK, y_extT, y_extL, y_star, y_starK, y_row, y_aug, y_augK, y_augA, y_augT, y_augS, y_setd, y_set1, y_set2, y_set3, y_storK, y_expr, y_exprK, y_ret1, y_retK, y_retn, y_ifs, y_ifsT, y_ifsF, y_forr, y_forK, y_whil, y_pas, y_brk1, y_cnt1, y_frz, y_frzK, m_nm, m_tpT, m_tpL, g_tpL, y_appo, y_apo1, y_apo2, y_asgK, fin_ret, fin_next, g_nm, g_tp, g_nil, g_cons, of_nil, of_cons, ofS_non, ofS_val, ofS_none, wi_nil, wi_cons, q_tf, q_ta, k_andT, k_andF, k_orT, k_orF, Res.bind_ok, SRes.of_ok, Option.bind_some, List.getElem?_cons_zero, List.getElem?_cons_succ, List.set_cons_zero, List.set_cons_succ, List.length_cons, List.length_nil, if_true, if_false, Nat.reduceAdd, Nat.reduceLT, Nat.zero_add, decide_true, decide_false, Bool.not_true, Bool.not_false, not_true_eq_false, not_false_eq_true, eq_self, as_begun_cost_1, bg, ix2, d_isN, isNonD, as_paid_2, pd, c1, ix4, Int.sub_zero, Int.add_zero, z10, cat [.tup [], .tup (qD i :: q)] [frD t, .int 1, .int l] M (by simp) (by simp), List.cons_append, List.nil_append]
      · have ix1' : ∀ M : Sto, idxD (lifeD (qD i :: q) t (.int 1) l) (.int 1) M = .ok (.tup (qD i :: q)) M := fun M => by rfl
        simp only [lt_sliced_1, E12, C_cal, C_arr, C_gl, lkK_val, pkK_own, x_cint, x_cstr, x_cbl, x_cnon, x_var, x_glob, x_fnv, x_tup, x_lst, x_bin, x_neg, x_cmp, x_chn, x_andv, x_orv, x_one, x_notv, x_ife, x_idx, x_dgt, x_slc, x_call, x_blt, x_isi, x_comp, x_dsp, x_dnew, x_get2, x_get1, k_g2a, k_g2b, k_g2c, k_g1a, k_g1b, pk_dnew, pk_get2, pk_get1, xs_nil, xs_cons, xp_nil, xp_cons, xo_non, xo_som, xt_val, xt_cmp, xt_chn, xt_not, xt_and, xt_or, xt_one, xq_nil, xq_one, xi_seq, xi_enum, xi_items, xi_zip, k_zip1, k_zipT, k_zipL, k_enuT, k_enuL, k_itm, k_seqO, x_stp, k_stp1, k_revT, k_revL, k_evnT, k_evnL, x_lnew, k_lnw, x_lrng1, x_lrng2, k_lrgT, k_lrgF, x_dcompK, x_dcompT, k_dcK, k_dcT, k_dkK, k_dtK, pk_lnew, pk_stp, pk_lrng, pk_dcomp, xi_rng1, xi_rng2, pk_own, pk_cint, pk_cstr, pk_cbl, pk_cnon, pk_var, pk_glob, pk_fnv, pk_tup, pk_lst, pk_bin, pk_neg, pk_cmp, pk_chn, pk_andv, pk_orv, pk_one, pk_notv, pk_ife, pk_idx, pk_dgt, pk_slc, pk_call, pk_blt, pk_isi, pk_comp, pk_dsp, k_tup, k_lst, k_con1, k_pcon1, k_con2, k_bin1, k_cmp1, k_chn1, k_chn2, k_chnT, k_chnF, k_chn4, k_tchn1, k_tchn2, k_tchnT, k_tchnF, k_tchn4, k_idx1, k_dgt1, k_slc1, k_slc2, k_neg, k_not, k_non, k_ifeT, k_ifeF, k_cal1, k_cal2, k_cal3, k_isi, k_intO, k_bl, k_tcmp1, k_tnot, k_tandT, k_tandF, k_torT, k_torF, k_dsp, k_seqT, k_seqL, k_comp, d_add, d_sub, d_lt, d_le, d_gt, d_ge, d_eqS, d_neS, d_eqI, d_neI, d_neNil, ob_of, ob_dk, ob_dt, ob_ls, ob_lk, look_k, look_t, dct_k, dct_t, stor_k, stor_t, stor_l, apnd_l, lst_l, lock_n, lock_l, lenD_o, getD_k, inD_o, i_obD, i_obT, i_obL, gc_len, gc_same, gc_keep, gc_new, gc_drop, gc_stk, p_gc, scp_pure, scps_pure, scp_int, scp_str, scp_bl, scp_non, scp_tup, scp_lst, scps_nil, scps_cons, d_min, d_max, d_abs, d_lenT, d_lenL, d_tupL, d_tupT, d_lstL, d_lstT, i_t0, i_l0, i_t1, i_l1, i_t2, i_l2, i_t3, i_l3, i_t4, i_l4, i_t5, i_l5, i_t6, i_l6, i_t7, i_l7, tr_bl, tr_int, tr_non, tr_tup, tr_lst, y_nil, y_cons, y_next, y_ret, y_brk, y_cnt, y_asg, y_par, y_par1, y_par2, y_ownL, y_ownK, y_ownF, y_ownC, y_ownCT, y_ownCL, y_ownFK, y_app, y_appK, y_app2, y_ext, y_extK, y_extT, y_extL, y_star, y_starK, y_row, y_aug, y_augK, y_augA, y_augT, y_augS, y_setd, y_set1, y_set2, y_set3, y_storK, y_expr, y_exprK, y_ret1, y_retK, y_retn, y_ifs, y_ifsT, y_ifsF, y_forr, y_forK, y_whil, y_pas, y_brk1, y_cnt1, y_frz, y_frzK, m_nm, m_tpT, m_tpL, g_tpL, y_appo, y_apo1, y_apo2, y_asgK, fin_ret, fin_next, g_nm, g_tp, g_nil, g_cons, of_nil, of_cons, ofS_non, ofS_val, ofS_none, wi_nil, wi_cons, q_tf, q_ta, k_andT, k_andF, k_orT, k_orF, Res.bind_ok, SRes.of_ok, Option.bind_some, List.getElem?_cons_zero, List.getElem?_cons_succ, List.set_cons_zero, List.set_cons_succ, List.length_cons, List.length_nil, if_true, if_false, Nat.reduceAdd, Nat.reduceLT, Nat.zero_add, decide_true, decide_false, Bool.not_true, Bool.not_false, not_true_eq_false, not_false_eq_true, eq_self, ix1', nq]
        rfl
    · have hm : min (t.1 / t.2).toNat (qD i :: q).length = 1 + min ((lessL t 1).1 / (lessL t 1).2).toNat q.length := by
        rw [wh_less ht.fr, List.length_cons]
        omega
      have pd := r_paid (M := M) (n + 5) ht (by omega) 1 (by omega) 1 (by split <;> omega)
      have tk := lessL_tk ht (m := 1) (by omega) (by omega)
      have fd := r_first (M := M) (n + 1) i q (lessL t 1) (.int 0) l tick
      obtain ⟨o', ds', ow, c', x', w', r', ho', hl', e⟩ := sl_loop n tick l hk q (lessL t 1) .non (G + 1) (ds ++ [.tup [.int i, tick, tblD]]) (.val (.int 1)) (.val (frD (lessL t 1))) (.val (.int 1)) (.val (.tup [.int i, tick, tblD])) hq.tl tk (.inl rfl) (by rw [List.length_append]; simp; omega)
      refine ⟨o', ds', ow, c', x', w', r', ho', by rw [hl', hm, List.length_append]; simp; omega, ?_⟩
      rw [hm, Int.natCast_add, show ((1 : Nat) : Int) = 1 from rfl, ← lessL_lessL, ← Int.add_assoc, Nat.add_comm 1 (min ((lessL t 1).1 / (lessL t 1).2).toNat q.length), List.drop_succ_cons]
      refine .more (M1 := M) (M2 := M) tst ?_ e
      have hlt := len_line (xs := ds) (k := 50) (by omega)
      simp only [lifeD] at fd bg ix2 c1 ix4 ⊢
      simp only [lb_sliced_1, E12, C_cal, C_arr, C_gl, lkK_val, pkK_own, x_cint, x_cstr, x_cbl, x_cnon, x_var, x_glob, x_fnv, x_tup, x_lst, x_bin, x_neg, x_cmp, x_chn, x_andv, x_orv, x_one, x_notv, x_ife, x_idx, x_dgt, x_slc, x_call, x_blt, x_isi, x_comp, x_dsp, x_dnew, x_get2, x_get1, k_g2a, k_g2b, k_g2c, k_g1a, k_g1b, pk_dnew, pk_get2, pk_get1, xs_nil, xs_cons, xp_nil, xp_cons, xo_non, xo_som, xt_val, xt_cmp, xt_chn, xt_not, xt_and, xt_or, xt_one, xq_nil, xq_one, xi_seq, xi_enum, xi_items, xi_zip, k_zip1, k_zipT, k_zipL, k_enuT, k_enuL, k_itm, k_seqO, x_stp, k_stp1, k_revT, k_revL, k_evnT, k_evnL, x_lnew, k_lnw, x_lrng1, x_lrng2, k_lrgT, k_lrgF, x_dcompK, x_dcompT, k_dcK, k_dcT, k_dkK, k_dtK, pk_lnew, pk_stp, pk_lrng, pk_dcomp, xi_rng1, xi_rng2, pk_own, pk_cint, pk_cstr, pk_cbl, pk_cnon, pk_var, pk_glob, pk_fnv, pk_tup, pk_lst, pk_bin, pk_neg, pk_cmp, pk_chn, pk_andv, pk_orv, pk_one, pk_notv, pk_ife, pk_idx, pk_dgt, pk_slc, pk_call, pk_blt, pk_isi, pk_comp, pk_dsp, k_tup, k_lst, k_con1, k_pcon1, k_con2, k_bin1, k_cmp1, k_chn1, k_chn2, k_chnT, k_chnF, k_chn4, k_tchn1, k_tchn2, k_tchnT, k_tchnF, k_tchn4, k_idx1, k_dgt1, k_slc1, k_slc2, k_neg, k_not, k_non, k_ifeT, k_ifeF, k_cal1, k_cal2, k_cal3, k_isi, k_intO, k_bl, k_tcmp1, k_tnot, k_tandT, k_tandF, k_torT, k_torF, k_dsp, k_seqT, k_seqL, k_comp, d_add, d_sub, d_lt, d_le, d_gt, d_ge, d_eqS, d_neS, d_eqI, d_neI, d_neNil, ob_of, ob_dk, ob_dt, ob_ls, ob_lk, look_k, look_t, dct_k, dct_t, stor_k, stor_t, stor_l, apnd_l, lst_l, lock_n, lock_l, lenD_o, getD_k, inD_o, i_obD, i_obT, i_obL, gc_len, gc_same, gc_keep, gc_new, gc_drop, gc_stk, p_gc, scp_pure, scps_pure, scp_int, scp_str, scp_bl, scp_non, scp_tup, scp_lst, scps_nil, scps_cons, d_min, d_max, d_abs, d_lenT, d_lenL, d_tupL, d_tupT, d_lstL, d_lstT, i_t0, i_l0, i_t1, i_l1, i_t2, i_l2, i_t3, i_l3, i_t4, i_l4, i_t5, i_l5, i_t6, i_l6, i_t7, i_l7, tr_bl, tr_int, tr_non, tr_tup, tr_lst, y_nil, y_cons, y_next, y_ret, y_brk, y_cnt, y_asg, y_par, y_par1, y_par2, y_ownL, y_ownK, y_ownF, y_ownC, y_ownCT, y_ownCL, y_ownFK, y_app, y_appK, y_app2, y_ext, y_extK, y_extT, y_extL, y_star, y_starK, y_row, y_aug, y_augK, y_augA, y_augT, y_augS, y_setd, y_set1, y_set2, y_set3, y_storK, y_expr, y_exprK, y_ret1, y_retK, y_retn, y_ifs, y_ifsT, y_ifsF, y_forr, y_forK, y_whil, y_pas, y_brk1, y_cnt1, y_frz, y_frzK, m_nm, m_tpT, m_tpL, g_tpL, y_appo, y_apo1, y_apo2, y_asgK, fin_ret, fin_next, g_nm, g_tp, g_nil, g_cons, of_nil, of_cons, ofS_non, ofS_val, ofS_none, wi_nil, wi_cons, q_tf, q_ta, k_andT, k_andF, k_orT, k_orF, Res.bind_ok, SRes.of_ok, Option.bind_some, List.getElem?_cons_zero, List.getElem?_cons_succ, List.set_cons_zero, List.set_cons_succ, List.length_cons, List.length_nil, if_true, if_false, Nat.reduceAdd, Nat.reduceLT, Nat.zero_add, decide_true, decide_false, Bool.not_true, Bool.not_false, not_true_eq_false, not_false_eq_true, eq_self, as_begun_cost_1, bg, ix2, d_isN, isNonD, as_paid_2, pd, c1, ix4, Int.sub_self, cat [.tup [], .tup (qD i :: q)] [frD (lessL t 1), .int 0, .int l] M (by simp) (by simp), List.cons_append, List.nil_append, as_first_done_1_tick_land_rules, fd, hlt]
end
end Mp.Lw
end

section
set_option Elab.async false
set_option linter.all false
set_option maxRecDepth 100000
set_option maxHeartbeats 0
namespace Mp.Lw
open PySem PySem.Spec
section
variable {f : Ob} {R : Sto} {M : Sto} {b : Nat}
theorem r_sliced (n : Nat) (tick : D) (l : Int) {k : Nat} (hk : k ≤ 900) (q : List D) (t : Int × Int) (o : D) (hq : QOk q) (ht : Tk k t) (ho : o = .non ∨ o = .int 1) :
    ∃ (o' : D) (ds : List D), (o' = .non ∨ o' = .int 1) ∧ ds.length = min (t.1 / t.2).toNat q.length ∧
      cal (n + 8) i_sliced [lifeD q t o l, .non, tick, .str "eu", .tup []] M = .ok (.tup [lifeD (q.drop (min (t.1 / t.2).toNat q.length)) (lessL t ((min (t.1 / t.2).toNat q.length : Nat) : Int)) o' l, .int ((min (t.1 / t.2).toNat q.length : Nat) : Int), .tup ds]) M := by
  have hl := hq.2
  obtain ⟨o', ds, ow, c', x', w', r', ho', hl', e⟩ := sl_loop (M := M) n tick l hk q t o 0 [] .non .non .non .non hq ht ho (by simp; omega)
  refine ⟨o', ds, ho', by simpa using hl', ?_⟩
  have e := whileD_turns e
  rw [Int.zero_add] at e
  rw [st_sliced]
  simp only [E12] at e
  simp only [b_sliced, C_cal, C_arr, C_gl, lkK_val, pkK_own, x_cint, x_cstr, x_cbl, x_cnon, x_var, x_glob, x_fnv, x_tup, x_lst, x_bin, x_neg, x_cmp, x_chn, x_andv, x_orv, x_one, x_notv, x_ife, x_idx, x_dgt, x_slc, x_call, x_blt, x_isi, x_comp, x_dsp, x_dnew, x_get2, x_get1, k_g2a, k_g2b, k_g2c, k_g1a, k_g1b, pk_dnew, pk_get2, pk_get1, xs_nil, xs_cons, xp_nil, xp_cons, xo_non, xo_som, xt_val, xt_cmp, xt_chn, xt_not, xt_and, xt_or, xt_one, xq_nil, xq_one, xi_seq, xi_enum, xi_items, xi_zip, k_zip1, k_zipT, k_zipL, k_enuT, k_enuL, k_itm, k_seqO, x_stp, k_stp1, k_revT, k_revL, k_evnT, k_evnL, x_lnew, k_lnw, x_lrng1, x_lrng2, k_lrgT, k_lrgF, x_dcompK, x_dcompT, k_dcK, k_dcT, k_dkK, k_dtK, pk_lnew, pk_stp, pk_lrng, pk_dcomp, xi_rng1, xi_rng2, pk_own, pk_cint, pk_cstr, pk_cbl, pk_cnon, pk_var, pk_glob, pk_fnv, pk_tup, pk_lst, pk_bin, pk_neg, pk_cmp, pk_chn, pk_andv, pk_orv, pk_one, pk_notv, pk_ife, pk_idx, pk_dgt, pk_slc, pk_call, pk_blt, pk_isi, pk_comp, pk_dsp, k_tup, k_lst, k_con1, k_pcon1, k_con2, k_bin1, k_cmp1, k_chn1, k_chn2, k_chnT, k_chnF, k_chn4, k_tchn1, k_tchn2, k_tchnT, k_tchnF, k_tchn4, k_idx1, k_dgt1, k_slc1, k_slc2, k_neg, k_not, k_non, k_ifeT, k_ifeF, k_cal1, k_cal2, k_cal3, k_isi, k_intO, k_bl, k_tcmp1, k_tnot, k_tandT, k_tandF, k_torT, k_torF, k_dsp, k_seqT, k_seqL, k_comp, d_add, d_sub, d_lt, d_le, d_gt, d_ge, d_eqS, d_neS, d_eqI, d_neI, d_neNil, ob_of, ob_dk, ob_dt, ob_ls, ob_lk, look_k, look_t, dct_k, dct_t, stor_k, stor_t, stor_l, apnd_l, lst_l, lock_n, lock_l, lenD_o, getD_k, inD_o, i_obD, i_obT, i_obL, gc_len, gc_same, gc_keep, gc_new, gc_drop, gc_stk, p_gc, scp_pure, scps_pure, scp_int, scp_str, scp_bl, scp_non, scp_tup, scp_lst, scps_nil, scps_cons, d_min, d_max, d_abs, d_lenT, d_lenL, d_tupL, d_tupT, d_lstL, d_lstT, i_t0, i_l0, i_t1, i_l1, i_t2, i_l2, i_t3, i_l3, i_t4, i_l4, i_t5, i_l5, i_t6, i_l6, i_t7, i_l7, tr_bl, tr_int, tr_non, tr_tup, tr_lst, y_nil, y_cons, y_next, y_ret, y_brk, y_cnt, y_asg, y_par, y_par1, y_par2, y_ownL, y_ownK, y_ownF, y_ownC, y_ownCT, y_ownCL, y_ownFK, y_app, y_appK, y_app2, y_ext, y_extK, y_extT, y_extL, y_star, y_starK, y_row, y_aug, y_augK, y_augA, y_augT, y_augS, y_setd, y_set1, y_set2, y_set3, y_storK, y_expr, y_exprK, y_ret1, y_retK, y_retn, y_ifs, y_ifsT, y_ifsF, y_forr, y_forK, y_whil, y_pas, y_brk1, y_cnt1, y_frz, y_frzK, m_nm, m_tpT, m_tpL, g_tpL, y_appo, y_apo1, y_apo2, y_asgK, fin_ret, fin_next, g_nm, g_tp, g_nil, g_cons, of_nil, of_cons, ofS_non, ofS_val, ofS_none, wi_nil, wi_cons, q_tf, q_ta, k_andT, k_andF, k_orT, k_orF, Res.bind_ok, SRes.of_ok, Option.bind_some, List.getElem?_cons_zero, List.getElem?_cons_succ, List.set_cons_zero, List.set_cons_succ, List.length_cons, List.length_nil, if_true, if_false, Nat.reduceAdd, Nat.reduceLT, Nat.zero_add, decide_true, decide_false, Bool.not_true, Bool.not_false, not_true_eq_false, not_false_eq_true, eq_self, evRs, evR, rowK, setsE, List.all_cons, List.all_nil, Bool.and_true, and_self, e, gc_len]
section
variable {r : Int × Int} {c : Int} (g : Fr 3 r) (hc : 0 < c ∧ c ≤ 6)
def mL (r : Int × Int) (c : Int) (t : Int × Int) (k : Nat) : Nat := min (manyL r c t).toNat k
include g hc
theorem r_tick (n : Nat) (tick : D) (l : Int) {k : Nat} (hk : k ≤ 800) (q : List D) (t : Int × Int) (o : D) (hq : QOk q) (ht : Tk k t) (ho : o = .non ∨ o = .int 1) :
    ∃ (o' : D) (ds : List D), (o' = .non ∨ o' = .int 1) ∧ ds.length = mL r c t q.length ∧
      cal (n + 9) i_tick_alone [lifeD q t o l, shD r c, tick, .str "eu", .tup []] M = .ok (.tup [lifeD (q.drop (mL r c t q.length)) (lessL (grownL r c t) (mL r c t q.length : Nat)) o' l, .int (mL r c t q.length : Nat), .tup ds]) M := by
  have gt := grownL_tk ht g hc
  obtain ⟨o', ds, ho', hl, e1⟩ := r_sliced (M := M) n tick l (by omega) q (grownL r c t) o hq gt ho
  refine ⟨o', ds, ho', hl, ?_⟩
  have e0 := r_grown (M := M) (n + 4) ht (by omega) g hc
  have e2 := r_with_tokens (M := M) (n + 6) q t (grownL r c t) o l
  have e3 : cal (n + 8) i_life_grown [lifeD q t o l, shD r c] M = .ok (lifeD q (grownL r c t) o l) M := by
    have ix2 : ∀ M : Sto, idxD (lifeD q t o l) (.int 2) M = .ok (frD t) M := fun M => by rfl
    rw [st_life_grown]
    simp only [lifeD, shD] at ix2 e0 e2 ⊢
    simp only [b_life_grown, C_cal, C_arr, C_gl, lkK_val, pkK_own, x_cint, x_cstr, x_cbl, x_cnon, x_var, x_glob, x_fnv, x_tup, x_lst, x_bin, x_neg, x_cmp, x_chn, x_andv, x_orv, x_one, x_notv, x_ife, x_idx, x_dgt, x_slc, x_call, x_blt, x_isi, x_comp, x_dsp, x_dnew, x_get2, x_get1, k_g2a, k_g2b, k_g2c, k_g1a, k_g1b, pk_dnew, pk_get2, pk_get1, xs_nil, xs_cons, xp_nil, xp_cons, xo_non, xo_som, xt_val, xt_cmp, xt_chn, xt_not, xt_and, xt_or, xt_one, xq_nil, xq_one, xi_seq, xi_enum, xi_items, xi_zip, k_zip1, k_zipT, k_zipL, k_enuT, k_enuL, k_itm, k_seqO, x_stp, k_stp1, k_revT, k_revL, k_evnT, k_evnL, x_lnew, k_lnw, x_lrng1, x_lrng2, k_lrgT, k_lrgF, x_dcompK, x_dcompT, k_dcK, k_dcT, k_dkK, k_dtK, pk_lnew, pk_stp, pk_lrng, pk_dcomp, xi_rng1, xi_rng2, pk_own, pk_cint, pk_cstr, pk_cbl, pk_cnon, pk_var, pk_glob, pk_fnv, pk_tup, pk_lst, pk_bin, pk_neg, pk_cmp, pk_chn, pk_andv, pk_orv, pk_one, pk_notv, pk_ife, pk_idx, pk_dgt, pk_slc, pk_call, pk_blt, pk_isi, pk_comp, pk_dsp, k_tup, k_lst, k_con1, k_pcon1, k_con2, k_bin1, k_cmp1, k_chn1, k_chn2, k_chnT, k_chnF, k_chn4, k_tchn1, k_tchn2, k_tchnT, k_tchnF, k_tchn4, k_idx1, k_dgt1, k_slc1, k_slc2, k_neg, k_not, k_non, k_ifeT, k_ifeF, k_cal1, k_cal2, k_cal3, k_isi, k_intO, k_bl, k_tcmp1, k_tnot, k_tandT, k_tandF, k_torT, k_torF, k_dsp, k_seqT, k_seqL, k_comp, d_add, d_sub, d_lt, d_le, d_gt, d_ge, d_eqS, d_neS, d_eqI, d_neI, d_neNil, ob_of, ob_dk, ob_dt, ob_ls, ob_lk, look_k, look_t, dct_k, dct_t, stor_k, stor_t, stor_l, apnd_l, lst_l, lock_n, lock_l, lenD_o, getD_k, inD_o, i_obD, i_obT, i_obL, gc_len, gc_same, gc_keep, gc_new, gc_drop, gc_stk, p_gc, scp_pure, scps_pure, scp_int, scp_str, scp_bl, scp_non, scp_tup, scp_lst, scps_nil, scps_cons, d_min, d_max, d_abs, d_lenT, d_lenL, d_tupL, d_tupT, d_lstL, d_lstT, i_t0, i_l0, i_t1, i_l1, i_t2, i_l2, i_t3, i_l3, i_t4, i_l4, i_t5, i_l5, i_t6, i_l6, i_t7, i_l7, tr_bl, tr_int, tr_non, tr_tup, tr_lst, y_nil, y_cons, y_next, y_ret, y_brk, y_cnt, y_asg, y_par, y_par1, y_par2, y_ownL, y_ownK, y_ownF, y_ownC, y_ownCT, y_ownCL, y_ownFK, y_app, y_appK, y_app2, y_ext, y_extK, y_extT, y_extL, y_star, y_starK, y_row, y_aug, y_augK, y_augA, y_augT, y_augS, y_setd, y_set1, y_set2, y_set3, y_storK, y_expr, y_exprK, y_ret1, y_retK, y_retn, y_ifs, y_ifsT, y_ifsF, y_forr, y_forK, y_whil, y_pas, y_brk1, y_cnt1, y_frz, y_frzK, m_nm, m_tpT, m_tpL, g_tpL, y_appo, y_apo1, y_apo2, y_asgK, fin_ret, fin_next, g_nm, g_tp, g_nil, g_cons, of_nil, of_cons, ofS_non, ofS_val, ofS_none, wi_nil, wi_cons, q_tf, q_ta, k_andT, k_andF, k_orT, k_orF, Res.bind_ok, SRes.of_ok, Option.bind_some, List.getElem?_cons_zero, List.getElem?_cons_succ, List.set_cons_zero, List.set_cons_succ, List.length_cons, List.length_nil, if_true, if_false, Nat.reduceAdd, Nat.reduceLT, Nat.zero_add, decide_true, decide_false, Bool.not_true, Bool.not_false, not_true_eq_false, not_false_eq_true, eq_self, ix2, as_grown_2, e0, as_with_tokens_2, e2]
  have e4 := r_struck (M := M) (n + 6) (q.drop (mL r c t q.length)) (lessL (grownL r c t) (mL r c t q.length : Nat)) o' l tick
  rw [st_tick_alone]
  simp only [mL, manyL, lifeD, shD] at e1 e3 e4 ⊢
  simp only [b_tick_alone, C_cal, C_arr, C_gl, lkK_val, pkK_own, x_cint, x_cstr, x_cbl, x_cnon, x_var, x_glob, x_fnv, x_tup, x_lst, x_bin, x_neg, x_cmp, x_chn, x_andv, x_orv, x_one, x_notv, x_ife, x_idx, x_dgt, x_slc, x_call, x_blt, x_isi, x_comp, x_dsp, x_dnew, x_get2, x_get1, k_g2a, k_g2b, k_g2c, k_g1a, k_g1b, pk_dnew, pk_get2, pk_get1, xs_nil, xs_cons, xp_nil, xp_cons, xo_non, xo_som, xt_val, xt_cmp, xt_chn, xt_not, xt_and, xt_or, xt_one, xq_nil, xq_one, xi_seq, xi_enum, xi_items, xi_zip, k_zip1, k_zipT, k_zipL, k_enuT, k_enuL, k_itm, k_seqO, x_stp, k_stp1, k_revT, k_revL, k_evnT, k_evnL, x_lnew, k_lnw, x_lrng1, x_lrng2, k_lrgT, k_lrgF, x_dcompK, x_dcompT, k_dcK, k_dcT, k_dkK, k_dtK, pk_lnew, pk_stp, pk_lrng, pk_dcomp, xi_rng1, xi_rng2, pk_own, pk_cint, pk_cstr, pk_cbl, pk_cnon, pk_var, pk_glob, pk_fnv, pk_tup, pk_lst, pk_bin, pk_neg, pk_cmp, pk_chn, pk_andv, pk_orv, pk_one, pk_notv, pk_ife, pk_idx, pk_dgt, pk_slc, pk_call, pk_blt, pk_isi, pk_comp, pk_dsp, k_tup, k_lst, k_con1, k_pcon1, k_con2, k_bin1, k_cmp1, k_chn1, k_chn2, k_chnT, k_chnF, k_chn4, k_tchn1, k_tchn2, k_tchnT, k_tchnF, k_tchn4, k_idx1, k_dgt1, k_slc1, k_slc2, k_neg, k_not, k_non, k_ifeT, k_ifeF, k_cal1, k_cal2, k_cal3, k_isi, k_intO, k_bl, k_tcmp1, k_tnot, k_tandT, k_tandF, k_torT, k_torF, k_dsp, k_seqT, k_seqL, k_comp, d_add, d_sub, d_lt, d_le, d_gt, d_ge, d_eqS, d_neS, d_eqI, d_neI, d_neNil, ob_of, ob_dk, ob_dt, ob_ls, ob_lk, look_k, look_t, dct_k, dct_t, stor_k, stor_t, stor_l, apnd_l, lst_l, lock_n, lock_l, lenD_o, getD_k, inD_o, i_obD, i_obT, i_obL, gc_len, gc_same, gc_keep, gc_new, gc_drop, gc_stk, p_gc, scp_pure, scps_pure, scp_int, scp_str, scp_bl, scp_non, scp_tup, scp_lst, scps_nil, scps_cons, d_min, d_max, d_abs, d_lenT, d_lenL, d_tupL, d_tupT, d_lstL, d_lstT, i_t0, i_l0, i_t1, i_l1, i_t2, i_l2, i_t3, i_l3, i_t4, i_l4, i_t5, i_l5, i_t6, i_l6, i_t7, i_l7, tr_bl, tr_int, tr_non, tr_tup, tr_lst, y_nil, y_cons, y_next, y_ret, y_brk, y_cnt, y_asg, y_par, y_par1, y_par2, y_ownL, y_ownK, y_ownF, y_ownC, y_ownCT, y_ownCL, y_ownFK, y_app, y_appK, y_app2, y_ext, y_extK, y_extT, y_extL, y_star, y_starK, y_row, y_aug, y_augK, y_augA, y_augT, y_augS, y_setd, y_set1, y_set2, y_set3, y_storK, y_expr, y_exprK, y_ret1, y_retK, y_retn, y_ifs, y_ifsT, y_ifsF, y_forr, y_forK, y_whil, y_pas, y_brk1, y_cnt1, y_frz, y_frzK, m_nm, m_tpT, m_tpL, g_tpL, y_appo, y_apo1, y_apo2, y_asgK, fin_ret, fin_next, g_nm, g_tp, g_nil, g_cons, of_nil, of_cons, ofS_non, ofS_val, ofS_none, wi_nil, wi_cons, q_tf, q_ta, k_andT, k_andF, k_orT, k_orF, Res.bind_ok, SRes.of_ok, Option.bind_some, List.getElem?_cons_zero, List.getElem?_cons_succ, List.set_cons_zero, List.set_cons_succ, List.length_cons, List.length_nil, if_true, if_false, Nat.reduceAdd, Nat.reduceLT, Nat.zero_add, decide_true, decide_false, Bool.not_true, Bool.not_false, not_true_eq_false, not_false_eq_true, eq_self, as_life_grown_2, e3, as_sliced_2_tick_land_rules, e1, as_life_struck_1_tick_rules, e4]
/-- what the ticks give -/
def runL (r : Int × Int) (c : Int) : Nat → Int × Int → Nat → List Int
  | 0, _, _ => []
  | k + 1, t, q => ((mL r c t q : Nat) : Int) :: runL r c k (lessL (grownL r c t) (mL r c t q : Nat)) (q - mL r c t q)

end
end
end Mp.Lw
end

section
set_option Elab.async false
set_option linter.all false
set_option maxRecDepth 100000
set_option maxHeartbeats 0
namespace Mp.Lw
open PySem PySem.Spec
section
variable {f : Ob} {R : Sto} {M : Sto} {b : Nat}
abbrev F14 (sh tk : D) (hd : List D) (tick life : Slot) (gs ds : List D) (x10 x11 x12 x13 : Slot) : Env := [.val (.tup []), .val sh, .val (.tup hd), .val tk, .val (.str "eu"), .val (.tup []), tick, life, .own gs, .own ds, x10, x11, x12, x13]
def hdD : D := .tup [.int 0, jbD]
def qs (k : Nat) : List D := (List.range k).map fun (i : Nat) => qD (i : Int)
theorem qs_succ (k : Nat) : qs (k + 1) = qs k ++ [qD (k : Int)] := by unfold qs; rw [List.range_succ, List.map_append]; rfl
theorem qs_len (k : Nat) : (qs k).length = k := by unfold qs; rw [List.length_map, List.length_range]
theorem qs_ok {k : Nat} (h : k ≤ 40) : QOk (qs k) := ⟨fun x hx => by
  obtain ⟨i, hi, rfl⟩ := List.mem_map.mp hx
  rw [List.mem_range] at hi
  exact ⟨i, by omega, by omega, rfl⟩, by rw [qs_len]; exact h⟩
theorem hd0 (n : Nat) (sh tk : D) (hd gs ds : List D) (t : Int × Int) (x12 x13 : Slot) : ∀ (k l : Nat) (x10 x11 : Slot), l + k ≤ 40 →
    ∃ y10 y11, forL (forS (C (n + 1)) lg_run_alone_1 lb_run_alone_1) (List.replicate k hdD) (F14 sh tk hd (.val (.int 0)) (.val (lifeD (qs l) t .non l)) gs ds x10 x11 x12 x13) M = .next (F14 sh tk hd (.val (.int 0)) (.val (lifeD (qs (l + k)) t .non (l + k : Nat))) gs ds y10 y11 x12 x13) M
  | 0, l, x10, x11, h => ⟨x10, x11, rfl⟩
  | k + 1, l, x10, x11, h => by
    obtain ⟨y10, y11, e⟩ := hd0 n sh tk hd gs ds t x12 x13 k (l + 1) (.val (.int 0)) (.val jbD) (by omega)
    have e1 := r_handed (M := M) n (qs l) t .non (l : Int) (by rw [qs_len]; omega)
    rw [← qs_succ, show (l : Int) + 1 = ((l + 1 : Nat) : Int) by omega] at e1
    refine ⟨y10, y11, ?_⟩
    rw [List.replicate_succ, forL_next (F14 sh tk hd (.val (.int 0)) (.val (lifeD (qs (l + 1)) t .non (l + 1 : Nat))) gs ds (.val (.int 0)) (.val jbD) x12 x13) M]
    · rw [e, show l + 1 + k = l + (k + 1) by omega]
    · simp only [lifeD] at e1 ⊢
      simp only [y_forS, lg_run_alone_1, lb_run_alone_1, F14, hdD, C_cal, C_arr, C_gl, lkK_val, pkK_own, x_cint, x_cstr, x_cbl, x_cnon, x_var, x_glob, x_fnv, x_tup, x_lst, x_bin, x_neg, x_cmp, x_chn, x_andv, x_orv, x_one, x_notv, x_ife, x_idx, x_dgt, x_slc, x_call, x_blt, x_isi, x_comp, x_dsp, x_dnew, x_get2, x_get1, k_g2a, k_g2b, k_g2c, k_g1a, k_g1b, pk_dnew, pk_get2, pk_get1, xs_nil, xs_cons, xp_nil, xp_cons, xo_non, xo_som, xt_val, xt_cmp, xt_chn, xt_not, xt_and, xt_or, xt_one, xq_nil, xq_one, xi_seq, xi_enum, xi_items, xi_zip, k_zip1, k_zipT, k_zipL, k_enuT, k_enuL, k_itm, k_seqO, x_stp, k_stp1, k_revT, k_revL, k_evnT, k_evnL, x_lnew, k_lnw, x_lrng1, x_lrng2, k_lrgT, k_lrgF, x_dcompK, x_dcompT, k_dcK, k_dcT, k_dkK, k_dtK, pk_lnew, pk_stp, pk_lrng, pk_dcomp, xi_rng1, xi_rng2, pk_own, pk_cint, pk_cstr, pk_cbl, pk_cnon, pk_var, pk_glob, pk_fnv, pk_tup, pk_lst, pk_bin, pk_neg, pk_cmp, pk_chn, pk_andv, pk_orv, pk_one, pk_notv, pk_ife, pk_idx, pk_dgt, pk_slc, pk_call, pk_blt, pk_isi, pk_comp, pk_dsp, k_tup, k_lst, k_con1, k_pcon1, k_con2, k_bin1, k_cmp1, k_chn1, k_chn2, k_chnT, k_chnF, k_chn4, k_tchn1, k_tchn2, k_tchnT, k_tchnF, k_tchn4, k_idx1, k_dgt1, k_slc1, k_slc2, k_neg, k_not, k_non, k_ifeT, k_ifeF, k_cal1, k_cal2, k_cal3, k_isi, k_intO, k_bl, k_tcmp1, k_tnot, k_tandT, k_tandF, k_torT, k_torF, k_dsp, k_seqT, k_seqL, k_comp, d_add, d_sub, d_lt, d_le, d_gt, d_ge, d_eqS, d_neS, d_eqI, d_neI, d_neNil, ob_of, ob_dk, ob_dt, ob_ls, ob_lk, look_k, look_t, dct_k, dct_t, stor_k, stor_t, stor_l, apnd_l, lst_l, lock_n, lock_l, lenD_o, getD_k, inD_o, i_obD, i_obT, i_obL, gc_len, gc_same, gc_keep, gc_new, gc_drop, gc_stk, p_gc, scp_pure, scps_pure, scp_int, scp_str, scp_bl, scp_non, scp_tup, scp_lst, scps_nil, scps_cons, d_min, d_max, d_abs, d_lenT, d_lenL, d_tupL, d_tupT, d_lstL, d_lstT, i_t0, i_l0, i_t1, i_l1, i_t2, i_l2, i_t3, i_l3, i_t4, i_l4, i_t5, i_l5, i_t6, i_l6, i_t7, i_l7, tr_bl, tr_int, tr_non, tr_tup, tr_lst, y_nil, y_cons, y_next, y_ret, y_brk, y_cnt, y_asg, y_par, y_par1, y_par2, y_ownL, y_ownK, y_ownF, y_ownC, y_ownCT, y_ownCL, y_ownFK, y_app, y_appK, y_app2, y_ext, y_extK, y_extT, y_extL, y_star, y_starK, y_row, y_aug, y_augK, y_augA, y_augT, y_augS, y_setd, y_set1, y_set2, y_set3, y_storK, y_expr, y_exprK, y_ret1, y_retK, y_retn, y_ifs, y_ifsT, y_ifsF, y_forr, y_forK, y_whil, y_pas, y_brk1, y_cnt1, y_frz, y_frzK, m_nm, m_tpT, m_tpL, g_tpL, y_appo, y_apo1, y_apo2, y_asgK, fin_ret, fin_next, g_nm, g_tp, g_nil, g_cons, of_nil, of_cons, ofS_non, ofS_val, ofS_none, wi_nil, wi_cons, q_tf, q_ta, k_andT, k_andF, k_orT, k_orF, Res.bind_ok, SRes.of_ok, Option.bind_some, List.getElem?_cons_zero, List.getElem?_cons_succ, List.set_cons_zero, List.set_cons_succ, List.length_cons, List.length_nil, if_true, if_false, Nat.reduceAdd, Nat.reduceLT, Nat.zero_add, decide_true, decide_false, Bool.not_true, Bool.not_false, not_true_eq_false, not_false_eq_true, eq_self, as_handed_in_2, e1]
theorem hdN (n : Nat) (sh tk : D) (hd gs ds : List D) (j : Int) (hj : ¬ 0 = j) (L x12 x13 : Slot) : ∀ (k : Nat) (x10 x11 : Slot),
    ∃ y10 y11, forL (forS (C (n + 1)) lg_run_alone_1 lb_run_alone_1) (List.replicate k hdD) (F14 sh tk hd (.val (.int j)) L gs ds x10 x11 x12 x13) M = .next (F14 sh tk hd (.val (.int j)) L gs ds y10 y11 x12 x13) M
  | 0, x10, x11 => ⟨x10, x11, rfl⟩
  | k + 1, x10, x11 => by
    obtain ⟨y10, y11, e⟩ := hdN n sh tk hd gs ds j hj L x12 x13 k (.val (.int 0)) (.val jbD)
    refine ⟨y10, y11, ?_⟩
    rw [List.replicate_succ, forL_next (F14 sh tk hd (.val (.int j)) L gs ds (.val (.int 0)) (.val jbD) x12 x13) M]
    · exact e
    · simp only [y_forS, lg_run_alone_1, lb_run_alone_1, F14, hdD, C_cal, C_arr, C_gl, lkK_val, pkK_own, x_cint, x_cstr, x_cbl, x_cnon, x_var, x_glob, x_fnv, x_tup, x_lst, x_bin, x_neg, x_cmp, x_chn, x_andv, x_orv, x_one, x_notv, x_ife, x_idx, x_dgt, x_slc, x_call, x_blt, x_isi, x_comp, x_dsp, x_dnew, x_get2, x_get1, k_g2a, k_g2b, k_g2c, k_g1a, k_g1b, pk_dnew, pk_get2, pk_get1, xs_nil, xs_cons, xp_nil, xp_cons, xo_non, xo_som, xt_val, xt_cmp, xt_chn, xt_not, xt_and, xt_or, xt_one, xq_nil, xq_one, xi_seq, xi_enum, xi_items, xi_zip, k_zip1, k_zipT, k_zipL, k_enuT, k_enuL, k_itm, k_seqO, x_stp, k_stp1, k_revT, k_revL, k_evnT, k_evnL, x_lnew, k_lnw, x_lrng1, x_lrng2, k_lrgT, k_lrgF, x_dcompK, x_dcompT, k_dcK, k_dcT, k_dkK, k_dtK, pk_lnew, pk_stp, pk_lrng, pk_dcomp, xi_rng1, xi_rng2, pk_own, pk_cint, pk_cstr, pk_cbl, pk_cnon, pk_var, pk_glob, pk_fnv, pk_tup, pk_lst, pk_bin, pk_neg, pk_cmp, pk_chn, pk_andv, pk_orv, pk_one, pk_notv, pk_ife, pk_idx, pk_dgt, pk_slc, pk_call, pk_blt, pk_isi, pk_comp, pk_dsp, k_tup, k_lst, k_con1, k_pcon1, k_con2, k_bin1, k_cmp1, k_chn1, k_chn2, k_chnT, k_chnF, k_chn4, k_tchn1, k_tchn2, k_tchnT, k_tchnF, k_tchn4, k_idx1, k_dgt1, k_slc1, k_slc2, k_neg, k_not, k_non, k_ifeT, k_ifeF, k_cal1, k_cal2, k_cal3, k_isi, k_intO, k_bl, k_tcmp1, k_tnot, k_tandT, k_tandF, k_torT, k_torF, k_dsp, k_seqT, k_seqL, k_comp, d_add, d_sub, d_lt, d_le, d_gt, d_ge, d_eqS, d_neS, d_eqI, d_neI, d_neNil, ob_of, ob_dk, ob_dt, ob_ls, ob_lk, look_k, look_t, dct_k, dct_t, stor_k, stor_t, stor_l, apnd_l, lst_l, lock_n, lock_l, lenD_o, getD_k, inD_o, i_obD, i_obT, i_obL, gc_len, gc_same, gc_keep, gc_new, gc_drop, gc_stk, p_gc, scp_pure, scps_pure, scp_int, scp_str, scp_bl, scp_non, scp_tup, scp_lst, scps_nil, scps_cons, d_min, d_max, d_abs, d_lenT, d_lenL, d_tupL, d_tupT, d_lstL, d_lstT, i_t0, i_l0, i_t1, i_l1, i_t2, i_l2, i_t3, i_l3, i_t4, i_l4, i_t5, i_l5, i_t6, i_l6, i_t7, i_l7, tr_bl, tr_int, tr_non, tr_tup, tr_lst, y_nil, y_cons, y_next, y_ret, y_brk, y_cnt, y_asg, y_par, y_par1, y_par2, y_ownL, y_ownK, y_ownF, y_ownC, y_ownCT, y_ownCL, y_ownFK, y_app, y_appK, y_app2, y_ext, y_extK, y_extT, y_extL, y_star, y_starK, y_row, y_aug, y_augK, y_augA, y_augT, y_augS, y_setd, y_set1, y_set2, y_set3, y_storK, y_expr, y_exprK, y_ret1, y_retK, y_retn, y_ifs, y_ifsT, y_ifsF, y_forr, y_forK, y_whil, y_pas, y_brk1, y_cnt1, y_frz, y_frzK, m_nm, m_tpT, m_tpL, g_tpL, y_appo, y_apo1, y_apo2, y_asgK, fin_ret, fin_next, g_nm, g_tp, g_nil, g_cons, of_nil, of_cons, ofS_non, ofS_val, ofS_none, wi_nil, wi_cons, q_tf, q_ta, k_andT, k_andF, k_orT, k_orF, Res.bind_ok, SRes.of_ok, Option.bind_some, List.getElem?_cons_zero, List.getElem?_cons_succ, List.set_cons_zero, List.set_cons_succ, List.length_cons, List.length_nil, if_true, if_false, Nat.reduceAdd, Nat.reduceLT, Nat.zero_add, decide_true, decide_false, Bool.not_true, Bool.not_false, not_true_eq_false, not_false_eq_true, eq_self, hj]
section
variable {r : Int × Int} {c : Int} (g : Fr 3 r) (hc : 0 < c ∧ c ≤ 6)
include g hc
theorem rn_body (n : Nat) (tk : D) (hd : List D) (gs ds : List D) (j l : Int) {k : Nat} (hk : k ≤ 800) (q : List D) (t : Int × Int) (o : D) (hq : QOk q) (ht : Tk k t) (ho : o = .non ∨ o = .int 1) (hg : gs.length ≤ 1000) (hds : ds.length ≤ 1000) (x6 L x10 x11 x12 x13 y10 y11 : Slot)
    (e0 : forL (forS (C (n + 9)) lg_run_alone_1 lb_run_alone_1) hd (F14 (shD r c) tk hd (.val (.int j)) L gs ds x10 x11 x12 x13) M = .next (F14 (shD r c) tk hd (.val (.int j)) (.val (lifeD q t o l)) gs ds y10 y11 x12 x13) M) :
    ∃ (o' : D) (ds' : List D), (o' = .non ∨ o' = .int 1) ∧ ds'.length = mL r c t q.length ∧
      forS (C (n + 9)) lg_run_alone_2 lb_run_alone_2 (.int j) (F14 (shD r c) tk hd x6 L gs ds x10 x11 x12 x13) M = .next (F14 (shD r c) tk hd (.val (.int j)) (.val (lifeD (q.drop (mL r c t q.length)) (lessL (grownL r c t) (mL r c t q.length : Nat)) o' l)) (gs ++ [.int (mL r c t q.length : Nat)]) (ds ++ ds') y10 y11 (.val (.int (mL r c t q.length : Nat))) (.val (.tup ds'))) M := by
  obtain ⟨o', ds', ho', hl', e1⟩ := r_tick (M := M) g hc n (.int j) l hk q t o hq ht ho
  refine ⟨o', ds', ho', hl', ?_⟩
  have h1 := len_line (xs := gs) (k := 1000) hg
  have h2 : ds.length + ds'.length ≤ line := by
    have := hq.2
    have : mL r c t q.length ≤ q.length := Nat.min_le_right _ _
    unfold line; omega
  simp only [F14, lg_run_alone_1] at e0
  simp only [lifeD, shD] at e0 e1 ⊢
  simp only [y_forS, lg_run_alone_2, lb_run_alone_2, lg_run_alone_1, F14, C_cal, C_arr, C_gl, lkK_val, pkK_own, x_cint, x_cstr, x_cbl, x_cnon, x_var, x_glob, x_fnv, x_tup, x_lst, x_bin, x_neg, x_cmp, x_chn, x_andv, x_orv, x_one, x_notv, x_ife, x_idx, x_dgt, x_slc, x_call, x_blt, x_isi, x_comp, x_dsp, x_dnew, x_get2, x_get1, k_g2a, k_g2b, k_g2c, k_g1a, k_g1b, pk_dnew, pk_get2, pk_get1, xs_nil, xs_cons, xp_nil, xp_cons, xo_non, xo_som, xt_val, xt_cmp, xt_chn, xt_not, xt_and, xt_or, xt_one, xq_nil, xq_one, xi_seq, xi_enum, xi_items, xi_zip, k_zip1, k_zipT, k_zipL, k_enuT, k_enuL, k_itm, k_seqO, x_stp, k_stp1, k_revT, k_revL, k_evnT, k_evnL, x_lnew, k_lnw, x_lrng1, x_lrng2, k_lrgT, k_lrgF, x_dcompK, x_dcompT, k_dcK, k_dcT, k_dkK, k_dtK, pk_lnew, pk_stp, pk_lrng, pk_dcomp, xi_rng1, xi_rng2, pk_own, pk_cint, pk_cstr, pk_cbl, pk_cnon, pk_var, pk_glob, pk_fnv, pk_tup, pk_lst, pk_bin, pk_neg, pk_cmp, pk_chn, pk_andv, pk_orv, pk_one, pk_notv, pk_ife, pk_idx, pk_dgt, pk_slc, pk_call, pk_blt, pk_isi, pk_comp, pk_dsp, k_tup, k_lst, k_con1, k_pcon1, k_con2, k_bin1, k_cmp1, k_chn1, k_chn2, k_chnT, k_chnF, k_chn4, k_tchn1, k_tchn2, k_tchnT, k_tchnF, k_tchn4, k_idx1, k_dgt1, k_slc1, k_slc2, k_neg, k_not, k_non, k_ifeT, k_ifeF, k_cal1, k_cal2, k_cal3, k_isi, k_intO, k_bl, k_tcmp1, k_tnot, k_tandT, k_tandF, k_torT, k_torF, k_dsp, k_seqT, k_seqL, k_comp, d_add, d_sub, d_lt, d_le, d_gt, d_ge, d_eqS, d_neS, d_eqI, d_neI, d_neNil, ob_of, ob_dk, ob_dt, ob_ls, ob_lk, look_k, look_t, dct_k, dct_t, stor_k, stor_t, stor_l, apnd_l, lst_l, lock_n, lock_l, lenD_o, getD_k, inD_o, i_obD, i_obT, i_obL, gc_len, gc_same, gc_keep, gc_new, gc_drop, gc_stk, p_gc, scp_pure, scps_pure, scp_int, scp_str, scp_bl, scp_non, scp_tup, scp_lst, scps_nil, scps_cons, d_min, d_max, d_abs, d_lenT, d_lenL, d_tupL, d_tupT, d_lstL, d_lstT, i_t0, i_l0, i_t1, i_l1, i_t2, i_l2, i_t3, i_l3, i_t4, i_l4, i_t5, i_l5, i_t6, i_l6, i_t7, i_l7, tr_bl, tr_int, tr_non, tr_tup, tr_lst, y_nil, y_cons, y_next, y_ret, y_brk, y_cnt, y_asg, y_par, y_par1, y_par2, y_ownL, y_ownK, y_ownF, y_ownC, y_ownCT, y_ownCL, y_ownFK, y_app, y_appK, y_app2, y_ext, y_extK, y_extT, y_extL, y_star, y_starK, y_row, y_aug, y_augK, y_augA, y_augT, y_augS, y_setd, y_set1, y_set2, y_set3, y_storK, y_expr, y_exprK, y_ret1, y_retK, y_retn, y_ifs, y_ifsT, y_ifsF, y_forr, y_forK, y_whil, y_pas, y_brk1, y_cnt1, y_frz, y_frzK, m_nm, m_tpT, m_tpL, g_tpL, y_appo, y_apo1, y_apo2, y_asgK, fin_ret, fin_next, g_nm, g_tp, g_nil, g_cons, of_nil, of_cons, ofS_non, ofS_val, ofS_none, wi_nil, wi_cons, q_tf, q_ta, k_andT, k_andF, k_orT, k_orF, Res.bind_ok, SRes.of_ok, Option.bind_some, List.getElem?_cons_zero, List.getElem?_cons_succ, List.set_cons_zero, List.set_cons_succ, List.length_cons, List.length_nil, if_true, if_false, Nat.reduceAdd, Nat.reduceLT, Nat.zero_add, decide_true, decide_false, Bool.not_true, Bool.not_false, not_true_eq_false, not_false_eq_true, eq_self, e0, as_tick_alone_2_tick_land_rules, e1, h1, h2]
theorem mL_le (t : Int × Int) (k : Nat) : mL r c t k ≤ k := Nat.min_le_right _ _
theorem mL_tk {k : Nat} {t : Int × Int} (h : Tk k t) (q : Nat) : Tk (k + 4) (lessL (grownL r c t) (mL r c t q : Nat)) := by
  have q1 := grownL_tk h g hc
  refine lessL_tk q1 (by omega) ?_
  have := wh_nn q1.fr
  unfold mL manyL
  omega
theorem rn_loop (n : Nat) (tk : D) (l : Int) (K : Nat) : ∀ (m : Nat) (j : Int) (k : Nat) (q : List D) (t : Int × Int) (o : D) (gs ds : List D) (x6 x10 x11 x12 x13 : Slot), 0 < j → QOk q → Tk k t → k + 4 * m ≤ 800 → (o = .non ∨ o = .int 1) → gs.length + m ≤ 1000 → ds.length + q.length ≤ 1000 →
    ∃ (life : D) (ds' : List D) (y6 y10 y11 y12 y13 : Slot), (ds'.length : Int) = ds.length + (runL r c m t q.length).sum ∧
      forL (forS (C (n + 9)) lg_run_alone_2 lb_run_alone_2) (iota j m) (F14 (shD r c) tk (List.replicate K hdD) x6 (.val (lifeD q t o l)) gs ds x10 x11 x12 x13) M = .next (F14 (shD r c) tk (List.replicate K hdD) y6 (.val life) (gs ++ (runL r c m t q.length).map .int) ds' y10 y11 y12 y13) M
  | 0, j, k, q, t, o, gs, ds, x6, x10, x11, x12, x13, _, hq, ht, hk, ho, hg, hd => ⟨lifeD q t o l, ds, x6, x10, x11, x12, x13, by simp [runL], by simp [runL, iota, forL]⟩
  | m + 1, j, k, q, t, o, gs, ds, x6, x10, x11, x12, x13, hj, hq, ht, hk, ho, hg, hd => by
    obtain ⟨y10, y11, e0⟩ := hdN (M := M) (n + 8) (shD r c) tk (List.replicate K hdD) gs ds j (by omega) (.val (lifeD q t o l)) x12 x13 K x10 x11
    obtain ⟨o', ds', ho', hl', e1⟩ := rn_body g hc n tk (List.replicate K hdD) gs ds j l (by omega) q t o hq ht ho (by omega) (by omega) x6 (.val (lifeD q t o l)) x10 x11 x12 x13 y10 y11 e0
    have ml := mL_le g hc t q.length
    have dl : (q.drop (mL r c t q.length)).length = q.length - mL r c t q.length := List.length_drop
    obtain ⟨life, ds2, z6, z10, z11, z12, z13, hs, e2⟩ := rn_loop n tk l K m (j + 1) (k + 4) (q.drop (mL r c t q.length)) _ o' (gs ++ [.int (mL r c t q.length : Nat)]) (ds ++ ds') (.val (.int j)) y10 y11 (.val (.int (mL r c t q.length : Nat))) (.val (.tup ds')) (by omega) (hq.drop _) (mL_tk g hc ht q.length) (by omega) ho' (by rw [List.length_append]; simp; omega) (by rw [List.length_append, dl]; omega)
    refine ⟨life, ds2, z6, z10, z11, z12, z13, ?_, ?_⟩
    · rw [hs, dl, runL, List.sum_cons, List.length_append, hl']
      omega
    · rw [iota, forL_next _ _ e1, e2, dl, runL, List.map_cons, List.append_assoc]
      rfl
theorem r_run (n : Nat) (m : Nat) (hm : m ≤ 20) : ∃ (life : D) (ds : List D), (ds.length : Int) = (runL r c m (0, 1) 40).sum ∧
    cal (n + 10) i_run_alone [.tup [], shD r c, .tup (List.replicate 40 hdD), .int (m : Int), .str "eu", .tup []] M = .ok (.tup [life, .tup ((runL r c m (0, 1) 40).map .int), .tup ds]) M := by
  have lo := r_life_of (M := M) (n + 8)
  have t0 : Tk 1 (0, 1) := ⟨⟨by decide, by decide, (bd_of (by decide) (by decide) (by decide)), (bd_of (by decide) (by decide) (by decide))⟩, by decide⟩
  have fin : ∀ (life : D) (gs ds : List D) (y6 y10 y11 y12 y13 : Slot), forL (forS (C (n + 9)) lg_run_alone_2 lb_run_alone_2) (iota 0 m) (F14 (shD r c) (.int (m : Int)) (List.replicate 40 hdD) .non (.val (lifeD [] (0, 1) .non 0)) [] [] .non .non .non .non) M = .next (F14 (shD r c) (.int (m : Int)) (List.replicate 40 hdD) y6 (.val life) gs ds y10 y11 y12 y13) M →
      cal (n + 10) i_run_alone [.tup [], shD r c, .tup (List.replicate 40 hdD), .int (m : Int), .str "eu", .tup []] M = .ok (.tup [life, .tup gs, .tup ds]) M := by
    intro life gs ds y6 y10 y11 y12 y13 e
    simp only [F14, shD, lifeD] at e lo
    rw [st_run_alone]
    simp only [shD, b_run_alone, C_cal, C_arr, C_gl, lkK_val, pkK_own, x_cint, x_cstr, x_cbl, x_cnon, x_var, x_glob, x_fnv, x_tup, x_lst, x_bin, x_neg, x_cmp, x_chn, x_andv, x_orv, x_one, x_notv, x_ife, x_idx, x_dgt, x_slc, x_call, x_blt, x_isi, x_comp, x_dsp, x_dnew, x_get2, x_get1, k_g2a, k_g2b, k_g2c, k_g1a, k_g1b, pk_dnew, pk_get2, pk_get1, xs_nil, xs_cons, xp_nil, xp_cons, xo_non, xo_som, xt_val, xt_cmp, xt_chn, xt_not, xt_and, xt_or, xt_one, xq_nil, xq_one, xi_seq, xi_enum, xi_items, xi_zip, k_zip1, k_zipT, k_zipL, k_enuT, k_enuL, k_itm, k_seqO, x_stp, k_stp1, k_revT, k_revL, k_evnT, k_evnL, x_lnew, k_lnw, x_lrng1, x_lrng2, k_lrgT, k_lrgF, x_dcompK, x_dcompT, k_dcK, k_dcT, k_dkK, k_dtK, pk_lnew, pk_stp, pk_lrng, pk_dcomp, xi_rng1, xi_rng2, pk_own, pk_cint, pk_cstr, pk_cbl, pk_cnon, pk_var, pk_glob, pk_fnv, pk_tup, pk_lst, pk_bin, pk_neg, pk_cmp, pk_chn, pk_andv, pk_orv, pk_one, pk_notv, pk_ife, pk_idx, pk_dgt, pk_slc, pk_call, pk_blt, pk_isi, pk_comp, pk_dsp, k_tup, k_lst, k_con1, k_pcon1, k_con2, k_bin1, k_cmp1, k_chn1, k_chn2, k_chnT, k_chnF, k_chn4, k_tchn1, k_tchn2, k_tchnT, k_tchnF, k_tchn4, k_idx1, k_dgt1, k_slc1, k_slc2, k_neg, k_not, k_non, k_ifeT, k_ifeF, k_cal1, k_cal2, k_cal3, k_isi, k_intO, k_bl, k_tcmp1, k_tnot, k_tandT, k_tandF, k_torT, k_torF, k_dsp, k_seqT, k_seqL, k_comp, d_add, d_sub, d_lt, d_le, d_gt, d_ge, d_eqS, d_neS, d_eqI, d_neI, d_neNil, ob_of, ob_dk, ob_dt, ob_ls, ob_lk, look_k, look_t, dct_k, dct_t, stor_k, stor_t, stor_l, apnd_l, lst_l, lock_n, lock_l, lenD_o, getD_k, inD_o, i_obD, i_obT, i_obL, gc_len, gc_same, gc_keep, gc_new, gc_drop, gc_stk, p_gc, scp_pure, scps_pure, scp_int, scp_str, scp_bl, scp_non, scp_tup, scp_lst, scps_nil, scps_cons, d_min, d_max, d_abs, d_lenT, d_lenL, d_tupL, d_tupT, d_lstL, d_lstT, i_t0, i_l0, i_t1, i_l1, i_t2, i_l2, i_t3, i_l3, i_t4, i_l4, i_t5, i_l5, i_t6, i_l6, i_t7, i_l7, tr_bl, tr_int, tr_non, tr_tup, tr_lst, y_nil, y_cons, y_next, y_ret, y_brk, y_cnt, y_asg, y_par, y_par1, y_par2, y_ownL, y_ownK, y_ownF, y_ownC, y_ownCT, y_ownCL, y_ownFK, y_app, y_appK, y_app2, y_ext, y_extK, y_extT, y_extL, y_star, y_starK, y_row, y_aug, y_augK, y_augA, y_augT, y_augS, y_setd, y_set1, y_set2, y_set3, y_storK, y_expr, y_exprK, y_ret1, y_retK, y_retn, y_ifs, y_ifsT, y_ifsF, y_forr, y_forK, y_whil, y_pas, y_brk1, y_cnt1, y_frz, y_frzK, m_nm, m_tpT, m_tpL, g_tpL, y_appo, y_apo1, y_apo2, y_asgK, fin_ret, fin_next, g_nm, g_tp, g_nil, g_cons, of_nil, of_cons, ofS_non, ofS_val, ofS_none, wi_nil, wi_cons, q_tf, q_ta, k_andT, k_andF, k_orT, k_orF, Res.bind_ok, SRes.of_ok, Option.bind_some, List.getElem?_cons_zero, List.getElem?_cons_succ, List.set_cons_zero, List.set_cons_succ, List.length_cons, List.length_nil, if_true, if_false, Nat.reduceAdd, Nat.reduceLT, Nat.zero_add, decide_true, decide_false, Bool.not_true, Bool.not_false, not_true_eq_false, not_false_eq_true, eq_self, evRs, evR, rowK, setsE, List.all_cons, List.all_nil, Bool.and_true, and_self, as_life_of_1, lo, lifeD, k_rngN m M (by omega), e, gc_len]
  cases m with
  | zero => exact ⟨_, [], by simp [runL], fin _ [] [] .non .non .non .non .non rfl⟩
  | succ m =>
    obtain ⟨y10, y11, e0⟩ := hd0 (M := M) (n + 8) (shD r c) (.int ((m + 1 : Nat) : Int)) (List.replicate 40 hdD) [] [] (0, 1) .non .non 40 0 .non .non (by omega)
    obtain ⟨o', ds', ho', hl', e1⟩ := rn_body g hc n (.int ((m + 1 : Nat) : Int)) (List.replicate 40 hdD) [] [] 0 ((40 : Nat) : Int) (k := 1) (by omega) (qs 40) (0, 1) .non (qs_ok (by omega)) t0 (.inl rfl) (by simp) (by simp) .non _ .non .non .non .non y10 y11 e0
    rw [qs_len] at hl' e1
    rw [show qs 0 = [] from rfl, show ((0 : Nat) : Int) = 0 from rfl] at e1
    have ml := mL_le g hc (0, 1) 40
    have dl : ((qs 40).drop (mL r c (0, 1) 40)).length = 40 - mL r c (0, 1) 40 := by rw [List.length_drop, qs_len]
    obtain ⟨life, ds2, z6, z10, z11, z12, z13, hs, e2⟩ := rn_loop (M := M) g hc n (.int ((m + 1 : Nat) : Int)) ((40 : Nat) : Int) 40 m 1 5 ((qs 40).drop (mL r c (0, 1) 40)) _ o' ([] ++ [.int (mL r c (0, 1) 40 : Nat)]) ([] ++ ds') (.val (.int 0)) y10 y11 (.val (.int (mL r c (0, 1) 40 : Nat))) (.val (.tup ds')) (by omega) ((qs_ok (by omega)).drop _) (mL_tk g hc t0 40) (by omega) ho' (by simp; omega) (by rw [List.nil_append, dl]; omega)
    refine ⟨life, ds2, ?_, ?_⟩
    · rw [hs, dl, runL, List.sum_cons, List.nil_append, hl']
    · rw [runL, List.map_cons]
      refine fin _ _ _ z6 z10 z11 z12 z13 ?_
      rw [iota, forL_next _ _ e1, show (0 : Int) + 1 = 1 from rfl, e2, dl]
      rfl
/-- the run gives what the paces give, if the queue lasts -/
theorem run_pace : ∀ (m : Nat) (k : Nat) (t : Int × Int) (q : Nat), Tk k t → (paceL r c m t).sum < (q : Int) → runL r c m t q = paceL r c m t
  | 0, k, t, q, _, _ => rfl
  | m + 1, k, t, q, ht, h => by
    have mb := manyL_bd g hc ht
    have st := stepL_tk g hc ht
    have nn : 0 ≤ (paceL r c m (stepL r c t)).sum := by
      have := paceL_nn g hc m st
      generalize paceL r c m (stepL r c t) = l at this ⊢
      clear h
      induction l with
      | nil => simp
      | cons a l ih =>
        rw [List.sum_cons]
        have h1 := (this a List.mem_cons_self).1
        have h2 := ih fun x hx => this x (List.mem_cons_of_mem _ hx)
        omega
    rw [paceL, List.sum_cons] at h
    have e : ((mL r c t q : Nat) : Int) = manyL r c t := by
      unfold mL
      omega
    rw [runL, paceL, e]
    have e2 : lessL (grownL r c t) (manyL r c t) = stepL r c t := rfl
    rw [e2, run_pace m (k + 4) (stepL r c t) (q - mL r c t q) st (by omega)]
end
end
end Mp.Lw
end

section
set_option Elab.async false
set_option linter.all false
set_option maxRecDepth 100000
set_option maxHeartbeats 0
namespace Mp.Lw
open PySem PySem.Spec
section
variable {f : Ob} {R : Sto} {M : Sto} {b : Nat}
theorem r_share (n : Nat) (F : Feed f b) (hb : b < 2 ^ 80) : ∃ r c f', cal (n + 2) i__law_share [.obj 0] (f :: R) = .ok (shD r c) (f' :: R) ∧ Fr 3 r ∧ (0 < c ∧ c ≤ 6) ∧ Feed f' (b + 2) := by
  obtain ⟨r1, f1, e1, a1, c1, F1⟩ := dr n (R := R) F (m := 9) (by decide) (by decide)
  obtain ⟨t, m1, g1⟩ := idx_in (M := f1 :: R) (ds := [.tup [.int 1, .int 2], .tup [.int 1, .int 1], .tup [.int 3, .int 2], .tup [.int 2, .int 1], .tup [.int 5, .int 3], .tup [.int 7, .int 4], .tup [.int 0, .int 1], .tup [.int 1, .int 3], .tup [.int 3, .int 1]]) a1 c1
  obtain ⟨r2, f2, e2, a2, c2, F2⟩ := dr n (R := R) F1 (m := 6) (by decide) (by decide)
  obtain ⟨r, rfl, hr⟩ : ∃ r : Int × Int, t = frD r ∧ Fr 3 r := by
    have two : ∀ i j : Int, 0 ≤ i ∧ i ≤ 7 → 0 < j ∧ j ≤ 7 → ∃ r : Int × Int, D.tup [.int i, .int j] = frD r ∧ Fr 3 r := fun i j hi hj => ⟨(i, j), rfl, hi.1, hj.1, bd_of (by decide) (by show -(2 ^ 3) < i; omega) (by show i < 2 ^ 3; omega), bd_of (by decide) (by show -(2 ^ 3) < j; omega) (by show j < 2 ^ 3; omega)⟩
    simp only [List.mem_cons, List.not_mem_nil, or_false] at m1
    rcases m1 with rfl | rfl | rfl | rfl | rfl | rfl | rfl | rfl | rfl <;> exact two _ _ (by omega) (by omega)
  refine ⟨r, 1 + r2, f2, ?_, hr, by omega, F2⟩
  rw [st__law_share]
  simp only [b__law_share, C_cal, C_arr, C_gl, lkK_val, pkK_own, x_cint, x_cstr, x_cbl, x_cnon, x_var, x_glob, x_fnv, x_tup, x_lst, x_bin, x_neg, x_cmp, x_chn, x_andv, x_orv, x_one, x_notv, x_ife, x_idx, x_dgt, x_slc, x_call, x_blt, x_isi, x_comp, x_dsp, x_dnew, x_get2, x_get1, k_g2a, k_g2b, k_g2c, k_g1a, k_g1b, pk_dnew, pk_get2, pk_get1, xs_nil, xs_cons, xp_nil, xp_cons, xo_non, xo_som, xt_val, xt_cmp, xt_chn, xt_not, xt_and, xt_or, xt_one, xq_nil, xq_one, xi_seq, xi_enum, xi_items, xi_zip, k_zip1, k_zipT, k_zipL, k_enuT, k_enuL, k_itm, k_seqO, x_stp, k_stp1, k_revT, k_revL, k_evnT, k_evnL, x_lnew, k_lnw, x_lrng1, x_lrng2, k_lrgT, k_lrgF, x_dcompK, x_dcompT, k_dcK, k_dcT, k_dkK, k_dtK, pk_lnew, pk_stp, pk_lrng, pk_dcomp, xi_rng1, xi_rng2, pk_own, pk_cint, pk_cstr, pk_cbl, pk_cnon, pk_var, pk_glob, pk_fnv, pk_tup, pk_lst, pk_bin, pk_neg, pk_cmp, pk_chn, pk_andv, pk_orv, pk_one, pk_notv, pk_ife, pk_idx, pk_dgt, pk_slc, pk_call, pk_blt, pk_isi, pk_comp, pk_dsp, k_tup, k_lst, k_con1, k_pcon1, k_con2, k_bin1, k_cmp1, k_chn1, k_chn2, k_chnT, k_chnF, k_chn4, k_tchn1, k_tchn2, k_tchnT, k_tchnF, k_tchn4, k_idx1, k_dgt1, k_slc1, k_slc2, k_neg, k_not, k_non, k_ifeT, k_ifeF, k_cal1, k_cal2, k_cal3, k_isi, k_intO, k_bl, k_tcmp1, k_tnot, k_tandT, k_tandF, k_torT, k_torF, k_dsp, k_seqT, k_seqL, k_comp, d_add, d_sub, d_lt, d_le, d_gt, d_ge, d_eqS, d_neS, d_eqI, d_neI, d_neNil, ob_of, ob_dk, ob_dt, ob_ls, ob_lk, look_k, look_t, dct_k, dct_t, stor_k, stor_t, stor_l, apnd_l, lst_l, lock_n, lock_l, lenD_o, getD_k, inD_o, i_obD, i_obT, i_obL, gc_len, gc_same, gc_keep, gc_new, gc_drop, gc_stk, p_gc, scp_pure, scps_pure, scp_int, scp_str, scp_bl, scp_non, scp_tup, scp_lst, scps_nil, scps_cons, d_min, d_max, d_abs, d_lenT, d_lenL, d_tupL, d_tupT, d_lstL, d_lstT, i_t0, i_l0, i_t1, i_l1, i_t2, i_l2, i_t3, i_l3, i_t4, i_l4, i_t5, i_l5, i_t6, i_l6, i_t7, i_l7, tr_bl, tr_int, tr_non, tr_tup, tr_lst, y_nil, y_cons, y_next, y_ret, y_brk, y_cnt, y_asg, y_par, y_par1, y_par2, y_ownL, y_ownK, y_ownF, y_ownC, y_ownCT, y_ownCL, y_ownFK, y_app, y_appK, y_app2, y_ext, y_extK, y_extT, y_extL, y_star, y_starK, y_row, y_aug, y_augK, y_augA, y_augT, y_augS, y_setd, y_set1, y_set2, y_set3, y_storK, y_expr, y_exprK, y_ret1, y_retK, y_retn, y_ifs, y_ifsT, y_ifsF, y_forr, y_forK, y_whil, y_pas, y_brk1, y_cnt1, y_frz, y_frzK, m_nm, m_tpT, m_tpL, g_tpL, y_appo, y_apo1, y_apo2, y_asgK, fin_ret, fin_next, g_nm, g_tp, g_nil, g_cons, of_nil, of_cons, ofS_non, ofS_val, ofS_none, wi_nil, wi_cons, q_tf, q_ta, k_andT, k_andF, k_orT, k_orF, Res.bind_ok, SRes.of_ok, Option.bind_some, List.getElem?_cons_zero, List.getElem?_cons_succ, List.set_cons_zero, List.set_cons_succ, List.length_cons, List.length_nil, if_true, if_false, Nat.reduceAdd, Nat.reduceLT, Nat.zero_add, decide_true, decide_false, Bool.not_true, Bool.not_false, not_true_eq_false, not_false_eq_true, eq_self, as__law_draw_2, e1, e2, g1, shD, gc_len]
abbrev E13 (a l u h j r s p lf gv dn : Slot) : Env := [a, .val (.obj 0), l, u, h, j, r, s, p, lf, gv, dn, .non]
theorem held_lt {x u : Int} (h0 : 0 ≤ x) (h1 : x < u) : (ratioL x u).1 < (ratioL x u).2 := by
  have hu : 0 < u := by omega
  have e := ratioL_val (a := x) hu
  have p : 0 < (ratioL x u).2 := Int.ediv_pos_of_pos_of_dvd hu (Int.le_of_lt (gcd_pos' hu)) (Int.gcd_dvd_right _ _)
  generalize ratioL x u = q at *
  refine Int.lt_of_mul_lt_mul_right (a := u) ?_ (Int.le_of_lt hu)
  rw [e, Int.mul_comm q.2 u]
  exact Int.mul_lt_mul_of_pos_right h1 p
theorem lp (n : Nat) (a : Slot) : ∀ (ls : List D) (f : Ob) (b : Nat) (l u h j r s p lf gv dn : Slot), Feed f b → b + 10 * ls.length < 2 ^ 75 →
    ∃ (f' : Ob) (l' u' h' j' r' s' p' lf' gv' dn' : Slot), forL (forS (C (n + 10)) lg_law_1 lb_law_1) ls (E13 a l u h j r s p lf gv dn) (f :: R) = .next (E13 a l' u' h' j' r' s' p' lf' gv' dn') (f' :: R)
  | [], f, b, l, u, h, j, r, s, p, lf, gv, dn, F, _ => ⟨f, l, u, h, j, r, s, p, lf, gv, dn, rfl⟩
  | d :: ls, f, b, l, u, h, j, r, s, p, lf, gv, dn, F, hb => by
    rw [List.length_cons] at hb
    obtain ⟨sr, sc, f1, e1, g, hc, F1⟩ := r_share (n + 8) (R := R) F (by omega)
    obtain ⟨sp, f2, e2, a2, c2, F2⟩ := dr (n + 9) (R := R) F1 (m := 13) (by decide) (by decide)
    obtain ⟨un, f3, e3, a3, c3, F3⟩ := dr (n + 9) (R := R) F2 (m := 5) (by decide) (by decide)
    obtain ⟨x, f4, e4, a4, c4, F4⟩ := dr (n + 9) (R := R) F3 (m := 2 + un) (by omega) (by omega)
    obtain ⟨y, f5, e5, a5, c5, F5⟩ := dr (n + 9) (R := R) F4 (m := sp + 1) (by omega) (by omega)
    obtain ⟨sp, rfl⟩ := Int.eq_ofNat_of_zero_le a2
    obtain ⟨y, rfl⟩ := Int.eq_ofNat_of_zero_le a5
    have u0 : 0 < 2 + un := by omega
    have bu : bd 3 (2 + un) := bd_of (by decide) (by omega) (by omega)
    have bx : bd 3 x := bd_of (by decide) (by omega) (by omega)
    have tk : Tk 3 (ratioL x (2 + un)) := ratioL_tk a4 u0 bx bu
    have e6 := r_ratio (n + 9) x (2 + un) (f4 :: R) a4 u0 (bu.up (by omega))
    have hl := held_lt a4 c4
    generalize hq : ratioL x (2 + un) = q at *
    have one : Fr 1 (1, 1) := ⟨by decide, by decide, bd_of (by decide) (by decide) (by decide), bd_of (by decide) (by decide) (by decide)⟩
    have e7 := r_added (n + 8) (f4 :: R) g one (by omega)
    have p7 := plusL_ok g one
    have e8 := r_is_less (n + 9) (sc, 1) (plusL sr (1, 1)) (f4 :: R) ((show bd 4 sc from bd_of (by decide) (by omega) (by omega)).w p7.bp) (p7.bn.w (show bd 1 1 from bd_of (by decide) (by decide) (by decide)))
    have e9 := r_cut_right (M := f5 :: R) g hc (n + 5) tk sp y (by omega) (by omega)
    obtain ⟨life, ds, hs, e10⟩ := r_run (M := f5 :: R) g hc n sp (by omega)
    have t0 : Tk 1 (0, 1) := ⟨⟨by decide, by decide, (bd_of (by decide) (by decide) (by decide)), (bd_of (by decide) (by decide) (by decide))⟩, by decide⟩
    have e11 := r_pace_of (M := f5 :: R) g hc (n + 6) t0 sp (by omega)
    have sw := ints_sw g hc (paceL_nn g hc sp t0) (m := sp) (by rw [paceL_len]; omega) (by omega)
    have hu : 2 ≤ 2 + un := by omega
    have cm : compL (compS (C (n + 10)) (E13 a (.val d) (.val (.int (2 + un))) (.val (frD q)) j r (.val (shD sr sc)) (.val (.int (sp : Int))) lf gv dn) cg_law_1 co_law_1 ct_law_1 ce_law_1) (iota 0 40) [] (f5 :: R) = .ok (List.replicate 40 hdD) (f5 :: R) := by
      rw [compL_map (g := fun _ => hdD)]
      · rfl
      · intro d hd
        simp only [compS, cg_law_1, co_law_1, ct_law_1, ce_law_1, E13, C_cal, C_arr, C_gl, lkK_val, pkK_own, x_cint, x_cstr, x_cbl, x_cnon, x_var, x_glob, x_fnv, x_tup, x_lst, x_bin, x_neg, x_cmp, x_chn, x_andv, x_orv, x_one, x_notv, x_ife, x_idx, x_dgt, x_slc, x_call, x_blt, x_isi, x_comp, x_dsp, x_dnew, x_get2, x_get1, k_g2a, k_g2b, k_g2c, k_g1a, k_g1b, pk_dnew, pk_get2, pk_get1, xs_nil, xs_cons, xp_nil, xp_cons, xo_non, xo_som, xt_val, xt_cmp, xt_chn, xt_not, xt_and, xt_or, xt_one, xq_nil, xq_one, xi_seq, xi_enum, xi_items, xi_zip, k_zip1, k_zipT, k_zipL, k_enuT, k_enuL, k_itm, k_seqO, x_stp, k_stp1, k_revT, k_revL, k_evnT, k_evnL, x_lnew, k_lnw, x_lrng1, x_lrng2, k_lrgT, k_lrgF, x_dcompK, x_dcompT, k_dcK, k_dcT, k_dkK, k_dtK, pk_lnew, pk_stp, pk_lrng, pk_dcomp, xi_rng1, xi_rng2, pk_own, pk_cint, pk_cstr, pk_cbl, pk_cnon, pk_var, pk_glob, pk_fnv, pk_tup, pk_lst, pk_bin, pk_neg, pk_cmp, pk_chn, pk_andv, pk_orv, pk_one, pk_notv, pk_ife, pk_idx, pk_dgt, pk_slc, pk_call, pk_blt, pk_isi, pk_comp, pk_dsp, k_tup, k_lst, k_con1, k_pcon1, k_con2, k_bin1, k_cmp1, k_chn1, k_chn2, k_chnT, k_chnF, k_chn4, k_tchn1, k_tchn2, k_tchnT, k_tchnF, k_tchn4, k_idx1, k_dgt1, k_slc1, k_slc2, k_neg, k_not, k_non, k_ifeT, k_ifeF, k_cal1, k_cal2, k_cal3, k_isi, k_intO, k_bl, k_tcmp1, k_tnot, k_tandT, k_tandF, k_torT, k_torF, k_dsp, k_seqT, k_seqL, k_comp, d_add, d_sub, d_lt, d_le, d_gt, d_ge, d_eqS, d_neS, d_eqI, d_neI, d_neNil, ob_of, ob_dk, ob_dt, ob_ls, ob_lk, look_k, look_t, dct_k, dct_t, stor_k, stor_t, stor_l, apnd_l, lst_l, lock_n, lock_l, lenD_o, getD_k, inD_o, i_obD, i_obT, i_obL, gc_len, gc_same, gc_keep, gc_new, gc_drop, gc_stk, p_gc, scp_pure, scps_pure, scp_int, scp_str, scp_bl, scp_non, scp_tup, scp_lst, scps_nil, scps_cons, d_min, d_max, d_abs, d_lenT, d_lenL, d_tupL, d_tupT, d_lstL, d_lstT, i_t0, i_l0, i_t1, i_l1, i_t2, i_l2, i_t3, i_l3, i_t4, i_l4, i_t5, i_l5, i_t6, i_l6, i_t7, i_l7, tr_bl, tr_int, tr_non, tr_tup, tr_lst, y_nil, y_cons, y_next, y_ret, y_brk, y_cnt, y_asg, y_par, y_par1, y_par2, y_ownL, y_ownK, y_ownF, y_ownC, y_ownCT, y_ownCL, y_ownFK, y_app, y_appK, y_app2, y_ext, y_extK, y_extT, y_extL, y_star, y_starK, y_row, y_aug, y_augK, y_augA, y_augT, y_augS, y_setd, y_set1, y_set2, y_set3, y_storK, y_expr, y_exprK, y_ret1, y_retK, y_retn, y_ifs, y_ifsT, y_ifsF, y_forr, y_forK, y_whil, y_pas, y_brk1, y_cnt1, y_frz, y_frzK, m_nm, m_tpT, m_tpL, g_tpL, y_appo, y_apo1, y_apo2, y_asgK, fin_ret, fin_next, g_nm, g_tp, g_nil, g_cons, of_nil, of_cons, ofS_non, ofS_val, ofS_none, wi_nil, wi_cons, q_tf, q_ta, k_andT, k_andF, k_orT, k_orF, Res.bind_ok, SRes.of_ok, Option.bind_some, List.getElem?_cons_zero, List.getElem?_cons_succ, List.set_cons_zero, List.set_cons_succ, List.length_cons, List.length_nil, if_true, if_false, Nat.reduceAdd, Nat.reduceLT, Nat.zero_add, decide_true, decide_false, Bool.not_true, Bool.not_false, not_true_eq_false, not_false_eq_true, eq_self, hdD]
    obtain ⟨f', l', u', h', j', r', s', p', lf', gv', dn', e⟩ := lp n a ls f5 (b + 10) (.val d) (.val (.int (2 + un))) (.val (frD q)) (.val (.tup (List.replicate 40 hdD))) (.val (.tup ((paceL sr sc sp (0, 1)).map .int))) (.val (shD sr sc)) (.val (.int (sp : Int))) (.val life) (.val (.tup ((runL sr sc sp (0, 1) 40).map .int))) (.val (.tup ds)) (F5.up (by omega)) (by omega)
    refine ⟨f', l', u', h', j', r', s', p', lf', gv', dn', ?_⟩
    rw [forL_next (E13 a (.val d) (.val (.int (2 + un))) (.val (frD q)) (.val (.tup (List.replicate 40 hdD))) (.val (.tup ((paceL sr sc sp (0, 1)).map .int))) (.val (shD sr sc)) (.val (.int (sp : Int))) (.val life) (.val (.tup ((runL sr sc sp (0, 1) 40).map .int))) (.val (.tup ds))) (f5 :: R)]
    · exact e
    · have sx : (sp : Int) < 13 := c2
      have fin : ((paceL sr sc sp (0, 1)).sum < 40 → runL sr sc sp (0, 1) 40 = paceL sr sc sp (0, 1)) := fun h => run_pace g hc sp 1 (0, 1) 40 t0 h
      simp only [E13] at cm
      simp only [frD] at e7 e8
      simp only [shD, frD] at e1 e6 e9 e10 e11 cm
      have head : ∀ (P : SRes), True := fun _ => trivial
      by_cases cap : sc * (plusL sr (1, 1)).2 < (plusL sr (1, 1)).1 * 1
      · by_cases h40 : (paceL sr sc sp (0, 1)).sum < 40
        · have rp := fin h40
          rw [rp] at hs e10
          simp only [y_forS, lg_law_1, lb_law_1, E13, shD, frD, C_cal, C_arr, C_gl, lkK_val, pkK_own, x_cint, x_cstr, x_cbl, x_cnon, x_var, x_glob, x_fnv, x_tup, x_lst, x_bin, x_neg, x_cmp, x_chn, x_andv, x_orv, x_one, x_notv, x_ife, x_idx, x_dgt, x_slc, x_call, x_blt, x_isi, x_comp, x_dsp, x_dnew, x_get2, x_get1, k_g2a, k_g2b, k_g2c, k_g1a, k_g1b, pk_dnew, pk_get2, pk_get1, xs_nil, xs_cons, xp_nil, xp_cons, xo_non, xo_som, xt_val, xt_cmp, xt_chn, xt_not, xt_and, xt_or, xt_one, xq_nil, xq_one, xi_seq, xi_enum, xi_items, xi_zip, k_zip1, k_zipT, k_zipL, k_enuT, k_enuL, k_itm, k_seqO, x_stp, k_stp1, k_revT, k_revL, k_evnT, k_evnL, x_lnew, k_lnw, x_lrng1, x_lrng2, k_lrgT, k_lrgF, x_dcompK, x_dcompT, k_dcK, k_dcT, k_dkK, k_dtK, pk_lnew, pk_stp, pk_lrng, pk_dcomp, xi_rng1, xi_rng2, pk_own, pk_cint, pk_cstr, pk_cbl, pk_cnon, pk_var, pk_glob, pk_fnv, pk_tup, pk_lst, pk_bin, pk_neg, pk_cmp, pk_chn, pk_andv, pk_orv, pk_one, pk_notv, pk_ife, pk_idx, pk_dgt, pk_slc, pk_call, pk_blt, pk_isi, pk_comp, pk_dsp, k_tup, k_lst, k_con1, k_pcon1, k_con2, k_bin1, k_cmp1, k_chn1, k_chn2, k_chnT, k_chnF, k_chn4, k_tchn1, k_tchn2, k_tchnT, k_tchnF, k_tchn4, k_idx1, k_dgt1, k_slc1, k_slc2, k_neg, k_not, k_non, k_ifeT, k_ifeF, k_cal1, k_cal2, k_cal3, k_isi, k_intO, k_bl, k_tcmp1, k_tnot, k_tandT, k_tandF, k_torT, k_torF, k_dsp, k_seqT, k_seqL, k_comp, d_add, d_sub, d_lt, d_le, d_gt, d_ge, d_eqS, d_neS, d_eqI, d_neI, d_neNil, ob_of, ob_dk, ob_dt, ob_ls, ob_lk, look_k, look_t, dct_k, dct_t, stor_k, stor_t, stor_l, apnd_l, lst_l, lock_n, lock_l, lenD_o, getD_k, inD_o, i_obD, i_obT, i_obL, gc_len, gc_same, gc_keep, gc_new, gc_drop, gc_stk, p_gc, scp_pure, scps_pure, scp_int, scp_str, scp_bl, scp_non, scp_tup, scp_lst, scps_nil, scps_cons, d_min, d_max, d_abs, d_lenT, d_lenL, d_tupL, d_tupT, d_lstL, d_lstT, i_t0, i_l0, i_t1, i_l1, i_t2, i_l2, i_t3, i_l3, i_t4, i_l4, i_t5, i_l5, i_t6, i_l6, i_t7, i_l7, tr_bl, tr_int, tr_non, tr_tup, tr_lst, y_nil, y_cons, y_next, y_ret, y_brk, y_cnt, y_asg, y_par, y_par1, y_par2, y_ownL, y_ownK, y_ownF, y_ownC, y_ownCT, y_ownCL, y_ownFK, y_app, y_appK, y_app2, y_ext, y_extK, y_extT, y_extL, y_star, y_starK, y_row, y_aug, y_augK, y_augA, y_augT, y_augS, y_setd, y_set1, y_set2, y_set3, y_storK, y_expr, y_exprK, y_ret1, y_retK, y_retn, y_ifs, y_ifsT, y_ifsF, y_forr, y_forK, y_whil, y_pas, y_brk1, y_cnt1, y_frz, y_frzK, m_nm, m_tpT, m_tpL, g_tpL, y_appo, y_apo1, y_apo2, y_asgK, fin_ret, fin_next, g_nm, g_tp, g_nil, g_cons, of_nil, of_cons, ofS_non, ofS_val, ofS_none, wi_nil, wi_cons, q_tf, q_ta, k_andT, k_andF, k_orT, k_orF, Res.bind_ok, SRes.of_ok, Option.bind_some, List.getElem?_cons_zero, List.getElem?_cons_succ, List.set_cons_zero, List.set_cons_succ, List.length_cons, List.length_nil, if_true, if_false, Nat.reduceAdd, Nat.reduceLT, Nat.zero_add, decide_true, decide_false, Bool.not_true, Bool.not_false, not_true_eq_false, not_false_eq_true, eq_self, as__law_share_1, e1, as__law_draw_2, e2, e3, e4, e5, as_ratio_2, e6, as_added_2, e7, as_is_less_2, e8, cap, Bool.not_true, as__law_cut_right_4, e9, Bool.false_eq_true, k_rng1 (n := 40) (M := f5 :: R) (by omega), Int.reduceToNat]
          simp only [co_law_1, C_cal, C_arr, C_gl, lkK_val, pkK_own, x_cint, x_cstr, x_cbl, x_cnon, x_var, x_glob, x_fnv, x_tup, x_lst, x_bin, x_neg, x_cmp, x_chn, x_andv, x_orv, x_one, x_notv, x_ife, x_idx, x_dgt, x_slc, x_call, x_blt, x_isi, x_comp, x_dsp, x_dnew, x_get2, x_get1, k_g2a, k_g2b, k_g2c, k_g1a, k_g1b, pk_dnew, pk_get2, pk_get1, xs_nil, xs_cons, xp_nil, xp_cons, xo_non, xo_som, xt_val, xt_cmp, xt_chn, xt_not, xt_and, xt_or, xt_one, xq_nil, xq_one, xi_seq, xi_enum, xi_items, xi_zip, k_zip1, k_zipT, k_zipL, k_enuT, k_enuL, k_itm, k_seqO, x_stp, k_stp1, k_revT, k_revL, k_evnT, k_evnL, x_lnew, k_lnw, x_lrng1, x_lrng2, k_lrgT, k_lrgF, x_dcompK, x_dcompT, k_dcK, k_dcT, k_dkK, k_dtK, pk_lnew, pk_stp, pk_lrng, pk_dcomp, xi_rng1, xi_rng2, pk_own, pk_cint, pk_cstr, pk_cbl, pk_cnon, pk_var, pk_glob, pk_fnv, pk_tup, pk_lst, pk_bin, pk_neg, pk_cmp, pk_chn, pk_andv, pk_orv, pk_one, pk_notv, pk_ife, pk_idx, pk_dgt, pk_slc, pk_call, pk_blt, pk_isi, pk_comp, pk_dsp, k_tup, k_lst, k_con1, k_pcon1, k_con2, k_bin1, k_cmp1, k_chn1, k_chn2, k_chnT, k_chnF, k_chn4, k_tchn1, k_tchn2, k_tchnT, k_tchnF, k_tchn4, k_idx1, k_dgt1, k_slc1, k_slc2, k_neg, k_not, k_non, k_ifeT, k_ifeF, k_cal1, k_cal2, k_cal3, k_isi, k_intO, k_bl, k_tcmp1, k_tnot, k_tandT, k_tandF, k_torT, k_torF, k_dsp, k_seqT, k_seqL, k_comp, d_add, d_sub, d_lt, d_le, d_gt, d_ge, d_eqS, d_neS, d_eqI, d_neI, d_neNil, ob_of, ob_dk, ob_dt, ob_ls, ob_lk, look_k, look_t, dct_k, dct_t, stor_k, stor_t, stor_l, apnd_l, lst_l, lock_n, lock_l, lenD_o, getD_k, inD_o, i_obD, i_obT, i_obL, gc_len, gc_same, gc_keep, gc_new, gc_drop, gc_stk, p_gc, scp_pure, scps_pure, scp_int, scp_str, scp_bl, scp_non, scp_tup, scp_lst, scps_nil, scps_cons, d_min, d_max, d_abs, d_lenT, d_lenL, d_tupL, d_tupT, d_lstL, d_lstT, i_t0, i_l0, i_t1, i_l1, i_t2, i_l2, i_t3, i_l3, i_t4, i_l4, i_t5, i_l5, i_t6, i_l6, i_t7, i_l7, tr_bl, tr_int, tr_non, tr_tup, tr_lst, y_nil, y_cons, y_next, y_ret, y_brk, y_cnt, y_asg, y_par, y_par1, y_par2, y_ownL, y_ownK, y_ownF, y_ownC, y_ownCT, y_ownCL, y_ownFK, y_app, y_appK, y_app2, y_ext, y_extK, y_extT, y_extL, y_star, y_starK, y_row, y_aug, y_augK, y_augA, y_augT, y_augS, y_setd, y_set1, y_set2, y_set3, y_storK, y_expr, y_exprK, y_ret1, y_retK, y_retn, y_ifs, y_ifsT, y_ifsF, y_forr, y_forK, y_whil, y_pas, y_brk1, y_cnt1, y_frz, y_frzK, m_nm, m_tpT, m_tpL, g_tpL, y_appo, y_apo1, y_apo2, y_asgK, fin_ret, fin_next, g_nm, g_tp, g_nil, g_cons, of_nil, of_cons, ofS_non, ofS_val, ofS_none, wi_nil, wi_cons, q_tf, q_ta, k_andT, k_andF, k_orT, k_orF, Res.bind_ok, SRes.of_ok, Option.bind_some, List.getElem?_cons_zero, List.getElem?_cons_succ, List.set_cons_zero, List.set_cons_succ, List.length_cons, List.length_nil, if_true, if_false, Nat.reduceAdd, Nat.reduceLT, Nat.zero_add, decide_true, decide_false, Bool.not_true, Bool.not_false, not_true_eq_false, not_false_eq_true, eq_self] at cm ⊢
          simp only [cm, C_cal, C_arr, C_gl, lkK_val, pkK_own, x_cint, x_cstr, x_cbl, x_cnon, x_var, x_glob, x_fnv, x_tup, x_lst, x_bin, x_neg, x_cmp, x_chn, x_andv, x_orv, x_one, x_notv, x_ife, x_idx, x_dgt, x_slc, x_call, x_blt, x_isi, x_comp, x_dsp, x_dnew, x_get2, x_get1, k_g2a, k_g2b, k_g2c, k_g1a, k_g1b, pk_dnew, pk_get2, pk_get1, xs_nil, xs_cons, xp_nil, xp_cons, xo_non, xo_som, xt_val, xt_cmp, xt_chn, xt_not, xt_and, xt_or, xt_one, xq_nil, xq_one, xi_seq, xi_enum, xi_items, xi_zip, k_zip1, k_zipT, k_zipL, k_enuT, k_enuL, k_itm, k_seqO, x_stp, k_stp1, k_revT, k_revL, k_evnT, k_evnL, x_lnew, k_lnw, x_lrng1, x_lrng2, k_lrgT, k_lrgF, x_dcompK, x_dcompT, k_dcK, k_dcT, k_dkK, k_dtK, pk_lnew, pk_stp, pk_lrng, pk_dcomp, xi_rng1, xi_rng2, pk_own, pk_cint, pk_cstr, pk_cbl, pk_cnon, pk_var, pk_glob, pk_fnv, pk_tup, pk_lst, pk_bin, pk_neg, pk_cmp, pk_chn, pk_andv, pk_orv, pk_one, pk_notv, pk_ife, pk_idx, pk_dgt, pk_slc, pk_call, pk_blt, pk_isi, pk_comp, pk_dsp, k_tup, k_lst, k_con1, k_pcon1, k_con2, k_bin1, k_cmp1, k_chn1, k_chn2, k_chnT, k_chnF, k_chn4, k_tchn1, k_tchn2, k_tchnT, k_tchnF, k_tchn4, k_idx1, k_dgt1, k_slc1, k_slc2, k_neg, k_not, k_non, k_ifeT, k_ifeF, k_cal1, k_cal2, k_cal3, k_isi, k_intO, k_bl, k_tcmp1, k_tnot, k_tandT, k_tandF, k_torT, k_torF, k_dsp, k_seqT, k_seqL, k_comp, d_add, d_sub, d_lt, d_le, d_gt, d_ge, d_eqS, d_neS, d_eqI, d_neI, d_neNil, ob_of, ob_dk, ob_dt, ob_ls, ob_lk, look_k, look_t, dct_k, dct_t, stor_k, stor_t, stor_l, apnd_l, lst_l, lock_n, lock_l, lenD_o, getD_k, inD_o, i_obD, i_obT, i_obL, gc_len, gc_same, gc_keep, gc_new, gc_drop, gc_stk, p_gc, scp_pure, scps_pure, scp_int, scp_str, scp_bl, scp_non, scp_tup, scp_lst, scps_nil, scps_cons, d_min, d_max, d_abs, d_lenT, d_lenL, d_tupL, d_tupT, d_lstL, d_lstT, i_t0, i_l0, i_t1, i_l1, i_t2, i_l2, i_t3, i_l3, i_t4, i_l4, i_t5, i_l5, i_t6, i_l6, i_t7, i_l7, tr_bl, tr_int, tr_non, tr_tup, tr_lst, y_nil, y_cons, y_next, y_ret, y_brk, y_cnt, y_asg, y_par, y_par1, y_par2, y_ownL, y_ownK, y_ownF, y_ownC, y_ownCT, y_ownCL, y_ownFK, y_app, y_appK, y_app2, y_ext, y_extK, y_extT, y_extL, y_star, y_starK, y_row, y_aug, y_augK, y_augA, y_augT, y_augS, y_setd, y_set1, y_set2, y_set3, y_storK, y_expr, y_exprK, y_ret1, y_retK, y_retn, y_ifs, y_ifsT, y_ifsF, y_forr, y_forK, y_whil, y_pas, y_brk1, y_cnt1, y_frz, y_frzK, m_nm, m_tpT, m_tpL, g_tpL, y_appo, y_apo1, y_apo2, y_asgK, fin_ret, fin_next, g_nm, g_tp, g_nil, g_cons, of_nil, of_cons, ofS_non, ofS_val, ofS_none, wi_nil, wi_cons, q_tf, q_ta, k_andT, k_andF, k_orT, k_orF, Res.bind_ok, SRes.of_ok, Option.bind_some, List.getElem?_cons_zero, List.getElem?_cons_succ, List.set_cons_zero, List.set_cons_succ, List.length_cons, List.length_nil, if_true, if_false, Nat.reduceAdd, Nat.reduceLT, Nat.zero_add, decide_true, decide_false, Bool.not_true, Bool.not_false, not_true_eq_false, not_false_eq_true, eq_self, as_run_alone_3_ticks_land, e10, as_pace_of_2, e11, d_sumT, h40, d_rep sw, d_eqR, hs, rp, Bool.false_eq_true]
        · simp only [y_forS, lg_law_1, lb_law_1, E13, shD, frD, C_cal, C_arr, C_gl, lkK_val, pkK_own, x_cint, x_cstr, x_cbl, x_cnon, x_var, x_glob, x_fnv, x_tup, x_lst, x_bin, x_neg, x_cmp, x_chn, x_andv, x_orv, x_one, x_notv, x_ife, x_idx, x_dgt, x_slc, x_call, x_blt, x_isi, x_comp, x_dsp, x_dnew, x_get2, x_get1, k_g2a, k_g2b, k_g2c, k_g1a, k_g1b, pk_dnew, pk_get2, pk_get1, xs_nil, xs_cons, xp_nil, xp_cons, xo_non, xo_som, xt_val, xt_cmp, xt_chn, xt_not, xt_and, xt_or, xt_one, xq_nil, xq_one, xi_seq, xi_enum, xi_items, xi_zip, k_zip1, k_zipT, k_zipL, k_enuT, k_enuL, k_itm, k_seqO, x_stp, k_stp1, k_revT, k_revL, k_evnT, k_evnL, x_lnew, k_lnw, x_lrng1, x_lrng2, k_lrgT, k_lrgF, x_dcompK, x_dcompT, k_dcK, k_dcT, k_dkK, k_dtK, pk_lnew, pk_stp, pk_lrng, pk_dcomp, xi_rng1, xi_rng2, pk_own, pk_cint, pk_cstr, pk_cbl, pk_cnon, pk_var, pk_glob, pk_fnv, pk_tup, pk_lst, pk_bin, pk_neg, pk_cmp, pk_chn, pk_andv, pk_orv, pk_one, pk_notv, pk_ife, pk_idx, pk_dgt, pk_slc, pk_call, pk_blt, pk_isi, pk_comp, pk_dsp, k_tup, k_lst, k_con1, k_pcon1, k_con2, k_bin1, k_cmp1, k_chn1, k_chn2, k_chnT, k_chnF, k_chn4, k_tchn1, k_tchn2, k_tchnT, k_tchnF, k_tchn4, k_idx1, k_dgt1, k_slc1, k_slc2, k_neg, k_not, k_non, k_ifeT, k_ifeF, k_cal1, k_cal2, k_cal3, k_isi, k_intO, k_bl, k_tcmp1, k_tnot, k_tandT, k_tandF, k_torT, k_torF, k_dsp, k_seqT, k_seqL, k_comp, d_add, d_sub, d_lt, d_le, d_gt, d_ge, d_eqS, d_neS, d_eqI, d_neI, d_neNil, ob_of, ob_dk, ob_dt, ob_ls, ob_lk, look_k, look_t, dct_k, dct_t, stor_k, stor_t, stor_l, apnd_l, lst_l, lock_n, lock_l, lenD_o, getD_k, inD_o, i_obD, i_obT, i_obL, gc_len, gc_same, gc_keep, gc_new, gc_drop, gc_stk, p_gc, scp_pure, scps_pure, scp_int, scp_str, scp_bl, scp_non, scp_tup, scp_lst, scps_nil, scps_cons, d_min, d_max, d_abs, d_lenT, d_lenL, d_tupL, d_tupT, d_lstL, d_lstT, i_t0, i_l0, i_t1, i_l1, i_t2, i_l2, i_t3, i_l3, i_t4, i_l4, i_t5, i_l5, i_t6, i_l6, i_t7, i_l7, tr_bl, tr_int, tr_non, tr_tup, tr_lst, y_nil, y_cons, y_next, y_ret, y_brk, y_cnt, y_asg, y_par, y_par1, y_par2, y_ownL, y_ownK, y_ownF, y_ownC, y_ownCT, y_ownCL, y_ownFK, y_app, y_appK, y_app2, y_ext, y_extK, y_extT, y_extL, y_star, y_starK, y_row, y_aug, y_augK, y_augA, y_augT, y_augS, y_setd, y_set1, y_set2, y_set3, y_storK, y_expr, y_exprK, y_ret1, y_retK, y_retn, y_ifs, y_ifsT, y_ifsF, y_forr, y_forK, y_whil, y_pas, y_brk1, y_cnt1, y_frz, y_frzK, m_nm, m_tpT, m_tpL, g_tpL, y_appo, y_apo1, y_apo2, y_asgK, fin_ret, fin_next, g_nm, g_tp, g_nil, g_cons, of_nil, of_cons, ofS_non, ofS_val, ofS_none, wi_nil, wi_cons, q_tf, q_ta, k_andT, k_andF, k_orT, k_orF, Res.bind_ok, SRes.of_ok, Option.bind_some, List.getElem?_cons_zero, List.getElem?_cons_succ, List.set_cons_zero, List.set_cons_succ, List.length_cons, List.length_nil, if_true, if_false, Nat.reduceAdd, Nat.reduceLT, Nat.zero_add, decide_true, decide_false, Bool.not_true, Bool.not_false, not_true_eq_false, not_false_eq_true, eq_self, as__law_share_1, e1, as__law_draw_2, e2, e3, e4, e5, as_ratio_2, e6, as_added_2, e7, as_is_less_2, e8, cap, Bool.not_true, as__law_cut_right_4, e9, Bool.false_eq_true, k_rng1 (n := 40) (M := f5 :: R) (by omega), Int.reduceToNat]
          simp only [co_law_1, C_cal, C_arr, C_gl, lkK_val, pkK_own, x_cint, x_cstr, x_cbl, x_cnon, x_var, x_glob, x_fnv, x_tup, x_lst, x_bin, x_neg, x_cmp, x_chn, x_andv, x_orv, x_one, x_notv, x_ife, x_idx, x_dgt, x_slc, x_call, x_blt, x_isi, x_comp, x_dsp, x_dnew, x_get2, x_get1, k_g2a, k_g2b, k_g2c, k_g1a, k_g1b, pk_dnew, pk_get2, pk_get1, xs_nil, xs_cons, xp_nil, xp_cons, xo_non, xo_som, xt_val, xt_cmp, xt_chn, xt_not, xt_and, xt_or, xt_one, xq_nil, xq_one, xi_seq, xi_enum, xi_items, xi_zip, k_zip1, k_zipT, k_zipL, k_enuT, k_enuL, k_itm, k_seqO, x_stp, k_stp1, k_revT, k_revL, k_evnT, k_evnL, x_lnew, k_lnw, x_lrng1, x_lrng2, k_lrgT, k_lrgF, x_dcompK, x_dcompT, k_dcK, k_dcT, k_dkK, k_dtK, pk_lnew, pk_stp, pk_lrng, pk_dcomp, xi_rng1, xi_rng2, pk_own, pk_cint, pk_cstr, pk_cbl, pk_cnon, pk_var, pk_glob, pk_fnv, pk_tup, pk_lst, pk_bin, pk_neg, pk_cmp, pk_chn, pk_andv, pk_orv, pk_one, pk_notv, pk_ife, pk_idx, pk_dgt, pk_slc, pk_call, pk_blt, pk_isi, pk_comp, pk_dsp, k_tup, k_lst, k_con1, k_pcon1, k_con2, k_bin1, k_cmp1, k_chn1, k_chn2, k_chnT, k_chnF, k_chn4, k_tchn1, k_tchn2, k_tchnT, k_tchnF, k_tchn4, k_idx1, k_dgt1, k_slc1, k_slc2, k_neg, k_not, k_non, k_ifeT, k_ifeF, k_cal1, k_cal2, k_cal3, k_isi, k_intO, k_bl, k_tcmp1, k_tnot, k_tandT, k_tandF, k_torT, k_torF, k_dsp, k_seqT, k_seqL, k_comp, d_add, d_sub, d_lt, d_le, d_gt, d_ge, d_eqS, d_neS, d_eqI, d_neI, d_neNil, ob_of, ob_dk, ob_dt, ob_ls, ob_lk, look_k, look_t, dct_k, dct_t, stor_k, stor_t, stor_l, apnd_l, lst_l, lock_n, lock_l, lenD_o, getD_k, inD_o, i_obD, i_obT, i_obL, gc_len, gc_same, gc_keep, gc_new, gc_drop, gc_stk, p_gc, scp_pure, scps_pure, scp_int, scp_str, scp_bl, scp_non, scp_tup, scp_lst, scps_nil, scps_cons, d_min, d_max, d_abs, d_lenT, d_lenL, d_tupL, d_tupT, d_lstL, d_lstT, i_t0, i_l0, i_t1, i_l1, i_t2, i_l2, i_t3, i_l3, i_t4, i_l4, i_t5, i_l5, i_t6, i_l6, i_t7, i_l7, tr_bl, tr_int, tr_non, tr_tup, tr_lst, y_nil, y_cons, y_next, y_ret, y_brk, y_cnt, y_asg, y_par, y_par1, y_par2, y_ownL, y_ownK, y_ownF, y_ownC, y_ownCT, y_ownCL, y_ownFK, y_app, y_appK, y_app2, y_ext, y_extK, y_extT, y_extL, y_star, y_starK, y_row, y_aug, y_augK, y_augA, y_augT, y_augS, y_setd, y_set1, y_set2, y_set3, y_storK, y_expr, y_exprK, y_ret1, y_retK, y_retn, y_ifs, y_ifsT, y_ifsF, y_forr, y_forK, y_whil, y_pas, y_brk1, y_cnt1, y_frz, y_frzK, m_nm, m_tpT, m_tpL, g_tpL, y_appo, y_apo1, y_apo2, y_asgK, fin_ret, fin_next, g_nm, g_tp, g_nil, g_cons, of_nil, of_cons, ofS_non, ofS_val, ofS_none, wi_nil, wi_cons, q_tf, q_ta, k_andT, k_andF, k_orT, k_orF, Res.bind_ok, SRes.of_ok, Option.bind_some, List.getElem?_cons_zero, List.getElem?_cons_succ, List.set_cons_zero, List.set_cons_succ, List.length_cons, List.length_nil, if_true, if_false, Nat.reduceAdd, Nat.reduceLT, Nat.zero_add, decide_true, decide_false, Bool.not_true, Bool.not_false, not_true_eq_false, not_false_eq_true, eq_self] at cm ⊢
          simp only [cm, C_cal, C_arr, C_gl, lkK_val, pkK_own, x_cint, x_cstr, x_cbl, x_cnon, x_var, x_glob, x_fnv, x_tup, x_lst, x_bin, x_neg, x_cmp, x_chn, x_andv, x_orv, x_one, x_notv, x_ife, x_idx, x_dgt, x_slc, x_call, x_blt, x_isi, x_comp, x_dsp, x_dnew, x_get2, x_get1, k_g2a, k_g2b, k_g2c, k_g1a, k_g1b, pk_dnew, pk_get2, pk_get1, xs_nil, xs_cons, xp_nil, xp_cons, xo_non, xo_som, xt_val, xt_cmp, xt_chn, xt_not, xt_and, xt_or, xt_one, xq_nil, xq_one, xi_seq, xi_enum, xi_items, xi_zip, k_zip1, k_zipT, k_zipL, k_enuT, k_enuL, k_itm, k_seqO, x_stp, k_stp1, k_revT, k_revL, k_evnT, k_evnL, x_lnew, k_lnw, x_lrng1, x_lrng2, k_lrgT, k_lrgF, x_dcompK, x_dcompT, k_dcK, k_dcT, k_dkK, k_dtK, pk_lnew, pk_stp, pk_lrng, pk_dcomp, xi_rng1, xi_rng2, pk_own, pk_cint, pk_cstr, pk_cbl, pk_cnon, pk_var, pk_glob, pk_fnv, pk_tup, pk_lst, pk_bin, pk_neg, pk_cmp, pk_chn, pk_andv, pk_orv, pk_one, pk_notv, pk_ife, pk_idx, pk_dgt, pk_slc, pk_call, pk_blt, pk_isi, pk_comp, pk_dsp, k_tup, k_lst, k_con1, k_pcon1, k_con2, k_bin1, k_cmp1, k_chn1, k_chn2, k_chnT, k_chnF, k_chn4, k_tchn1, k_tchn2, k_tchnT, k_tchnF, k_tchn4, k_idx1, k_dgt1, k_slc1, k_slc2, k_neg, k_not, k_non, k_ifeT, k_ifeF, k_cal1, k_cal2, k_cal3, k_isi, k_intO, k_bl, k_tcmp1, k_tnot, k_tandT, k_tandF, k_torT, k_torF, k_dsp, k_seqT, k_seqL, k_comp, d_add, d_sub, d_lt, d_le, d_gt, d_ge, d_eqS, d_neS, d_eqI, d_neI, d_neNil, ob_of, ob_dk, ob_dt, ob_ls, ob_lk, look_k, look_t, dct_k, dct_t, stor_k, stor_t, stor_l, apnd_l, lst_l, lock_n, lock_l, lenD_o, getD_k, inD_o, i_obD, i_obT, i_obL, gc_len, gc_same, gc_keep, gc_new, gc_drop, gc_stk, p_gc, scp_pure, scps_pure, scp_int, scp_str, scp_bl, scp_non, scp_tup, scp_lst, scps_nil, scps_cons, d_min, d_max, d_abs, d_lenT, d_lenL, d_tupL, d_tupT, d_lstL, d_lstT, i_t0, i_l0, i_t1, i_l1, i_t2, i_l2, i_t3, i_l3, i_t4, i_l4, i_t5, i_l5, i_t6, i_l6, i_t7, i_l7, tr_bl, tr_int, tr_non, tr_tup, tr_lst, y_nil, y_cons, y_next, y_ret, y_brk, y_cnt, y_asg, y_par, y_par1, y_par2, y_ownL, y_ownK, y_ownF, y_ownC, y_ownCT, y_ownCL, y_ownFK, y_app, y_appK, y_app2, y_ext, y_extK, y_extT, y_extL, y_star, y_starK, y_row, y_aug, y_augK, y_augA, y_augT, y_augS, y_setd, y_set1, y_set2, y_set3, y_storK, y_expr, y_exprK, y_ret1, y_retK, y_retn, y_ifs, y_ifsT, y_ifsF, y_forr, y_forK, y_whil, y_pas, y_brk1, y_cnt1, y_frz, y_frzK, m_nm, m_tpT, m_tpL, g_tpL, y_appo, y_apo1, y_apo2, y_asgK, fin_ret, fin_next, g_nm, g_tp, g_nil, g_cons, of_nil, of_cons, ofS_non, ofS_val, ofS_none, wi_nil, wi_cons, q_tf, q_ta, k_andT, k_andF, k_orT, k_orF, Res.bind_ok, SRes.of_ok, Option.bind_some, List.getElem?_cons_zero, List.getElem?_cons_succ, List.set_cons_zero, List.set_cons_succ, List.length_cons, List.length_nil, if_true, if_false, Nat.reduceAdd, Nat.reduceLT, Nat.zero_add, decide_true, decide_false, Bool.not_true, Bool.not_false, not_true_eq_false, not_false_eq_true, eq_self, as_run_alone_3_ticks_land, e10, as_pace_of_2, e11, d_sumT, h40]
      · have e12 := r_sums_right (M := f4 :: R) g hc cap tk.fr.n hl (n + 5) tk sp (by omega)
        simp only [shD, frD] at e12
        by_cases h40 : (paceL sr sc sp (0, 1)).sum < 40
        · have rp := fin h40
          rw [rp] at hs e10
          simp only [y_forS, lg_law_1, lb_law_1, E13, shD, frD, C_cal, C_arr, C_gl, lkK_val, pkK_own, x_cint, x_cstr, x_cbl, x_cnon, x_var, x_glob, x_fnv, x_tup, x_lst, x_bin, x_neg, x_cmp, x_chn, x_andv, x_orv, x_one, x_notv, x_ife, x_idx, x_dgt, x_slc, x_call, x_blt, x_isi, x_comp, x_dsp, x_dnew, x_get2, x_get1, k_g2a, k_g2b, k_g2c, k_g1a, k_g1b, pk_dnew, pk_get2, pk_get1, xs_nil, xs_cons, xp_nil, xp_cons, xo_non, xo_som, xt_val, xt_cmp, xt_chn, xt_not, xt_and, xt_or, xt_one, xq_nil, xq_one, xi_seq, xi_enum, xi_items, xi_zip, k_zip1, k_zipT, k_zipL, k_enuT, k_enuL, k_itm, k_seqO, x_stp, k_stp1, k_revT, k_revL, k_evnT, k_evnL, x_lnew, k_lnw, x_lrng1, x_lrng2, k_lrgT, k_lrgF, x_dcompK, x_dcompT, k_dcK, k_dcT, k_dkK, k_dtK, pk_lnew, pk_stp, pk_lrng, pk_dcomp, xi_rng1, xi_rng2, pk_own, pk_cint, pk_cstr, pk_cbl, pk_cnon, pk_var, pk_glob, pk_fnv, pk_tup, pk_lst, pk_bin, pk_neg, pk_cmp, pk_chn, pk_andv, pk_orv, pk_one, pk_notv, pk_ife, pk_idx, pk_dgt, pk_slc, pk_call, pk_blt, pk_isi, pk_comp, pk_dsp, k_tup, k_lst, k_con1, k_pcon1, k_con2, k_bin1, k_cmp1, k_chn1, k_chn2, k_chnT, k_chnF, k_chn4, k_tchn1, k_tchn2, k_tchnT, k_tchnF, k_tchn4, k_idx1, k_dgt1, k_slc1, k_slc2, k_neg, k_not, k_non, k_ifeT, k_ifeF, k_cal1, k_cal2, k_cal3, k_isi, k_intO, k_bl, k_tcmp1, k_tnot, k_tandT, k_tandF, k_torT, k_torF, k_dsp, k_seqT, k_seqL, k_comp, d_add, d_sub, d_lt, d_le, d_gt, d_ge, d_eqS, d_neS, d_eqI, d_neI, d_neNil, ob_of, ob_dk, ob_dt, ob_ls, ob_lk, look_k, look_t, dct_k, dct_t, stor_k, stor_t, stor_l, apnd_l, lst_l, lock_n, lock_l, lenD_o, getD_k, inD_o, i_obD, i_obT, i_obL, gc_len, gc_same, gc_keep, gc_new, gc_drop, gc_stk, p_gc, scp_pure, scps_pure, scp_int, scp_str, scp_bl, scp_non, scp_tup, scp_lst, scps_nil, scps_cons, d_min, d_max, d_abs, d_lenT, d_lenL, d_tupL, d_tupT, d_lstL, d_lstT, i_t0, i_l0, i_t1, i_l1, i_t2, i_l2, i_t3, i_l3, i_t4, i_l4, i_t5, i_l5, i_t6, i_l6, i_t7, i_l7, tr_bl, tr_int, tr_non, tr_tup, tr_lst, y_nil, y_cons, y_next, y_ret, y_brk, y_cnt, y_asg, y_par, y_par1, y_par2, y_ownL, y_ownK, y_ownF, y_ownC, y_ownCT, y_ownCL, y_ownFK, y_app, y_appK, y_app2, y_ext, y_extK, y_extT, y_extL, y_star, y_starK, y_row, y_aug, y_augK, y_augA, y_augT, y_augS, y_setd, y_set1, y_set2, y_set3, y_storK, y_expr, y_exprK, y_ret1, y_retK, y_retn, y_ifs, y_ifsT, y_ifsF, y_forr, y_forK, y_whil, y_pas, y_brk1, y_cnt1, y_frz, y_frzK, m_nm, m_tpT, m_tpL, g_tpL, y_appo, y_apo1, y_apo2, y_asgK, fin_ret, fin_next, g_nm, g_tp, g_nil, g_cons, of_nil, of_cons, ofS_non, ofS_val, ofS_none, wi_nil, wi_cons, q_tf, q_ta, k_andT, k_andF, k_orT, k_orF, Res.bind_ok, SRes.of_ok, Option.bind_some, List.getElem?_cons_zero, List.getElem?_cons_succ, List.set_cons_zero, List.set_cons_succ, List.length_cons, List.length_nil, if_true, if_false, Nat.reduceAdd, Nat.reduceLT, Nat.zero_add, decide_true, decide_false, Bool.not_true, Bool.not_false, not_true_eq_false, not_false_eq_true, eq_self, as__law_share_1, e1, as__law_draw_2, e2, e3, e4, e5, as_ratio_2, e6, as_added_2, e7, as_is_less_2, e8, cap, Bool.not_false, Bool.not_true, as__law_sums_right_3, e12, as__law_cut_right_4, e9, Bool.false_eq_true, k_rng1 (n := 40) (M := f5 :: R) (by omega), Int.reduceToNat]
          simp only [co_law_1, C_cal, C_arr, C_gl, lkK_val, pkK_own, x_cint, x_cstr, x_cbl, x_cnon, x_var, x_glob, x_fnv, x_tup, x_lst, x_bin, x_neg, x_cmp, x_chn, x_andv, x_orv, x_one, x_notv, x_ife, x_idx, x_dgt, x_slc, x_call, x_blt, x_isi, x_comp, x_dsp, x_dnew, x_get2, x_get1, k_g2a, k_g2b, k_g2c, k_g1a, k_g1b, pk_dnew, pk_get2, pk_get1, xs_nil, xs_cons, xp_nil, xp_cons, xo_non, xo_som, xt_val, xt_cmp, xt_chn, xt_not, xt_and, xt_or, xt_one, xq_nil, xq_one, xi_seq, xi_enum, xi_items, xi_zip, k_zip1, k_zipT, k_zipL, k_enuT, k_enuL, k_itm, k_seqO, x_stp, k_stp1, k_revT, k_revL, k_evnT, k_evnL, x_lnew, k_lnw, x_lrng1, x_lrng2, k_lrgT, k_lrgF, x_dcompK, x_dcompT, k_dcK, k_dcT, k_dkK, k_dtK, pk_lnew, pk_stp, pk_lrng, pk_dcomp, xi_rng1, xi_rng2, pk_own, pk_cint, pk_cstr, pk_cbl, pk_cnon, pk_var, pk_glob, pk_fnv, pk_tup, pk_lst, pk_bin, pk_neg, pk_cmp, pk_chn, pk_andv, pk_orv, pk_one, pk_notv, pk_ife, pk_idx, pk_dgt, pk_slc, pk_call, pk_blt, pk_isi, pk_comp, pk_dsp, k_tup, k_lst, k_con1, k_pcon1, k_con2, k_bin1, k_cmp1, k_chn1, k_chn2, k_chnT, k_chnF, k_chn4, k_tchn1, k_tchn2, k_tchnT, k_tchnF, k_tchn4, k_idx1, k_dgt1, k_slc1, k_slc2, k_neg, k_not, k_non, k_ifeT, k_ifeF, k_cal1, k_cal2, k_cal3, k_isi, k_intO, k_bl, k_tcmp1, k_tnot, k_tandT, k_tandF, k_torT, k_torF, k_dsp, k_seqT, k_seqL, k_comp, d_add, d_sub, d_lt, d_le, d_gt, d_ge, d_eqS, d_neS, d_eqI, d_neI, d_neNil, ob_of, ob_dk, ob_dt, ob_ls, ob_lk, look_k, look_t, dct_k, dct_t, stor_k, stor_t, stor_l, apnd_l, lst_l, lock_n, lock_l, lenD_o, getD_k, inD_o, i_obD, i_obT, i_obL, gc_len, gc_same, gc_keep, gc_new, gc_drop, gc_stk, p_gc, scp_pure, scps_pure, scp_int, scp_str, scp_bl, scp_non, scp_tup, scp_lst, scps_nil, scps_cons, d_min, d_max, d_abs, d_lenT, d_lenL, d_tupL, d_tupT, d_lstL, d_lstT, i_t0, i_l0, i_t1, i_l1, i_t2, i_l2, i_t3, i_l3, i_t4, i_l4, i_t5, i_l5, i_t6, i_l6, i_t7, i_l7, tr_bl, tr_int, tr_non, tr_tup, tr_lst, y_nil, y_cons, y_next, y_ret, y_brk, y_cnt, y_asg, y_par, y_par1, y_par2, y_ownL, y_ownK, y_ownF, y_ownC, y_ownCT, y_ownCL, y_ownFK, y_app, y_appK, y_app2, y_ext, y_extK, y_extT, y_extL, y_star, y_starK, y_row, y_aug, y_augK, y_augA, y_augT, y_augS, y_setd, y_set1, y_set2, y_set3, y_storK, y_expr, y_exprK, y_ret1, y_retK, y_retn, y_ifs, y_ifsT, y_ifsF, y_forr, y_forK, y_whil, y_pas, y_brk1, y_cnt1, y_frz, y_frzK, m_nm, m_tpT, m_tpL, g_tpL, y_appo, y_apo1, y_apo2, y_asgK, fin_ret, fin_next, g_nm, g_tp, g_nil, g_cons, of_nil, of_cons, ofS_non, ofS_val, ofS_none, wi_nil, wi_cons, q_tf, q_ta, k_andT, k_andF, k_orT, k_orF, Res.bind_ok, SRes.of_ok, Option.bind_some, List.getElem?_cons_zero, List.getElem?_cons_succ, List.set_cons_zero, List.set_cons_succ, List.length_cons, List.length_nil, if_true, if_false, Nat.reduceAdd, Nat.reduceLT, Nat.zero_add, decide_true, decide_false, Bool.not_true, Bool.not_false, not_true_eq_false, not_false_eq_true, eq_self] at cm ⊢
          simp only [cm, C_cal, C_arr, C_gl, lkK_val, pkK_own, x_cint, x_cstr, x_cbl, x_cnon, x_var, x_glob, x_fnv, x_tup, x_lst, x_bin, x_neg, x_cmp, x_chn, x_andv, x_orv, x_one, x_notv, x_ife, x_idx, x_dgt, x_slc, x_call, x_blt, x_isi, x_comp, x_dsp, x_dnew, x_get2, x_get1, k_g2a, k_g2b, k_g2c, k_g1a, k_g1b, pk_dnew, pk_get2, pk_get1, xs_nil, xs_cons, xp_nil, xp_cons, xo_non, xo_som, xt_val, xt_cmp, xt_chn, xt_not, xt_and, xt_or, xt_one, xq_nil, xq_one, xi_seq, xi_enum, xi_items, xi_zip, k_zip1, k_zipT, k_zipL, k_enuT, k_enuL, k_itm, k_seqO, x_stp, k_stp1, k_revT, k_revL, k_evnT, k_evnL, x_lnew, k_lnw, x_lrng1, x_lrng2, k_lrgT, k_lrgF, x_dcompK, x_dcompT, k_dcK, k_dcT, k_dkK, k_dtK, pk_lnew, pk_stp, pk_lrng, pk_dcomp, xi_rng1, xi_rng2, pk_own, pk_cint, pk_cstr, pk_cbl, pk_cnon, pk_var, pk_glob, pk_fnv, pk_tup, pk_lst, pk_bin, pk_neg, pk_cmp, pk_chn, pk_andv, pk_orv, pk_one, pk_notv, pk_ife, pk_idx, pk_dgt, pk_slc, pk_call, pk_blt, pk_isi, pk_comp, pk_dsp, k_tup, k_lst, k_con1, k_pcon1, k_con2, k_bin1, k_cmp1, k_chn1, k_chn2, k_chnT, k_chnF, k_chn4, k_tchn1, k_tchn2, k_tchnT, k_tchnF, k_tchn4, k_idx1, k_dgt1, k_slc1, k_slc2, k_neg, k_not, k_non, k_ifeT, k_ifeF, k_cal1, k_cal2, k_cal3, k_isi, k_intO, k_bl, k_tcmp1, k_tnot, k_tandT, k_tandF, k_torT, k_torF, k_dsp, k_seqT, k_seqL, k_comp, d_add, d_sub, d_lt, d_le, d_gt, d_ge, d_eqS, d_neS, d_eqI, d_neI, d_neNil, ob_of, ob_dk, ob_dt, ob_ls, ob_lk, look_k, look_t, dct_k, dct_t, stor_k, stor_t, stor_l, apnd_l, lst_l, lock_n, lock_l, lenD_o, getD_k, inD_o, i_obD, i_obT, i_obL, gc_len, gc_same, gc_keep, gc_new, gc_drop, gc_stk, p_gc, scp_pure, scps_pure, scp_int, scp_str, scp_bl, scp_non, scp_tup, scp_lst, scps_nil, scps_cons, d_min, d_max, d_abs, d_lenT, d_lenL, d_tupL, d_tupT, d_lstL, d_lstT, i_t0, i_l0, i_t1, i_l1, i_t2, i_l2, i_t3, i_l3, i_t4, i_l4, i_t5, i_l5, i_t6, i_l6, i_t7, i_l7, tr_bl, tr_int, tr_non, tr_tup, tr_lst, y_nil, y_cons, y_next, y_ret, y_brk, y_cnt, y_asg, y_par, y_par1, y_par2, y_ownL, y_ownK, y_ownF, y_ownC, y_ownCT, y_ownCL, y_ownFK, y_app, y_appK, y_app2, y_ext, y_extK, y_extT, y_extL, y_star, y_starK, y_row, y_aug, y_augK, y_augA, y_augT, y_augS, y_setd, y_set1, y_set2, y_set3, y_storK, y_expr, y_exprK, y_ret1, y_retK, y_retn, y_ifs, y_ifsT, y_ifsF, y_forr, y_forK, y_whil, y_pas, y_brk1, y_cnt1, y_frz, y_frzK, m_nm, m_tpT, m_tpL, g_tpL, y_appo, y_apo1, y_apo2, y_asgK, fin_ret, fin_next, g_nm, g_tp, g_nil, g_cons, of_nil, of_cons, ofS_non, ofS_val, ofS_none, wi_nil, wi_cons, q_tf, q_ta, k_andT, k_andF, k_orT, k_orF, Res.bind_ok, SRes.of_ok, Option.bind_some, List.getElem?_cons_zero, List.getElem?_cons_succ, List.set_cons_zero, List.set_cons_succ, List.length_cons, List.length_nil, if_true, if_false, Nat.reduceAdd, Nat.reduceLT, Nat.zero_add, decide_true, decide_false, Bool.not_true, Bool.not_false, not_true_eq_false, not_false_eq_true, eq_self, as_run_alone_3_ticks_land, e10, as_pace_of_2, e11, d_sumT, h40, d_rep sw, d_eqR, hs, rp, Bool.false_eq_true]
        · simp only [y_forS, lg_law_1, lb_law_1, E13, shD, frD, C_cal, C_arr, C_gl, lkK_val, pkK_own, x_cint, x_cstr, x_cbl, x_cnon, x_var, x_glob, x_fnv, x_tup, x_lst, x_bin, x_neg, x_cmp, x_chn, x_andv, x_orv, x_one, x_notv, x_ife, x_idx, x_dgt, x_slc, x_call, x_blt, x_isi, x_comp, x_dsp, x_dnew, x_get2, x_get1, k_g2a, k_g2b, k_g2c, k_g1a, k_g1b, pk_dnew, pk_get2, pk_get1, xs_nil, xs_cons, xp_nil, xp_cons, xo_non, xo_som, xt_val, xt_cmp, xt_chn, xt_not, xt_and, xt_or, xt_one, xq_nil, xq_one, xi_seq, xi_enum, xi_items, xi_zip, k_zip1, k_zipT, k_zipL, k_enuT, k_enuL, k_itm, k_seqO, x_stp, k_stp1, k_revT, k_revL, k_evnT, k_evnL, x_lnew, k_lnw, x_lrng1, x_lrng2, k_lrgT, k_lrgF, x_dcompK, x_dcompT, k_dcK, k_dcT, k_dkK, k_dtK, pk_lnew, pk_stp, pk_lrng, pk_dcomp, xi_rng1, xi_rng2, pk_own, pk_cint, pk_cstr, pk_cbl, pk_cnon, pk_var, pk_glob, pk_fnv, pk_tup, pk_lst, pk_bin, pk_neg, pk_cmp, pk_chn, pk_andv, pk_orv, pk_one, pk_notv, pk_ife, pk_idx, pk_dgt, pk_slc, pk_call, pk_blt, pk_isi, pk_comp, pk_dsp, k_tup, k_lst, k_con1, k_pcon1, k_con2, k_bin1, k_cmp1, k_chn1, k_chn2, k_chnT, k_chnF, k_chn4, k_tchn1, k_tchn2, k_tchnT, k_tchnF, k_tchn4, k_idx1, k_dgt1, k_slc1, k_slc2, k_neg, k_not, k_non, k_ifeT, k_ifeF, k_cal1, k_cal2, k_cal3, k_isi, k_intO, k_bl, k_tcmp1, k_tnot, k_tandT, k_tandF, k_torT, k_torF, k_dsp, k_seqT, k_seqL, k_comp, d_add, d_sub, d_lt, d_le, d_gt, d_ge, d_eqS, d_neS, d_eqI, d_neI, d_neNil, ob_of, ob_dk, ob_dt, ob_ls, ob_lk, look_k, look_t, dct_k, dct_t, stor_k, stor_t, stor_l, apnd_l, lst_l, lock_n, lock_l, lenD_o, getD_k, inD_o, i_obD, i_obT, i_obL, gc_len, gc_same, gc_keep, gc_new, gc_drop, gc_stk, p_gc, scp_pure, scps_pure, scp_int, scp_str, scp_bl, scp_non, scp_tup, scp_lst, scps_nil, scps_cons, d_min, d_max, d_abs, d_lenT, d_lenL, d_tupL, d_tupT, d_lstL, d_lstT, i_t0, i_l0, i_t1, i_l1, i_t2, i_l2, i_t3, i_l3, i_t4, i_l4, i_t5, i_l5, i_t6, i_l6, i_t7, i_l7, tr_bl, tr_int, tr_non, tr_tup, tr_lst, y_nil, y_cons, y_next, y_ret, y_brk, y_cnt, y_asg, y_par, y_par1, y_par2, y_ownL, y_ownK, y_ownF, y_ownC, y_ownCT, y_ownCL, y_ownFK, y_app, y_appK, y_app2, y_ext, y_extK, y_extT, y_extL, y_star, y_starK, y_row, y_aug, y_augK, y_augA, y_augT, y_augS, y_setd, y_set1, y_set2, y_set3, y_storK, y_expr, y_exprK, y_ret1, y_retK, y_retn, y_ifs, y_ifsT, y_ifsF, y_forr, y_forK, y_whil, y_pas, y_brk1, y_cnt1, y_frz, y_frzK, m_nm, m_tpT, m_tpL, g_tpL, y_appo, y_apo1, y_apo2, y_asgK, fin_ret, fin_next, g_nm, g_tp, g_nil, g_cons, of_nil, of_cons, ofS_non, ofS_val, ofS_none, wi_nil, wi_cons, q_tf, q_ta, k_andT, k_andF, k_orT, k_orF, Res.bind_ok, SRes.of_ok, Option.bind_some, List.getElem?_cons_zero, List.getElem?_cons_succ, List.set_cons_zero, List.set_cons_succ, List.length_cons, List.length_nil, if_true, if_false, Nat.reduceAdd, Nat.reduceLT, Nat.zero_add, decide_true, decide_false, Bool.not_true, Bool.not_false, not_true_eq_false, not_false_eq_true, eq_self, as__law_share_1, e1, as__law_draw_2, e2, e3, e4, e5, as_ratio_2, e6, as_added_2, e7, as_is_less_2, e8, cap, Bool.not_false, Bool.not_true, as__law_sums_right_3, e12, as__law_cut_right_4, e9, Bool.false_eq_true, k_rng1 (n := 40) (M := f5 :: R) (by omega), Int.reduceToNat]
          simp only [co_law_1, C_cal, C_arr, C_gl, lkK_val, pkK_own, x_cint, x_cstr, x_cbl, x_cnon, x_var, x_glob, x_fnv, x_tup, x_lst, x_bin, x_neg, x_cmp, x_chn, x_andv, x_orv, x_one, x_notv, x_ife, x_idx, x_dgt, x_slc, x_call, x_blt, x_isi, x_comp, x_dsp, x_dnew, x_get2, x_get1, k_g2a, k_g2b, k_g2c, k_g1a, k_g1b, pk_dnew, pk_get2, pk_get1, xs_nil, xs_cons, xp_nil, xp_cons, xo_non, xo_som, xt_val, xt_cmp, xt_chn, xt_not, xt_and, xt_or, xt_one, xq_nil, xq_one, xi_seq, xi_enum, xi_items, xi_zip, k_zip1, k_zipT, k_zipL, k_enuT, k_enuL, k_itm, k_seqO, x_stp, k_stp1, k_revT, k_revL, k_evnT, k_evnL, x_lnew, k_lnw, x_lrng1, x_lrng2, k_lrgT, k_lrgF, x_dcompK, x_dcompT, k_dcK, k_dcT, k_dkK, k_dtK, pk_lnew, pk_stp, pk_lrng, pk_dcomp, xi_rng1, xi_rng2, pk_own, pk_cint, pk_cstr, pk_cbl, pk_cnon, pk_var, pk_glob, pk_fnv, pk_tup, pk_lst, pk_bin, pk_neg, pk_cmp, pk_chn, pk_andv, pk_orv, pk_one, pk_notv, pk_ife, pk_idx, pk_dgt, pk_slc, pk_call, pk_blt, pk_isi, pk_comp, pk_dsp, k_tup, k_lst, k_con1, k_pcon1, k_con2, k_bin1, k_cmp1, k_chn1, k_chn2, k_chnT, k_chnF, k_chn4, k_tchn1, k_tchn2, k_tchnT, k_tchnF, k_tchn4, k_idx1, k_dgt1, k_slc1, k_slc2, k_neg, k_not, k_non, k_ifeT, k_ifeF, k_cal1, k_cal2, k_cal3, k_isi, k_intO, k_bl, k_tcmp1, k_tnot, k_tandT, k_tandF, k_torT, k_torF, k_dsp, k_seqT, k_seqL, k_comp, d_add, d_sub, d_lt, d_le, d_gt, d_ge, d_eqS, d_neS, d_eqI, d_neI, d_neNil, ob_of, ob_dk, ob_dt, ob_ls, ob_lk, look_k, look_t, dct_k, dct_t, stor_k, stor_t, stor_l, apnd_l, lst_l, lock_n, lock_l, lenD_o, getD_k, inD_o, i_obD, i_obT, i_obL, gc_len, gc_same, gc_keep, gc_new, gc_drop, gc_stk, p_gc, scp_pure, scps_pure, scp_int, scp_str, scp_bl, scp_non, scp_tup, scp_lst, scps_nil, scps_cons, d_min, d_max, d_abs, d_lenT, d_lenL, d_tupL, d_tupT, d_lstL, d_lstT, i_t0, i_l0, i_t1, i_l1, i_t2, i_l2, i_t3, i_l3, i_t4, i_l4, i_t5, i_l5, i_t6, i_l6, i_t7, i_l7, tr_bl, tr_int, tr_non, tr_tup, tr_lst, y_nil, y_cons, y_next, y_ret, y_brk, y_cnt, y_asg, y_par, y_par1, y_par2, y_ownL, y_ownK, y_ownF, y_ownC, y_ownCT, y_ownCL, y_ownFK, y_app, y_appK, y_app2, y_ext, y_extK, y_extT, y_extL, y_star, y_starK, y_row, y_aug, y_augK, y_augA, y_augT, y_augS, y_setd, y_set1, y_set2, y_set3, y_storK, y_expr, y_exprK, y_ret1, y_retK, y_retn, y_ifs, y_ifsT, y_ifsF, y_forr, y_forK, y_whil, y_pas, y_brk1, y_cnt1, y_frz, y_frzK, m_nm, m_tpT, m_tpL, g_tpL, y_appo, y_apo1, y_apo2, y_asgK, fin_ret, fin_next, g_nm, g_tp, g_nil, g_cons, of_nil, of_cons, ofS_non, ofS_val, ofS_none, wi_nil, wi_cons, q_tf, q_ta, k_andT, k_andF, k_orT, k_orF, Res.bind_ok, SRes.of_ok, Option.bind_some, List.getElem?_cons_zero, List.getElem?_cons_succ, List.set_cons_zero, List.set_cons_succ, List.length_cons, List.length_nil, if_true, if_false, Nat.reduceAdd, Nat.reduceLT, Nat.zero_add, decide_true, decide_false, Bool.not_true, Bool.not_false, not_true_eq_false, not_false_eq_true, eq_self] at cm ⊢
          simp only [cm, C_cal, C_arr, C_gl, lkK_val, pkK_own, x_cint, x_cstr, x_cbl, x_cnon, x_var, x_glob, x_fnv, x_tup, x_lst, x_bin, x_neg, x_cmp, x_chn, x_andv, x_orv, x_one, x_notv, x_ife, x_idx, x_dgt, x_slc, x_call, x_blt, x_isi, x_comp, x_dsp, x_dnew, x_get2, x_get1, k_g2a, k_g2b, k_g2c, k_g1a, k_g1b, pk_dnew, pk_get2, pk_get1, xs_nil, xs_cons, xp_nil, xp_cons, xo_non, xo_som, xt_val, xt_cmp, xt_chn, xt_not, xt_and, xt_or, xt_one, xq_nil, xq_one, xi_seq, xi_enum, xi_items, xi_zip, k_zip1, k_zipT, k_zipL, k_enuT, k_enuL, k_itm, k_seqO, x_stp, k_stp1, k_revT, k_revL, k_evnT, k_evnL, x_lnew, k_lnw, x_lrng1, x_lrng2, k_lrgT, k_lrgF, x_dcompK, x_dcompT, k_dcK, k_dcT, k_dkK, k_dtK, pk_lnew, pk_stp, pk_lrng, pk_dcomp, xi_rng1, xi_rng2, pk_own, pk_cint, pk_cstr, pk_cbl, pk_cnon, pk_var, pk_glob, pk_fnv, pk_tup, pk_lst, pk_bin, pk_neg, pk_cmp, pk_chn, pk_andv, pk_orv, pk_one, pk_notv, pk_ife, pk_idx, pk_dgt, pk_slc, pk_call, pk_blt, pk_isi, pk_comp, pk_dsp, k_tup, k_lst, k_con1, k_pcon1, k_con2, k_bin1, k_cmp1, k_chn1, k_chn2, k_chnT, k_chnF, k_chn4, k_tchn1, k_tchn2, k_tchnT, k_tchnF, k_tchn4, k_idx1, k_dgt1, k_slc1, k_slc2, k_neg, k_not, k_non, k_ifeT, k_ifeF, k_cal1, k_cal2, k_cal3, k_isi, k_intO, k_bl, k_tcmp1, k_tnot, k_tandT, k_tandF, k_torT, k_torF, k_dsp, k_seqT, k_seqL, k_comp, d_add, d_sub, d_lt, d_le, d_gt, d_ge, d_eqS, d_neS, d_eqI, d_neI, d_neNil, ob_of, ob_dk, ob_dt, ob_ls, ob_lk, look_k, look_t, dct_k, dct_t, stor_k, stor_t, stor_l, apnd_l, lst_l, lock_n, lock_l, lenD_o, getD_k, inD_o, i_obD, i_obT, i_obL, gc_len, gc_same, gc_keep, gc_new, gc_drop, gc_stk, p_gc, scp_pure, scps_pure, scp_int, scp_str, scp_bl, scp_non, scp_tup, scp_lst, scps_nil, scps_cons, d_min, d_max, d_abs, d_lenT, d_lenL, d_tupL, d_tupT, d_lstL, d_lstT, i_t0, i_l0, i_t1, i_l1, i_t2, i_l2, i_t3, i_l3, i_t4, i_l4, i_t5, i_l5, i_t6, i_l6, i_t7, i_l7, tr_bl, tr_int, tr_non, tr_tup, tr_lst, y_nil, y_cons, y_next, y_ret, y_brk, y_cnt, y_asg, y_par, y_par1, y_par2, y_ownL, y_ownK, y_ownF, y_ownC, y_ownCT, y_ownCL, y_ownFK, y_app, y_appK, y_app2, y_ext, y_extK, y_extT, y_extL, y_star, y_starK, y_row, y_aug, y_augK, y_augA, y_augT, y_augS, y_setd, y_set1, y_set2, y_set3, y_storK, y_expr, y_exprK, y_ret1, y_retK, y_retn, y_ifs, y_ifsT, y_ifsF, y_forr, y_forK, y_whil, y_pas, y_brk1, y_cnt1, y_frz, y_frzK, m_nm, m_tpT, m_tpL, g_tpL, y_appo, y_apo1, y_apo2, y_asgK, fin_ret, fin_next, g_nm, g_tp, g_nil, g_cons, of_nil, of_cons, ofS_non, ofS_val, ofS_none, wi_nil, wi_cons, q_tf, q_ta, k_andT, k_andF, k_orT, k_orF, Res.bind_ok, SRes.of_ok, Option.bind_some, List.getElem?_cons_zero, List.getElem?_cons_succ, List.set_cons_zero, List.set_cons_succ, List.length_cons, List.length_nil, if_true, if_false, Nat.reduceAdd, Nat.reduceLT, Nat.zero_add, decide_true, decide_false, Bool.not_true, Bool.not_false, not_true_eq_false, not_false_eq_true, eq_self, as_run_alone_3_ticks_land, e10, as_pace_of_2, e11, d_sumT, h40]
theorem r_feed (n : Nat) (ns : List Int) (h : ns.length ≤ 63) : cal (n + 1) i__law_feed [.lst (ns.map .int)] [] = .ok (.obj 0) [.dk [(.inr "cells", .lst (ns.map .int)), (.inr "at", .int 0), (.inr "left", .int 0), (.inr "count", .int 0)]] := by
  rw [st__law_feed]
  simp only [b__law_feed, C_cal, C_arr, C_gl, lkK_val, pkK_own, x_cint, x_cstr, x_cbl, x_cnon, x_var, x_glob, x_fnv, x_tup, x_lst, x_bin, x_neg, x_cmp, x_chn, x_andv, x_orv, x_one, x_notv, x_ife, x_idx, x_dgt, x_slc, x_call, x_blt, x_isi, x_comp, x_dsp, x_dnew, x_get2, x_get1, k_g2a, k_g2b, k_g2c, k_g1a, k_g1b, pk_dnew, pk_get2, pk_get1, xs_nil, xs_cons, xp_nil, xp_cons, xo_non, xo_som, xt_val, xt_cmp, xt_chn, xt_not, xt_and, xt_or, xt_one, xq_nil, xq_one, xi_seq, xi_enum, xi_items, xi_zip, k_zip1, k_zipT, k_zipL, k_enuT, k_enuL, k_itm, k_seqO, x_stp, k_stp1, k_revT, k_revL, k_evnT, k_evnL, x_lnew, k_lnw, x_lrng1, x_lrng2, k_lrgT, k_lrgF, x_dcompK, x_dcompT, k_dcK, k_dcT, k_dkK, k_dtK, pk_lnew, pk_stp, pk_lrng, pk_dcomp, xi_rng1, xi_rng2, pk_own, pk_cint, pk_cstr, pk_cbl, pk_cnon, pk_var, pk_glob, pk_fnv, pk_tup, pk_lst, pk_bin, pk_neg, pk_cmp, pk_chn, pk_andv, pk_orv, pk_one, pk_notv, pk_ife, pk_idx, pk_dgt, pk_slc, pk_call, pk_blt, pk_isi, pk_comp, pk_dsp, k_tup, k_lst, k_con1, k_pcon1, k_con2, k_bin1, k_cmp1, k_chn1, k_chn2, k_chnT, k_chnF, k_chn4, k_tchn1, k_tchn2, k_tchnT, k_tchnF, k_tchn4, k_idx1, k_dgt1, k_slc1, k_slc2, k_neg, k_not, k_non, k_ifeT, k_ifeF, k_cal1, k_cal2, k_cal3, k_isi, k_intO, k_bl, k_tcmp1, k_tnot, k_tandT, k_tandF, k_torT, k_torF, k_dsp, k_seqT, k_seqL, k_comp, d_add, d_sub, d_lt, d_le, d_gt, d_ge, d_eqS, d_neS, d_eqI, d_neI, d_neNil, ob_of, ob_dk, ob_dt, ob_ls, ob_lk, look_k, look_t, dct_k, dct_t, stor_k, stor_t, stor_l, apnd_l, lst_l, lock_n, lock_l, lenD_o, getD_k, inD_o, i_obD, i_obT, i_obL, gc_len, gc_same, gc_keep, gc_new, gc_drop, gc_stk, p_gc, scp_pure, scps_pure, scp_int, scp_str, scp_bl, scp_non, scp_tup, scp_lst, scps_nil, scps_cons, d_min, d_max, d_abs, d_lenT, d_lenL, d_tupL, d_tupT, d_lstL, d_lstT, i_t0, i_l0, i_t1, i_l1, i_t2, i_l2, i_t3, i_l3, i_t4, i_l4, i_t5, i_l5, i_t6, i_l6, i_t7, i_l7, tr_bl, tr_int, tr_non, tr_tup, tr_lst, y_nil, y_cons, y_next, y_ret, y_brk, y_cnt, y_asg, y_par, y_par1, y_par2, y_ownL, y_ownK, y_ownF, y_ownC, y_ownCT, y_ownCL, y_ownFK, y_app, y_appK, y_app2, y_ext, y_extK, y_extT, y_extL, y_star, y_starK, y_row, y_aug, y_augK, y_augA, y_augT, y_augS, y_setd, y_set1, y_set2, y_set3, y_storK, y_expr, y_exprK, y_ret1, y_retK, y_retn, y_ifs, y_ifsT, y_ifsF, y_forr, y_forK, y_whil, y_pas, y_brk1, y_cnt1, y_frz, y_frzK, m_nm, m_tpT, m_tpL, g_tpL, y_appo, y_apo1, y_apo2, y_asgK, fin_ret, fin_next, g_nm, g_tp, g_nil, g_cons, of_nil, of_cons, ofS_non, ofS_val, ofS_none, wi_nil, wi_cons, q_tf, q_ta, k_andT, k_andF, k_orT, k_orF, Res.bind_ok, SRes.of_ok, Option.bind_some, List.getElem?_cons_zero, List.getElem?_cons_succ, List.set_cons_zero, List.set_cons_succ, List.length_cons, List.length_nil, if_true, if_false, Nat.reduceAdd, Nat.reduceLT, Nat.zero_add, decide_true, decide_false, Bool.not_true, Bool.not_false, not_true_eq_false, not_false_eq_true, eq_self, d_63 h]
  exact gc_new (M := []) _
theorem law (ns : List Int) (h : ns.length ≤ 63) : ∃ M, cal 100 i_law [.lst (ns.map .int)] [] = .ok (.bl true) M := by
  rw [show 100 = 99 + 1 from rfl, st_law]
  generalize hf : Ob.dk [(.inr "cells", .lst (ns.map .int)), (.inr "at", .int 0), (.inr "left", .int 0), (.inr "count", .int 0)] = f0
  have F0 : Feed f0 0 := by rw [← hf]; exact Feed.new
  have fd : cal 99 i__law_feed [.lst (ns.map .int)] [] = .ok (.obj 0) [f0] := by rw [← hf]; exact r_feed 98 ns h
  obtain ⟨f1, l, u, hh, j, r, s, p, lf, gv, dn, e1⟩ := lp (R := []) 89 (.val (.lst (ns.map .int))) (iota 0 8) f0 0 .non .non .non .non .non .non .non .non .non .non F0 (by rw [iota_ln]; omega)
  refine ⟨[], ?_⟩
  simp only [E13] at e1
  simp only [b_law, C_cal, C_arr, C_gl, lkK_val, pkK_own, x_cint, x_cstr, x_cbl, x_cnon, x_var, x_glob, x_fnv, x_tup, x_lst, x_bin, x_neg, x_cmp, x_chn, x_andv, x_orv, x_one, x_notv, x_ife, x_idx, x_dgt, x_slc, x_call, x_blt, x_isi, x_comp, x_dsp, x_dnew, x_get2, x_get1, k_g2a, k_g2b, k_g2c, k_g1a, k_g1b, pk_dnew, pk_get2, pk_get1, xs_nil, xs_cons, xp_nil, xp_cons, xo_non, xo_som, xt_val, xt_cmp, xt_chn, xt_not, xt_and, xt_or, xt_one, xq_nil, xq_one, xi_seq, xi_enum, xi_items, xi_zip, k_zip1, k_zipT, k_zipL, k_enuT, k_enuL, k_itm, k_seqO, x_stp, k_stp1, k_revT, k_revL, k_evnT, k_evnL, x_lnew, k_lnw, x_lrng1, x_lrng2, k_lrgT, k_lrgF, x_dcompK, x_dcompT, k_dcK, k_dcT, k_dkK, k_dtK, pk_lnew, pk_stp, pk_lrng, pk_dcomp, xi_rng1, xi_rng2, pk_own, pk_cint, pk_cstr, pk_cbl, pk_cnon, pk_var, pk_glob, pk_fnv, pk_tup, pk_lst, pk_bin, pk_neg, pk_cmp, pk_chn, pk_andv, pk_orv, pk_one, pk_notv, pk_ife, pk_idx, pk_dgt, pk_slc, pk_call, pk_blt, pk_isi, pk_comp, pk_dsp, k_tup, k_lst, k_con1, k_pcon1, k_con2, k_bin1, k_cmp1, k_chn1, k_chn2, k_chnT, k_chnF, k_chn4, k_tchn1, k_tchn2, k_tchnT, k_tchnF, k_tchn4, k_idx1, k_dgt1, k_slc1, k_slc2, k_neg, k_not, k_non, k_ifeT, k_ifeF, k_cal1, k_cal2, k_cal3, k_isi, k_intO, k_bl, k_tcmp1, k_tnot, k_tandT, k_tandF, k_torT, k_torF, k_dsp, k_seqT, k_seqL, k_comp, d_add, d_sub, d_lt, d_le, d_gt, d_ge, d_eqS, d_neS, d_eqI, d_neI, d_neNil, ob_of, ob_dk, ob_dt, ob_ls, ob_lk, look_k, look_t, dct_k, dct_t, stor_k, stor_t, stor_l, apnd_l, lst_l, lock_n, lock_l, lenD_o, getD_k, inD_o, i_obD, i_obT, i_obL, gc_len, gc_same, gc_keep, gc_new, gc_drop, gc_stk, p_gc, scp_pure, scps_pure, scp_int, scp_str, scp_bl, scp_non, scp_tup, scp_lst, scps_nil, scps_cons, d_min, d_max, d_abs, d_lenT, d_lenL, d_tupL, d_tupT, d_lstL, d_lstT, i_t0, i_l0, i_t1, i_l1, i_t2, i_l2, i_t3, i_l3, i_t4, i_l4, i_t5, i_l5, i_t6, i_l6, i_t7, i_l7, tr_bl, tr_int, tr_non, tr_tup, tr_lst, y_nil, y_cons, y_next, y_ret, y_brk, y_cnt, y_asg, y_par, y_par1, y_par2, y_ownL, y_ownK, y_ownF, y_ownC, y_ownCT, y_ownCL, y_ownFK, y_app, y_appK, y_app2, y_ext, y_extK, y_extT, y_extL, y_star, y_starK, y_row, y_aug, y_augK, y_augA, y_augT, y_augS, y_setd, y_set1, y_set2, y_set3, y_storK, y_expr, y_exprK, y_ret1, y_retK, y_retn, y_ifs, y_ifsT, y_ifsF, y_forr, y_forK, y_whil, y_pas, y_brk1, y_cnt1, y_frz, y_frzK, m_nm, m_tpT, m_tpL, g_tpL, y_appo, y_apo1, y_apo2, y_asgK, fin_ret, fin_next, g_nm, g_tp, g_nil, g_cons, of_nil, of_cons, ofS_non, ofS_val, ofS_none, wi_nil, wi_cons, q_tf, q_ta, k_andT, k_andF, k_orT, k_orF, Res.bind_ok, SRes.of_ok, Option.bind_some, List.getElem?_cons_zero, List.getElem?_cons_succ, List.set_cons_zero, List.set_cons_succ, List.length_cons, List.length_nil, if_true, if_false, Nat.reduceAdd, Nat.reduceLT, Nat.zero_add, decide_true, decide_false, Bool.not_true, Bool.not_false, not_true_eq_false, not_false_eq_true, eq_self, as__law_feed_1, fd, k_rng1 (n := 8) (M := [f0]) (by omega), Int.reduceToNat, e1]
  exact gc_drop (M := []) (J := [f1]) (scp_bl _ _)
end
end Mp.Lw
end

section
set_option Elab.async false
set_option linter.all false
set_option maxRecDepth 100000
set_option maxHeartbeats 0
/-! the defs of law_k21_whole_pace_by_rate, checked (printed by gen.py) -/
namespace Mp.Lw
open PySem PySem.Spec L2
open Mp (Fn G S E T Ts)
def topS (i : Nat) : Stmt := PySem.Challenge.pw_tenanthall_k21_whole_pace_by_rate.main.body.getD i (.Pass ⟨0, 0, 0, 0⟩)
theorem dt0 : DefT txt shs 0 "is_whole" (topS 1) f_is_whole := ⟨⟨["thing"], ["thing"], ⟨rfl, rfl, rfl, by decide +kernel, rfl, by decide +kernel, by decide +kernel⟩, rfl, rfl, by decide +kernel, fun sh s h => match sh, h with
    | 0, h => by
      cases h
      exact ⟨fun kV doc pm an cdv ct D us mv ws _ h1 h2 h3 => match us, mv, ws, h1, h2, h3 with | [_], [], [], _, _, _ => rfl, fun _ => ⟨rfl, rfl⟩⟩
    | n + 1, h => by cases h⟩⟩
theorem dt1 : DefT txt shs 1 "is_number" (topS 2) f_is_number := ⟨⟨["thing"], ["thing"], ⟨rfl, rfl, rfl, by decide +kernel, rfl, by decide +kernel, by decide +kernel⟩, rfl, rfl, by decide +kernel, fun sh s h => match sh, h with
    | 0, h => by
      cases h
      exact ⟨fun kV doc pm an cdv ct D us mv ws _ h1 h2 h3 => match us, mv, ws, h1, h2, h3 with | [_], [], [], _, _, _ => rfl, fun _ => ⟨rfl, rfl⟩⟩
    | n + 1, h => by cases h⟩⟩
theorem dt2 : DefT txt shs 2 "ratio" (topS 5) f_ratio := ⟨⟨["over", "under", "one", "other"], ["over", "under"], ⟨rfl, rfl, rfl, by decide +kernel, rfl, by decide +kernel, by decide +kernel⟩, rfl, rfl, by decide +kernel, fun sh s h => match sh, h with
    | 0, h => by
      cases h
      exact ⟨fun kV doc pm an cdv ct D us mv ws _ h1 h2 h3 => match us, mv, ws, h1, h2, h3 with | [_, _], [], [], _, _, _ => rfl, fun _ => ⟨rfl, rfl⟩⟩
    | n + 1, h => by cases h⟩⟩
theorem dt3 : DefT txt shs 3 "added" (topS 6) f_added := ⟨⟨["one", "other"], ["one", "other"], ⟨rfl, rfl, rfl, by decide +kernel, rfl, by decide +kernel, by decide +kernel⟩, rfl, rfl, by decide +kernel, fun sh s h => match sh, h with
    | 0, h => by
      cases h
      exact ⟨fun kV doc pm an cdv ct D us mv ws _ h1 h2 h3 => match us, mv, ws, h1, h2, h3 with | [_, _], [], [], _, _, _ => rfl, fun _ => ⟨rfl, rfl⟩⟩
    | n + 1, h => by cases h⟩⟩
theorem dt4 : DefT txt shs 4 "is_less" (topS 7) f_is_less := ⟨⟨["one", "other"], ["one", "other"], ⟨rfl, rfl, rfl, by decide +kernel, rfl, by decide +kernel, by decide +kernel⟩, rfl, rfl, by decide +kernel, fun sh s h => match sh, h with
    | 0, h => by
      cases h
      exact ⟨fun kV doc pm an cdv ct D us mv ws _ h1 h2 h3 => match us, mv, ws, h1, h2, h3 with | [_, _], [], [], _, _, _ => rfl, fun _ => ⟨rfl, rfl⟩⟩
    | n + 1, h => by cases h⟩⟩
theorem dt5 : DefT txt shs 5 "lesser" (topS 8) f_lesser := ⟨⟨["one", "other"], ["one", "other"], ⟨rfl, rfl, rfl, by decide +kernel, rfl, by decide +kernel, by decide +kernel⟩, rfl, rfl, by decide +kernel, fun sh s h => match sh, h with
    | 0, h => by
      cases h
      exact ⟨fun kV doc pm an cdv ct D us mv ws _ h1 h2 h3 => match us, mv, ws, h1, h2, h3 with | [_, _], [], [], _, _, _ => rfl, fun _ => ⟨rfl, rfl⟩⟩
    | n + 1, h => by cases h⟩⟩
theorem dt6 : DefT txt shs 6 "wholes" (topS 9) f_wholes := ⟨⟨["fraction"], ["fraction"], ⟨rfl, rfl, rfl, by decide +kernel, rfl, by decide +kernel, by decide +kernel⟩, rfl, rfl, by decide +kernel, fun sh s h => match sh, h with
    | 0, h => by
      cases h
      exact ⟨fun kV doc pm an cdv ct D us mv ws _ h1 h2 h3 => match us, mv, ws, h1, h2, h3 with | [_], [], [], _, _, _ => rfl, fun _ => ⟨rfl, rfl⟩⟩
    | n + 1, h => by cases h⟩⟩
theorem dt7 : DefT txt shs 7 "grown" (topS 10) f_grown := ⟨⟨["tokens", "share"], ["tokens", "share"], ⟨rfl, rfl, rfl, by decide +kernel, rfl, by decide +kernel, by decide +kernel⟩, rfl, rfl, by decide +kernel, fun sh s h => match sh, h with
    | 0, h => by
      cases h
      exact ⟨fun kV doc pm an cdv ct D us mv ws _ h1 h2 h3 => match us, mv, ws, h1, h2, h3 with | [_, _], [], [], _, _, _ => rfl, fun _ => ⟨rfl, rfl⟩⟩
    | n + 1, h => by cases h⟩⟩
theorem dt8 : DefT txt shs 8 "paid" (topS 11) f_paid := ⟨⟨["tokens", "cost", "many"], ["tokens", "cost"], ⟨rfl, rfl, rfl, by decide +kernel, rfl, by decide +kernel, by decide +kernel⟩, rfl, rfl, by decide +kernel, fun sh s h => match sh, h with
    | 0, h => by
      cases h
      exact ⟨fun kV doc pm an cdv ct D us mv ws _ h1 h2 h3 => match us, mv, ws, h1, h2, h3 with | [_, _], [], [], _, _, _ => rfl, fun _ => ⟨rfl, rfl⟩⟩
    | n + 1, h => by cases h⟩⟩
theorem dt9 : DefT txt shs 9 "pace_of" (topS 12) f_pace_of := ⟨⟨["share", "ticks", "tokens", "found", "tick", "many"], ["share", "ticks", "tokens"], ⟨rfl, rfl, rfl, by decide +kernel, rfl, by decide +kernel, by decide +kernel⟩, rfl, rfl, by decide +kernel, fun sh s h => match sh, h with
    | 0, h => by
      cases h
      exact ⟨fun kV doc pm an cdv ct D us mv ws _ h1 h2 h3 => match us, mv, ws, h1, h2, h3 with | [_, _], [], [_], _, _, _ => rfl, fun z => nomatch z⟩
    | 1, h => by
      cases h
      exact ⟨fun kV doc pm an cdv ct D us mv ws hD h1 h2 h3 => by
      cases hD (by decide)
      exact match us, mv, ws, h1, h2, h3 with | [_, _], [_], [], _, _, _ => ⟨_, _, _, _, _, _, rfl, rfl, rfl⟩, fun _ => ⟨rfl, rfl⟩⟩
    | n + 2, h => by cases h⟩⟩
theorem dt10 : DefT txt shs 10 "ticks_by" (topS 14) f_ticks_by := ⟨⟨["rules", "word", "land", "rule"], ["rules", "word", "land"], ⟨rfl, rfl, rfl, by decide +kernel, rfl, by decide +kernel, by decide +kernel⟩, rfl, rfl, by decide +kernel, fun sh s h => match sh, h with
    | 0, h => by
      cases h
      exact ⟨fun kV doc pm an cdv ct D us mv ws _ h1 h2 h3 => match us, mv, ws, h1, h2, h3 with | [_, _, _], [], [], _, _, _ => rfl, fun _ => ⟨rfl, rfl⟩⟩
    | n + 1, h => by cases h⟩⟩
theorem dt11 : DefT txt shs 11 "is_kept" (topS 15) f_is_kept := ⟨⟨["row", "rules", "tick", "ticks"], ["row", "rules", "tick"], ⟨rfl, rfl, rfl, by decide +kernel, rfl, by decide +kernel, by decide +kernel⟩, rfl, rfl, by decide +kernel, fun sh s h => match sh, h with
    | 0, h => by
      cases h
      exact ⟨fun kV doc pm an cdv ct D us mv ws _ h1 h2 h3 => match us, mv, ws, h1, h2, h3 with | [_, _, _], [], [], _, _, _ => rfl, fun _ => ⟨rfl, rfl⟩⟩
    | n + 1, h => by cases h⟩⟩
theorem dt12 : DefT txt shs 12 "is_due" (topS 16) f_is_due := ⟨⟨["row", "rules", "tick", "ticks"], ["row", "rules", "tick"], ⟨rfl, rfl, rfl, by decide +kernel, rfl, by decide +kernel, by decide +kernel⟩, rfl, rfl, by decide +kernel, fun sh s h => match sh, h with
    | 0, h => by
      cases h
      exact ⟨fun kV doc pm an cdv ct D us mv ws _ h1 h2 h3 => match us, mv, ws, h1, h2, h3 with | [_, _, _], [], [], _, _, _ => rfl, fun _ => ⟨rfl, rfl⟩⟩
    | n + 1, h => by cases h⟩⟩
theorem dt13 : DefT txt shs 13 "store_struck" (topS 17) f_store_struck := ⟨⟨["store", "rules", "tick", "found", "table", "following", "rows", "indexes", "row"], ["store", "rules", "tick"], ⟨rfl, rfl, rfl, by decide +kernel, rfl, by decide +kernel, by decide +kernel⟩, rfl, rfl, by decide +kernel, fun sh s h => match sh, h with
    | 0, h => by
      cases h
      exact ⟨fun kV doc pm an cdv ct D us mv ws _ h1 h2 h3 => match us, mv, ws, h1, h2, h3 with | [_], [], [_, _], _, _, _ => rfl, fun z => nomatch z⟩
    | n + 1, h => by cases h⟩⟩
theorem dt14 : DefT txt shs 14 "tables_of" (topS 20) f_tables_of := ⟨⟨["store", "parts"], ["store"], ⟨rfl, rfl, rfl, by decide +kernel, rfl, by decide +kernel, by decide +kernel⟩, rfl, rfl, by decide +kernel, fun sh s h => match sh, h with
    | 0, h => by
      cases h
      exact ⟨fun kV doc pm an cdv ct D us mv ws _ h1 h2 h3 => match us, mv, ws, h1, h2, h3 with | [_], [], [], _, _, _ => rfl, fun _ => ⟨rfl, rfl⟩⟩
    | n + 1, h => by cases h⟩⟩
theorem dt15 : DefT txt shs 15 "parts_of" (topS 21) f_parts_of := ⟨⟨["store", "table", "own", "following", "rows", "indexes"], ["store", "table"], ⟨rfl, rfl, rfl, by decide +kernel, rfl, by decide +kernel, by decide +kernel⟩, rfl, rfl, by decide +kernel, fun sh s h => match sh, h with
    | 0, h => by
      cases h
      exact ⟨fun kV doc pm an cdv ct D us mv ws _ h1 h2 h3 => match us, mv, ws, h1, h2, h3 with | [_, _], [], [], _, _, _ => rfl, fun _ => ⟨rfl, rfl⟩⟩
    | n + 1, h => by cases h⟩⟩
theorem dt16 : DefT txt shs 16 "rows_of" (topS 22) f_rows_of := ⟨⟨["store", "table"], ["store", "table"], ⟨rfl, rfl, rfl, by decide +kernel, rfl, by decide +kernel, by decide +kernel⟩, rfl, rfl, by decide +kernel, fun sh s h => match sh, h with
    | 0, h => by
      cases h
      exact ⟨fun kV doc pm an cdv ct D us mv ws _ h1 h2 h3 => match us, mv, ws, h1, h2, h3 with | [_, _], [], [], _, _, _ => rfl, fun _ => ⟨rfl, rfl⟩⟩
    | n + 1, h => by cases h⟩⟩
theorem dt17 : DefT txt shs 17 "indexes_of" (topS 23) f_indexes_of := ⟨⟨["store", "table"], ["store", "table"], ⟨rfl, rfl, rfl, by decide +kernel, rfl, by decide +kernel, by decide +kernel⟩, rfl, rfl, by decide +kernel, fun sh s h => match sh, h with
    | 0, h => by
      cases h
      exact ⟨fun kV doc pm an cdv ct D us mv ws _ h1 h2 h3 => match us, mv, ws, h1, h2, h3 with | [_, _], [], [], _, _, _ => rfl, fun _ => ⟨rfl, rfl⟩⟩
    | n + 1, h => by cases h⟩⟩
theorem dt18 : DefT txt shs 18 "row_of" (topS 24) f_row_of := ⟨⟨["store", "table", "id_told", "row"], ["store", "table", "id_told"], ⟨rfl, rfl, rfl, by decide +kernel, rfl, by decide +kernel, by decide +kernel⟩, rfl, rfl, by decide +kernel, fun sh s h => match sh, h with
    | 0, h => by
      cases h
      exact ⟨fun kV doc pm an cdv ct D us mv ws _ h1 h2 h3 => match us, mv, ws, h1, h2, h3 with | [_, _, _], [], [], _, _, _ => rfl, fun _ => ⟨rfl, rfl⟩⟩
    | n + 1, h => by cases h⟩⟩
theorem dt19 : DefT txt shs 19 "with_parts" (topS 25) f_with_parts := ⟨⟨["store", "table", "parts", "found", "own", "following", "rows", "indexes"], ["store", "table", "parts"], ⟨rfl, rfl, rfl, by decide +kernel, rfl, by decide +kernel, by decide +kernel⟩, rfl, rfl, by decide +kernel, fun sh s h => match sh, h with
    | 0, h => by
      cases h
      exact ⟨fun kV doc pm an cdv ct D us mv ws _ h1 h2 h3 => match us, mv, ws, h1, h2, h3 with | [_, _, _], [], [], _, _, _ => rfl, fun _ => ⟨rfl, rfl⟩⟩
    | n + 1, h => by cases h⟩⟩
theorem dt20 : DefT txt shs 20 "with_rows" (topS 26) f_with_rows := ⟨⟨["store", "table", "rows", "parts"], ["store", "table", "rows"], ⟨rfl, rfl, rfl, by decide +kernel, rfl, by decide +kernel, by decide +kernel⟩, rfl, rfl, by decide +kernel, fun sh s h => match sh, h with
    | 0, h => by
      cases h
      exact ⟨fun kV doc pm an cdv ct D us mv ws _ h1 h2 h3 => match us, mv, ws, h1, h2, h3 with | [_, _, _], [], [], _, _, _ => rfl, fun _ => ⟨rfl, rfl⟩⟩
    | n + 1, h => by cases h⟩⟩
theorem dt21 : DefT txt shs 21 "meets_one" (topS 28) f_meets_one := ⟨⟨["row", "cond", "own", "k", "sign", "value"], ["row", "cond"], ⟨rfl, rfl, rfl, by decide +kernel, rfl, by decide +kernel, by decide +kernel⟩, rfl, rfl, by decide +kernel, fun sh s h => match sh, h with
    | 0, h => by
      cases h
      exact ⟨fun kV doc pm an cdv ct D us mv ws _ h1 h2 h3 => match us, mv, ws, h1, h2, h3 with | [_, _], [], [], _, _, _ => rfl, fun _ => ⟨rfl, rfl⟩⟩
    | n + 1, h => by cases h⟩⟩
theorem dt22 : DefT txt shs 22 "meets" (topS 29) f_meets := ⟨⟨["row", "conds", "cond"], ["row", "conds"], ⟨rfl, rfl, rfl, by decide +kernel, rfl, by decide +kernel, by decide +kernel⟩, rfl, rfl, by decide +kernel, fun sh s h => match sh, h with
    | 0, h => by
      cases h
      exact ⟨fun kV doc pm an cdv ct D us mv ws _ h1 h2 h3 => match us, mv, ws, h1, h2, h3 with | [_, _], [], [], _, _, _ => rfl, fun _ => ⟨rfl, rfl⟩⟩
    | n + 1, h => by cases h⟩⟩
theorem dt23 : DefT txt shs 23 "meeting" (topS 30) f_meeting := ⟨⟨["store", "table", "conds", "row"], ["store", "table", "conds"], ⟨rfl, rfl, rfl, by decide +kernel, rfl, by decide +kernel, by decide +kernel⟩, rfl, rfl, by decide +kernel, fun sh s h => match sh, h with
    | 0, h => by
      cases h
      exact ⟨fun kV doc pm an cdv ct D us mv ws _ h1 h2 h3 => match us, mv, ws, h1, h2, h3 with | [_, _, _], [], [], _, _, _ => rfl, fun _ => ⟨rfl, rfl⟩⟩
    | n + 1, h => by cases h⟩⟩
theorem dt24 : DefT txt shs 24 "sum_of" (topS 32) f_sum_of := ⟨⟨["rows", "k", "row"], ["rows", "k"], ⟨rfl, rfl, rfl, by decide +kernel, rfl, by decide +kernel, by decide +kernel⟩, rfl, rfl, by decide +kernel, fun sh s h => match sh, h with
    | 0, h => by
      cases h
      exact ⟨fun kV doc pm an cdv ct D us mv ws _ h1 h2 h3 => match us, mv, ws, h1, h2, h3 with | [_, _], [], [], _, _, _ => rfl, fun _ => ⟨rfl, rfl⟩⟩
    | n + 1, h => by cases h⟩⟩
theorem dt25 : DefT txt shs 25 "answered_of" (topS 33) f_answered_of := ⟨⟨["ask", "rows", "found", "word", "table", "rest", "row"], ["ask", "rows"], ⟨rfl, rfl, rfl, by decide +kernel, rfl, by decide +kernel, by decide +kernel⟩, rfl, rfl, by decide +kernel, fun sh s h => match sh, h with
    | 0, h => by
      cases h
      exact ⟨fun kV doc pm an cdv ct D us mv ws _ h1 h2 h3 => match us, mv, ws, h1, h2, h3 with | [_, _], [], [], _, _, _ => rfl, fun _ => ⟨rfl, rfl⟩⟩
    | n + 1, h => by cases h⟩⟩
theorem dt26 : DefT txt shs 26 "answered_at" (topS 34) f_answered_at := ⟨⟨["store", "ask", "worths", "word", "table", "number", "link", "other", "place", "rest"], ["store", "ask"], ⟨rfl, rfl, rfl, by decide +kernel, rfl, by decide +kernel, by decide +kernel⟩, rfl, rfl, by decide +kernel, fun sh s h => match sh, h with
    | 0, h => by
      cases h
      exact ⟨fun kV doc pm an cdv ct D us mv ws _ h1 h2 h3 => match us, mv, ws, h1, h2, h3 with | [_, _], [], [], _, _, _ => rfl, fun _ => ⟨rfl, rfl⟩⟩
    | n + 1, h => by cases h⟩⟩
theorem dt27 : DefT txt shs 27 "put_done" (topS 36) f_put_done := ⟨⟨["store", "deed", "tick", "row", "word", "table", "land", "worths", "following", "rows", "indexes"], ["store", "deed", "tick"], ⟨rfl, rfl, rfl, by decide +kernel, rfl, by decide +kernel, by decide +kernel⟩, rfl, rfl, by decide +kernel, fun sh s h => match sh, h with
    | 0, h => by
      cases h
      exact ⟨fun kV doc pm an cdv ct D us mv ws _ h1 h2 h3 => match us, mv, ws, h1, h2, h3 with | [_, _, _], [], [], _, _, _ => rfl, fun _ => ⟨rfl, rfl⟩⟩
    | n + 1, h => by cases h⟩⟩
theorem dt28 : DefT txt shs 28 "turned_done" (topS 37) f_turned_done := ⟨⟨["store", "deed", "row", "value", "newer", "word", "table", "number", "k", "more", "one"], ["store", "deed"], ⟨rfl, rfl, rfl, by decide +kernel, rfl, by decide +kernel, by decide +kernel⟩, rfl, rfl, by decide +kernel, fun sh s h => match sh, h with
    | 0, h => by
      cases h
      exact ⟨fun kV doc pm an cdv ct D us mv ws _ h1 h2 h3 => match us, mv, ws, h1, h2, h3 with | [_, _], [], [], _, _, _ => rfl, fun _ => ⟨rfl, rfl⟩⟩
    | n + 1, h => by cases h⟩⟩
theorem dt29 : DefT txt shs 29 "drop_done" (topS 38) f_drop_done := ⟨⟨["store", "deed", "word", "table", "number", "row"], ["store", "deed"], ⟨rfl, rfl, rfl, by decide +kernel, rfl, by decide +kernel, by decide +kernel⟩, rfl, rfl, by decide +kernel, fun sh s h => match sh, h with
    | 0, h => by
      cases h
      exact ⟨fun kV doc pm an cdv ct D us mv ws _ h1 h2 h3 => match us, mv, ws, h1, h2, h3 with | [_, _], [], [], _, _, _ => rfl, fun _ => ⟨rfl, rfl⟩⟩
    | n + 1, h => by cases h⟩⟩
theorem dt30 : DefT txt shs 30 "index_done" (topS 39) f_index_done := ⟨⟨["store", "deed", "more", "word", "table", "k", "following", "rows", "indexes"], ["store", "deed"], ⟨rfl, rfl, rfl, by decide +kernel, rfl, by decide +kernel, by decide +kernel⟩, rfl, rfl, by decide +kernel, fun sh s h => match sh, h with
    | 0, h => by
      cases h
      exact ⟨fun kV doc pm an cdv ct D us mv ws _ h1 h2 h3 => match us, mv, ws, h1, h2, h3 with | [_, _], [], [], _, _, _ => rfl, fun _ => ⟨rfl, rfl⟩⟩
    | n + 1, h => by cases h⟩⟩
theorem dt31 : DefT txt shs 31 "deed_done" (topS 40) f_deed_done := ⟨⟨["store", "deed", "tick"], ["store", "deed", "tick"], ⟨rfl, rfl, rfl, by decide +kernel, rfl, by decide +kernel, by decide +kernel⟩, rfl, rfl, by decide +kernel, fun sh s h => match sh, h with
    | 0, h => by
      cases h
      exact ⟨fun kV doc pm an cdv ct D us mv ws _ h1 h2 h3 => match us, mv, ws, h1, h2, h3 with | [_, _, _], [], [], _, _, _ => rfl, fun _ => ⟨rfl, rfl⟩⟩
    | n + 1, h => by cases h⟩⟩
theorem dt32 : DefT txt shs 32 "worth_refusal" (topS 44) f_worth_refusal := ⟨⟨["store", "job", "row", "own", "word", "table", "number", "k", "rest"], ["store", "job", "row"], ⟨rfl, rfl, rfl, by decide +kernel, rfl, by decide +kernel, by decide +kernel⟩, rfl, rfl, by decide +kernel, fun sh s h => match sh, h with
    | 0, h => by
      cases h
      exact ⟨fun kV doc pm an cdv ct D us mv ws _ h1 h2 h3 => match us, mv, ws, h1, h2, h3 with | [_, _, _], [], [], _, _, _ => rfl, fun _ => ⟨rfl, rfl⟩⟩
    | n + 1, h => by cases h⟩⟩
theorem dt33 : DefT txt shs 33 "row_refusal" (topS 45) f_row_refusal := ⟨⟨["store", "job", "row"], ["store", "job"], ⟨rfl, rfl, rfl, by decide +kernel, rfl, by decide +kernel, by decide +kernel⟩, rfl, rfl, by decide +kernel, fun sh s h => match sh, h with
    | 0, h => by
      cases h
      exact ⟨fun kV doc pm an cdv ct D us mv ws _ h1 h2 h3 => match us, mv, ws, h1, h2, h3 with | [_, _], [], [], _, _, _ => rfl, fun _ => ⟨rfl, rfl⟩⟩
    | n + 1, h => by cases h⟩⟩
theorem dt34 : DefT txt shs 34 "rule_refusal" (topS 46) f_rule_refusal := ⟨⟨["store", "job", "tick", "land", "rules"], ["store", "job", "tick", "land", "rules"], ⟨rfl, rfl, rfl, by decide +kernel, rfl, by decide +kernel, by decide +kernel⟩, rfl, rfl, by decide +kernel, fun sh s h => match sh, h with
    | 0, h => by
      cases h
      exact ⟨fun kV doc pm an cdv ct D us mv ws _ h1 h2 h3 => match us, mv, ws, h1, h2, h3 with | [_, _, _, _, _], [], [], _, _, _ => rfl, fun _ => ⟨rfl, rfl⟩⟩
    | n + 1, h => by cases h⟩⟩
theorem dt35 : DefT txt shs 35 "refusal_of" (topS 47) f_refusal_of := ⟨⟨["store", "job", "tick", "land", "rules", "found"], ["store", "job", "tick", "land", "rules"], ⟨rfl, rfl, rfl, by decide +kernel, rfl, by decide +kernel, by decide +kernel⟩, rfl, rfl, by decide +kernel, fun sh s h => match sh, h with
    | 0, h => by
      cases h
      exact ⟨fun kV doc pm an cdv ct D us mv ws _ h1 h2 h3 => match us, mv, ws, h1, h2, h3 with | [_, _, _, _, _], [], [], _, _, _ => rfl, fun _ => ⟨rfl, rfl⟩⟩
    | n + 1, h => by cases h⟩⟩
theorem dt36 : DefT txt shs 36 "done_job" (topS 51) f_done_job := ⟨⟨["store", "job", "tick", "land", "rules", "word"], ["store", "job", "tick", "land", "rules"], ⟨rfl, rfl, rfl, by decide +kernel, rfl, by decide +kernel, by decide +kernel⟩, rfl, rfl, by decide +kernel, fun sh s h => match sh, h with
    | 0, h => by
      cases h
      exact ⟨fun kV doc pm an cdv ct D us mv ws _ h1 h2 h3 => match us, mv, ws, h1, h2, h3 with | [_, _], [], [_, _, _], _, _, _ => rfl, fun z => nomatch z⟩
    | n + 1, h => by cases h⟩⟩
theorem dt37 : DefT txt shs 37 "conds_of" (topS 54) f_conds_of := ⟨⟨["ask"], ["ask"], ⟨rfl, rfl, rfl, by decide +kernel, rfl, by decide +kernel, by decide +kernel⟩, rfl, rfl, by decide +kernel, fun sh s h => match sh, h with
    | 0, h => by
      cases h
      exact ⟨fun kV doc pm an cdv ct D us mv ws _ h1 h2 h3 => match us, mv, ws, h1, h2, h3 with | [_], [], [], _, _, _ => rfl, fun _ => ⟨rfl, rfl⟩⟩
    | n + 1, h => by cases h⟩⟩
theorem dt38 : DefT txt shs 38 "index_at" (topS 55) f_index_at := ⟨⟨["store", "ask", "number", "k", "sign", "value"], ["store", "ask"], ⟨rfl, rfl, rfl, by decide +kernel, rfl, by decide +kernel, by decide +kernel⟩, rfl, rfl, by decide +kernel, fun sh s h => match sh, h with
    | 0, h => by
      cases h
      exact ⟨fun kV doc pm an cdv ct D us mv ws _ h1 h2 h3 => match us, mv, ws, h1, h2, h3 with | [_, _], [], [], _, _, _ => rfl, fun _ => ⟨rfl, rfl⟩⟩
    | n + 1, h => by cases h⟩⟩
theorem dt39 : DefT txt shs 39 "looked_at" (topS 56) f_looked_at := ⟨⟨["store", "ask", "by", "conds"], ["store", "ask"], ⟨rfl, rfl, rfl, by decide +kernel, rfl, by decide +kernel, by decide +kernel⟩, rfl, rfl, by decide +kernel, fun sh s h => match sh, h with
    | 0, h => by
      cases h
      exact ⟨fun kV doc pm an cdv ct D us mv ws _ h1 h2 h3 => match us, mv, ws, h1, h2, h3 with | [_, _], [], [], _, _, _ => rfl, fun _ => ⟨rfl, rfl⟩⟩
    | n + 1, h => by cases h⟩⟩
theorem dt40 : DefT txt shs 40 "linked_row" (topS 57) f_linked_row := ⟨⟨["store", "row", "k", "own"], ["store", "row", "k"], ⟨rfl, rfl, rfl, by decide +kernel, rfl, by decide +kernel, by decide +kernel⟩, rfl, rfl, by decide +kernel, fun sh s h => match sh, h with
    | 0, h => by
      cases h
      exact ⟨fun kV doc pm an cdv ct D us mv ws _ h1 h2 h3 => match us, mv, ws, h1, h2, h3 with | [_, _, _], [], [], _, _, _ => rfl, fun _ => ⟨rfl, rfl⟩⟩
    | n + 1, h => by cases h⟩⟩
theorem dt41 : DefT txt shs 41 "measure_of" (topS 58) f_measure_of := ⟨⟨["store", "job", "row", "word", "table", "rest"], ["store", "job"], ⟨rfl, rfl, rfl, by decide +kernel, rfl, by decide +kernel, by decide +kernel⟩, rfl, rfl, by decide +kernel, fun sh s h => match sh, h with
    | 0, h => by
      cases h
      exact ⟨fun kV doc pm an cdv ct D us mv ws _ h1 h2 h3 => match us, mv, ws, h1, h2, h3 with | [_, _], [], [], _, _, _ => rfl, fun _ => ⟨rfl, rfl⟩⟩
    | n + 1, h => by cases h⟩⟩
theorem dt42 : DefT txt shs 42 "life_of" (topS 60) f_life_of := ⟨⟨["store"], ["store"], ⟨rfl, rfl, rfl, by decide +kernel, rfl, by decide +kernel, by decide +kernel⟩, rfl, rfl, by decide +kernel, fun sh s h => match sh, h with
    | 0, h => by
      cases h
      exact ⟨fun kV doc pm an cdv ct D us mv ws _ h1 h2 h3 => match us, mv, ws, h1, h2, h3 with | [_], [], [], _, _, _ => rfl, fun _ => ⟨rfl, rfl⟩⟩
    | n + 1, h => by cases h⟩⟩
theorem dt43 : DefT txt shs 43 "handed_in" (topS 61) f_handed_in := ⟨⟨["life", "job", "store", "queue", "tokens", "owed", "later"], ["life", "job"], ⟨rfl, rfl, rfl, by decide +kernel, rfl, by decide +kernel, by decide +kernel⟩, rfl, rfl, by decide +kernel, fun sh s h => match sh, h with
    | 0, h => by
      cases h
      exact ⟨fun kV doc pm an cdv ct D us mv ws _ h1 h2 h3 => match us, mv, ws, h1, h2, h3 with | [_, _], [], [], _, _, _ => rfl, fun _ => ⟨rfl, rfl⟩⟩
    | n + 1, h => by cases h⟩⟩
theorem dt44 : DefT txt shs 44 "with_tokens" (topS 62) f_with_tokens := ⟨⟨["life", "tokens"], ["life", "tokens"], ⟨rfl, rfl, rfl, by decide +kernel, rfl, by decide +kernel, by decide +kernel⟩, rfl, rfl, by decide +kernel, fun sh s h => match sh, h with
    | 0, h => by
      cases h
      exact ⟨fun kV doc pm an cdv ct D us mv ws _ h1 h2 h3 => match us, mv, ws, h1, h2, h3 with | [_, _], [], [], _, _, _ => rfl, fun _ => ⟨rfl, rfl⟩⟩
    | n + 1, h => by cases h⟩⟩
theorem dt45 : DefT txt shs 45 "with_store" (topS 63) f_with_store := ⟨⟨["life", "store"], ["life", "store"], ⟨rfl, rfl, rfl, by decide +kernel, rfl, by decide +kernel, by decide +kernel⟩, rfl, rfl, by decide +kernel, fun sh s h => match sh, h with
    | 0, h => by
      cases h
      exact ⟨fun kV doc pm an cdv ct D us mv ws _ h1 h2 h3 => match us, mv, ws, h1, h2, h3 with | [_, _], [], [], _, _, _ => rfl, fun _ => ⟨rfl, rfl⟩⟩
    | n + 1, h => by cases h⟩⟩
theorem dt46 : DefT txt shs 46 "begun_cost" (topS 64) f_begun_cost := ⟨⟨["life", "store", "queue", "tokens", "owed", "later"], ["life"], ⟨rfl, rfl, rfl, by decide +kernel, rfl, by decide +kernel, by decide +kernel⟩, rfl, rfl, by decide +kernel, fun sh s h => match sh, h with
    | 0, h => by
      cases h
      exact ⟨fun kV doc pm an cdv ct D us mv ws _ h1 h2 h3 => match us, mv, ws, h1, h2, h3 with | [_], [], [], _, _, _ => rfl, fun _ => ⟨rfl, rfl⟩⟩
    | n + 1, h => by cases h⟩⟩
theorem dt47 : DefT txt shs 47 "first_done" (topS 65) f_first_done := ⟨⟨["life", "tick", "land", "rules", "store", "queue", "tokens", "owed", "later", "number", "job", "told"], ["life", "tick", "land", "rules"], ⟨rfl, rfl, rfl, by decide +kernel, rfl, by decide +kernel, by decide +kernel⟩, rfl, rfl, by decide +kernel, fun sh s h => match sh, h with
    | 0, h => by
      cases h
      exact ⟨fun kV doc pm an cdv ct D us mv ws _ h1 h2 h3 => match us, mv, ws, h1, h2, h3 with | [_], [], [_, _, _], _, _, _ => rfl, fun z => nomatch z⟩
    | n + 1, h => by cases h⟩⟩
theorem dt48 : DefT txt shs 48 "sliced" (topS 66) f_sliced := ⟨⟨["life", "many", "tick", "land", "rules", "given", "dones", "owed", "cost", "tokens", "own", "row"], ["life", "many", "tick", "land", "rules"], ⟨rfl, rfl, rfl, by decide +kernel, rfl, by decide +kernel, by decide +kernel⟩, rfl, rfl, by decide +kernel, fun sh s h => match sh, h with
    | 0, h => by
      cases h
      exact ⟨fun kV doc pm an cdv ct D us mv ws _ h1 h2 h3 => match us, mv, ws, h1, h2, h3 with | [_, _], [], [_, _, _], _, _, _ => rfl, fun z => nomatch z⟩
    | n + 1, h => by cases h⟩⟩
theorem dt49 : DefT txt shs 49 "life_grown" (topS 68) f_life_grown := ⟨⟨["life", "share"], ["life", "share"], ⟨rfl, rfl, rfl, by decide +kernel, rfl, by decide +kernel, by decide +kernel⟩, rfl, rfl, by decide +kernel, fun sh s h => match sh, h with
    | 0, h => by
      cases h
      exact ⟨fun kV doc pm an cdv ct D us mv ws _ h1 h2 h3 => match us, mv, ws, h1, h2, h3 with | [_, _], [], [], _, _, _ => rfl, fun _ => ⟨rfl, rfl⟩⟩
    | n + 1, h => by cases h⟩⟩
theorem dt50 : DefT txt shs 50 "life_struck" (topS 69) f_life_struck := ⟨⟨["life", "tick", "rules"], ["life", "tick", "rules"], ⟨rfl, rfl, rfl, by decide +kernel, rfl, by decide +kernel, by decide +kernel⟩, rfl, rfl, by decide +kernel, fun sh s h => match sh, h with
    | 0, h => by
      cases h
      exact ⟨fun kV doc pm an cdv ct D us mv ws _ h1 h2 h3 => match us, mv, ws, h1, h2, h3 with | [_], [], [_, _], _, _, _ => rfl, fun z => nomatch z⟩
    | n + 1, h => by cases h⟩⟩
theorem dt51 : DefT txt shs 51 "tick_alone" (topS 70) f_tick_alone := ⟨⟨["life", "share", "tick", "land", "rules", "later", "given", "dones"], ["life", "share", "tick", "land", "rules"], ⟨rfl, rfl, rfl, by decide +kernel, rfl, by decide +kernel, by decide +kernel⟩, rfl, rfl, by decide +kernel, fun sh s h => match sh, h with
    | 0, h => by
      cases h
      exact ⟨fun kV doc pm an cdv ct D us mv ws _ h1 h2 h3 => match us, mv, ws, h1, h2, h3 with | [_, _], [], [_, _, _], _, _, _ => rfl, fun z => nomatch z⟩
    | n + 1, h => by cases h⟩⟩
theorem dt52 : DefT txt shs 52 "run_alone" (topS 71) f_run_alone := ⟨⟨["store", "share", "handed", "ticks", "land", "rules", "tick", "life", "givens", "found", "own_tick", "job", "given", "dones"], ["store", "share", "handed", "ticks", "land", "rules"], ⟨rfl, rfl, rfl, by decide +kernel, rfl, by decide +kernel, by decide +kernel⟩, rfl, rfl, by decide +kernel, fun sh s h => match sh, h with
    | 0, h => by
      cases h
      exact ⟨fun kV doc pm an cdv ct D us mv ws hD h1 h2 h3 => by
      cases hD (by decide)
      exact match us, mv, ws, h1, h2, h3 with | [_, _, _], [_], [_, _], _, _, _ => ⟨_, _, _, _, _, _, rfl, rfl, rfl⟩, fun z => nomatch z⟩
    | n + 1, h => by cases h⟩⟩
theorem dt53 : DefT txt shs 53 "_law_feed" (topS 73) f__law_feed := ⟨⟨["_law_script"], ["_law_script"], ⟨rfl, rfl, rfl, by decide +kernel, rfl, by decide +kernel, by decide +kernel⟩, rfl, rfl, by decide +kernel, fun sh s h => match sh, h with
    | 0, h => by
      cases h
      exact ⟨fun kV doc pm an cdv ct D us mv ws _ h1 h2 h3 => match us, mv, ws, h1, h2, h3 with | [_], [], [], _, _, _ => rfl, fun _ => ⟨rfl, rfl⟩⟩
    | n + 1, h => by cases h⟩⟩
theorem dt54 : DefT txt shs 54 "_law_draw" (topS 74) f__law_draw := ⟨⟨["_law_feed_here", "_law_many", "_law_at", "_law_cell", "_law_mixed", "_law_figure"], ["_law_feed_here", "_law_many"], ⟨rfl, rfl, rfl, by decide +kernel, rfl, by decide +kernel, by decide +kernel⟩, rfl, rfl, by decide +kernel, fun sh s h => match sh, h with
    | 0, h => by
      cases h
      exact ⟨fun kV doc pm an cdv ct D us mv ws _ h1 h2 h3 => match us, mv, ws, h1, h2, h3 with | [_, _], [], [], _, _, _ => rfl, fun _ => ⟨rfl, rfl⟩⟩
    | n + 1, h => by cases h⟩⟩
theorem dt55 : DefT txt shs 55 "_law_share" (topS 75) f__law_share := ⟨⟨["_law_feed_here", "_law_some"], ["_law_feed_here"], ⟨rfl, rfl, rfl, by decide +kernel, rfl, by decide +kernel, by decide +kernel⟩, rfl, rfl, by decide +kernel, fun sh s h => match sh, h with
    | 0, h => by
      cases h
      exact ⟨fun kV doc pm an cdv ct D us mv ws _ h1 h2 h3 => match us, mv, ws, h1, h2, h3 with | [_], [], [], _, _, _ => rfl, fun _ => ⟨rfl, rfl⟩⟩
    | n + 1, h => by cases h⟩⟩
theorem dt56 : DefT txt shs 56 "_law_sums_right" (topS 76) f__law_sums_right := ⟨⟨["_law_share_here", "_law_held", "_law_span", "_law_rows", "_law_k", "_law_goal", "_law_lap"], ["_law_share_here", "_law_held", "_law_span"], ⟨rfl, rfl, rfl, by decide +kernel, rfl, by decide +kernel, by decide +kernel⟩, rfl, rfl, by decide +kernel, fun sh s h => match sh, h with
    | 0, h => by
      cases h
      exact ⟨fun kV doc pm an cdv ct D us mv ws _ h1 h2 h3 => match us, mv, ws, h1, h2, h3 with | [_, _, _], [], [], _, _, _ => rfl, fun _ => ⟨rfl, rfl⟩⟩
    | n + 1, h => by cases h⟩⟩
theorem dt57 : DefT txt shs 57 "_law_cut_right" (topS 77) f__law_cut_right := ⟨⟨["_law_share_here", "_law_held", "_law_span", "_law_at", "_law_lap", "_law_rows", "_law_tail"], ["_law_share_here", "_law_held", "_law_span", "_law_at"], ⟨rfl, rfl, rfl, by decide +kernel, rfl, by decide +kernel, by decide +kernel⟩, rfl, rfl, by decide +kernel, fun sh s h => match sh, h with
    | 0, h => by
      cases h
      exact ⟨fun kV doc pm an cdv ct D us mv ws _ h1 h2 h3 => match us, mv, ws, h1, h2, h3 with | [_, _, _, _], [], [], _, _, _ => rfl, fun _ => ⟨rfl, rfl⟩⟩
    | n + 1, h => by cases h⟩⟩
theorem dt58 : DefT txt shs 58 "law" (topS 78) f_law := ⟨⟨["_law_script", "_law_feed_here", "_law_lap", "_law_under", "_law_held", "_law_jobs", "_law_rows", "_law_share_here", "_law_span", "_law_life", "_law_givens", "_law_dones", "_law_k"], ["_law_script"], ⟨rfl, rfl, rfl, by decide +kernel, rfl, by decide +kernel, by decide +kernel⟩, rfl, rfl, by decide +kernel, fun sh s h => match sh, h with
    | 0, h => by
      cases h
      exact ⟨fun kV doc pm an cdv ct D us mv ws _ h1 h2 h3 => match us, mv, ws, h1, h2, h3 with | [_], [], [], _, _, _ => rfl, fun _ => ⟨rfl, rfl⟩⟩
    | n + 1, h => by cases h⟩⟩
def defs : List DefR := (List.append [⟨"is_whole", topS 1, f_is_whole⟩, ⟨"is_number", topS 2, f_is_number⟩, ⟨"ratio", topS 5, f_ratio⟩, ⟨"added", topS 6, f_added⟩, ⟨"is_less", topS 7, f_is_less⟩, ⟨"lesser", topS 8, f_lesser⟩, ⟨"wholes", topS 9, f_wholes⟩, ⟨"grown", topS 10, f_grown⟩, ⟨"paid", topS 11, f_paid⟩, ⟨"pace_of", topS 12, f_pace_of⟩, ⟨"ticks_by", topS 14, f_ticks_by⟩, ⟨"is_kept", topS 15, f_is_kept⟩, ⟨"is_due", topS 16, f_is_due⟩, ⟨"store_struck", topS 17, f_store_struck⟩, ⟨"tables_of", topS 20, f_tables_of⟩, ⟨"parts_of", topS 21, f_parts_of⟩, ⟨"rows_of", topS 22, f_rows_of⟩, ⟨"indexes_of", topS 23, f_indexes_of⟩, ⟨"row_of", topS 24, f_row_of⟩, ⟨"with_parts", topS 25, f_with_parts⟩, ⟨"with_rows", topS 26, f_with_rows⟩, ⟨"meets_one", topS 28, f_meets_one⟩, ⟨"meets", topS 29, f_meets⟩, ⟨"meeting", topS 30, f_meeting⟩, ⟨"sum_of", topS 32, f_sum_of⟩, ⟨"answered_of", topS 33, f_answered_of⟩, ⟨"answered_at", topS 34, f_answered_at⟩, ⟨"put_done", topS 36, f_put_done⟩, ⟨"turned_done", topS 37, f_turned_done⟩, ⟨"drop_done", topS 38, f_drop_done⟩] [⟨"index_done", topS 39, f_index_done⟩, ⟨"deed_done", topS 40, f_deed_done⟩, ⟨"worth_refusal", topS 44, f_worth_refusal⟩, ⟨"row_refusal", topS 45, f_row_refusal⟩, ⟨"rule_refusal", topS 46, f_rule_refusal⟩, ⟨"refusal_of", topS 47, f_refusal_of⟩, ⟨"done_job", topS 51, f_done_job⟩, ⟨"conds_of", topS 54, f_conds_of⟩, ⟨"index_at", topS 55, f_index_at⟩, ⟨"looked_at", topS 56, f_looked_at⟩, ⟨"linked_row", topS 57, f_linked_row⟩, ⟨"measure_of", topS 58, f_measure_of⟩, ⟨"life_of", topS 60, f_life_of⟩, ⟨"handed_in", topS 61, f_handed_in⟩, ⟨"with_tokens", topS 62, f_with_tokens⟩, ⟨"with_store", topS 63, f_with_store⟩, ⟨"begun_cost", topS 64, f_begun_cost⟩, ⟨"first_done", topS 65, f_first_done⟩, ⟨"sliced", topS 66, f_sliced⟩, ⟨"life_grown", topS 68, f_life_grown⟩, ⟨"life_struck", topS 69, f_life_struck⟩, ⟨"tick_alone", topS 70, f_tick_alone⟩, ⟨"run_alone", topS 71, f_run_alone⟩, ⟨"_law_feed", topS 73, f__law_feed⟩, ⟨"_law_draw", topS 74, f__law_draw⟩, ⟨"_law_share", topS 75, f__law_share⟩, ⟨"_law_sums_right", topS 76, f__law_sums_right⟩, ⟨"_law_cut_right", topS 77, f__law_cut_right⟩, ⟨"law", topS 78, f_law⟩])
theorem each : Each (fun f d => DefT txt shs f d.x d.st d.F) 0 defs := ⟨dt0, dt1, dt2, dt3, dt4, dt5, dt6, dt7, dt8, dt9, dt10, dt11, dt12, dt13, dt14, dt15, dt16, dt17, dt18, dt19, dt20, dt21, dt22, dt23, dt24, dt25, dt26, dt27, dt28, dt29, dt30, dt31, dt32, dt33, dt34, dt35, dt36, dt37, dt38, dt39, dt40, dt41, dt42, dt43, dt44, dt45, dt46, dt47, dt48, dt49, dt50, dt51, dt52, dt53, dt54, dt55, dt56, dt57, dt58, trivial⟩
end Mp.Lw
end

section
set_option Elab.async false
set_option linter.all false
set_option maxRecDepth 100000
set_option maxHeartbeats 0
namespace Mp.Lw
open PySem PySem.Spec PyProof.Rows L2
abbrev R : PySem.W.OpenRow := PySem.W.OpenLaw.row PySem.Challenge.rw_tenanthall_k21_whole_pace_by_rate
def loose0 : List PySem.Str := ["is_whole", "is_number", "ratio", "added", "is_less", "lesser", "wholes", "grown", "paid", "pace_of", "ticks_by", "is_kept", "is_due", "store_struck", "tables_of", "parts_of", "rows_of", "indexes_of", "row_of", "with_parts", "with_rows", "meets_one", "meets", "meeting", "sum_of", "answered_of", "answered_at", "put_done", "turned_done", "drop_done"]
def loose1 : List PySem.Str := ["index_done", "deed_done", "worth_refusal", "row_refusal", "rule_refusal", "refusal_of", "done_job", "conds_of", "index_at", "looked_at", "linked_row", "measure_of", "life_of", "handed_in", "with_tokens", "with_store", "begun_cost", "first_done", "sliced", "life_grown", "life_struck", "tick_alone", "run_alone", "_law_feed", "_law_draw", "_law_share", "_law_sums_right", "_law_cut_right", "NOUGHT", "VOID"]
def loose2 : List PySem.Str := ["OF_ONE", "OF_WORTH", "OF_MANY_jobs", "OF_SOME", "OF_MANY_measures"]
def loose : List PySem.Str := loose0 ++ loose1 ++ loose2
abbrev hk : PySem.W.Hook := hookM 4 defs (moreB txt cs shs)
def ob (s : PySem.W.SharedT) : He.AlD := obsM 4 defs (moreB txt cs shs) (HandSHeadRun.getT s)
theorem ob_eq (s : PySem.W.SharedT) : ob s = hk.obs s.abs := obsM_eq (HandSHeadRun.getT_eq s)
theorem run (w : World) : HandSHeadRun.RunEq R (PySem.W.view R.prog [78]) hk ob 4000 loose w := by
  intro os
  kernel_rfl
end Mp.Lw
end

section
set_option maxRecDepth 100000
set_option maxHeartbeats 0
open PySem PySem.W PySem.Calls PyProof.Rows
theorem PySem.Challenge.cw_tenanthall_k21_whole_pace_by_rate_holds : PySem.Challenge.rw_tenanthall_k21_whole_pace_by_rate.Holds := by
  w_on; o_law
  refine HandSHeadRun.head_any (r := OpenLaw.row PySem.Challenge.rw_tenanthall_k21_whole_pace_by_rate) (q := view (OpenLaw.row PySem.Challenge.rw_tenanthall_k21_whole_pace_by_rate).prog [78]) (H := Mp.Lw.hk) (ob := Mp.Lw.ob) (M := 4000) (loose := Mp.Lw.loose) (d := HandSHeadRun.topDef (OpenLaw.row PySem.Challenge.rw_tenanthall_k21_whole_pace_by_rate).prog 78) (kwd := []) Mp.Lw.ob_eq
    (by kernel_rfl) (fun s => by kernel_rfl) Mp.Lw.run (by kernel_rfl) (by kernel_rfl) (by kernel_rfl) (by rfl) (by first | assumption | decide +kernel) (by decide +kernel) ⟨rfl, rfl, rfl, rfl, rfl, by decide +kernel⟩ ?hw ?hc
  case hw => w_witness2
  case hc => exact Mp.top_law (l := PySem.Challenge.rw_tenanthall_k21_whole_pace_by_rate) (n := 63) (k := 100) (fl := 58) rfl (by decide) (by kernel_rfl) ⟨rfl, by decide, by decide⟩ rfl rfl rfl (by decide) Mp.Lw.each (by kernel_rfl) rfl (fun ns h => Mp.Lw.law ns h)
end
