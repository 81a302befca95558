import PyProof.Rows.All
import Wide.All
import OpenK.AllK
import Wide.FinOn
import HandS.ForExc
import HandS.Comp
import PyProof.EqAt
import PyProof.EqKinds
import PyProof.TupleCall
import PyProof.ExcBaseAll.ArithmeticError
import KE.KExcInit
import KE.KTryMore
import HandS.Exc
import HandS.Ends
import HandS.Lambda
import HandS.Evl
import KE.GoesNew
import KE.GoesMore
import KE.GoesEnum
import HandS.Iter
import HandS.Walk
import PyProof.ListMulRoad
import PyProof.FactsAll.tuple_2
import KE.KIndexOf
import HandS.TupMul
import HandS.SlotsOwn
import HandS.NamedTupGet
import HandS.TupAny
import HandS.IsInst
import HandS.SortRule
import HandS.Style
import KE.KTupSum
import HandS.Call
import HandS.Defaults
import HandS.More
import HandS.Base
import KE.KStateDown
import HandS.Words
import HandS.WordsExc
import HandS.Head0
import HandS.Head1
import HandS.Head2
import HandS.HeadEnd
import HandS.HeadHook1
import HandS.HeadHook2
import HandS.HeadHook3
import HandS.HeadHook4
import HandS.EndTab
import KE.KLam
import KE.SortKeyHeap
import PyProof.ReprRoads
import HandS.HeadWalk
import PySem.Challenge.RW_cabshares_k48_whole_claims_near_their_bo
set_option Elab.async false
set_option linter.all false
set_option maxRecDepth 100000
/-! Data, a small language with slots, its interpreter. -/
namespace Cab
open PySem L2

inductive D where
  | non
  | bl (b : Bool)
  | int (i : Int)
  | str (s : Str)
  | tup (xs : List D)
  | lst (xs : List D)
  | rtup (xs : List D)
  | ride (c r : D)
  | bag
  | dct (kvs : List (Str × Int))

abbrev Bg := Int × Int × Int

/-- a slot: empty, a value, a list that only this slot holds -/
inductive Sl where
  | un
  | val (d : D)
  | own (xs : List D)
abbrev Env := List Sl

inductive Bop where | add | sub | mul | fdiv | mod | pow
inductive Cop where | lt | le | gt | ge | eq | ne
inductive Bi where | len | abs | all | any | sum | maxl | max2 | min2 | tuple | list | int | sorted
inductive Ty where | int | bool | tuple | str | ride
inductive Fl where | costs | riders
inductive Tg where
  | nm (i : Nat)
  | tp (js : List Nat)

inductive IE where
  | nop
  | c (d : D)
  | v (i : Nat)
  | neg (a : IE)
  | nt (a : IE)
  | bin (op : Bop) (a b : IE)
  | cmp (op : Cop) (a b : IE)
  | ch (o1 o2 : Cop) (a b c : IE)
  | ch3 (o1 o2 o3 : Cop) (a b c d : IE)
  | isN (ng : Bool) (a : IE)
  | inn (ng : Bool) (a b : IE)
  | and_ (a b : IE)
  | or_ (a b : IE)
  | ite (t a b : IE)
  | tup (es : IE)
  | lst (es : IE)
  | ix (a b : IE)
  | si (a : IE)
  | tst (a : IE)
  | sl (a lo hi : IE)
  | ownIx (i : Nat) (b : IE)
  | ownCat (i : Nat) (b : IE)
  | bi (f : Bi) (es : IE)
  | isi (a : IE) (t : Ty)
  | call (f : Str) (es : IE)
  | fld (a : IE) (f : Fl)
  | mIx (a b : IE)
  | inG (ng : Bool) (a : IE) (g : Str) (kvs : List (Str × Int))
  | gD (a : IE) (g : Str) (kvs : List (Str × Int))
  | inC (ng : Bool) (a : IE) (g : Str) (ws : List Str)
  | dct (kvs : List (Str × Int))
  | dGet (a k d : IE)
  | lc (it : IE) (t : Tg) (cond elt : IE) (ow : List Nat)
  | lc2 (it1 : IE) (t1 : Tg) (it2 : IE) (t2 : Tg) (elt : IE) (ow ow1 : List Nat)
  | seq (a : IE)
  | rng1 (a : IE)
  | rng2 (a b : IE)
  | enum (a : IE)
  | zip (a b : IE)
  | enil
  | econs (e es : IE)

inductive IS where
  | asg (t : Tg) (e : IE)
  | own (i : Nat) (e : IE)
  | app (i : Nat) (e : IE)
  | setI (i : Nat) (k e : IE)
  | augI (i : Nat) (k e : IE)
  | ext (i : Nat) (e : IE)
  | ret (e : IE)
  | ife (t : IE) (a b : IS)
  | for_ (it : IE) (t : Tg) (body : IS)
  | skip
  | seq (a b : IS)

inductive Out where
  | nx (env : Env)
  | rt (d : D)

def bd {α β : Type} (o : Option (α × Bg)) (f : α → Bg → Option β) : Option β := match o with
  | some (a, B) => f a B
  | none => none
def ob {α β : Type} (o : Option α) (f : α → Option β) : Option β := match o with
  | some a => f a
  | none => none
theorem nrfl {α : Sort _} {a b : α} (h : a = b) : a = b := h
@[simp] theorem bd_some {α β : Type} {a : α} {B : Bg} {f : α → Bg → Option β} : bd (some (a, B)) f = f a B := nrfl rfl
@[simp] theorem bd_none {α β : Type} {f : α → Bg → Option β} : bd none f = none := nrfl rfl
@[simp] theorem ob_some {α β : Type} {a : α} {f : α → Option β} : ob (some a) f = f a := nrfl rfl
@[simp] theorem ob_none {α β : Type} {f : α → Option β} : ob none f = none := nrfl rfl
theorem bd_inv {α β : Type} {o : Option (α × Bg)} {f : α → Bg → Option β} {r : β} (h : bd o f = some r) : ∃ a B, o = some (a, B) ∧ f a B = some r := by
  cases o with
  | none => cases h
  | some p => exact ⟨p.1, p.2, rfl, h⟩
theorem ob_inv {α β : Type} {o : Option α} {f : α → Option β} {r : β} (h : ob o f = some r) : ∃ a, o = some a ∧ f a = some r := by
  cases o with
  | none => cases h
  | some p => exact ⟨p, rfl, h⟩

def getV (env : Env) (i : Nat) : Option D := match env[i]? with
  | some (.val d) => some d
  | _ => none
def getO (env : Env) (i : Nat) : Option (List D) := match env[i]? with
  | some (.own xs) => some xs
  | _ => none
/-- a slot's own list becomes a value -/
def Sl.frz : Sl → Sl
  | .own xs => .val (.lst xs)
  | s => s
def frzAll (env : Env) : Env := env.map Sl.frz
/-- all but the i-th -/
def frzBut (i : Nat) (env : Env) : Env := match env[i]? with
  | some s => (frzAll env).set i s
  | none => frzAll env
def wipeE (env : Env) : List Nat → Env
  | [] => env
  | k :: ks => (wipeE env ks).set k .un
def setAll : List Nat → List D → Env → Option Env
  | [], [], env => some env
  | i :: is, d :: ds, env => setAll is ds (env.set i (.val d))
  | _, _, _ => none
def bindT (t : Tg) (d : D) (env : Env) : Option Env := match t, d with
  | .nm i, d => some (env.set i (.val d))
  | .tp js, .tup ds => setAll js ds env
  | _, _ => none

def smallM (i : Int) : Bool := decide (-(2 ^ 64) < i) && decide (i < 2 ^ 64)

def opB : Bop → D → D → Option D
  | .add, .int i, .int j => some (.int (i + j))
  | .add, .tup a, .tup b => if a.length + b.length ≤ 1000 then some (.tup (a ++ b)) else none
  | .add, .lst a, .lst b => if a.length + b.length ≤ 1000 then some (.lst (a ++ b)) else none
  | .sub, .int i, .int j => some (.int (i - j))
  | .mul, .int i, .int j => if smallM i || smallM j then some (.int (i * j)) else none
  | .mul, .tup a, .int k => if 0 ≤ k ∧ k ≤ 1000 ∧ a.length ≤ 1000 ∧ a ≠ [] then some (.tup (List.replicate k.toNat a).flatten) else none
  | .mul, .lst a, .int k => if 0 ≤ k ∧ k ≤ 1000 ∧ a.length ≤ 1000 then some (.lst (List.replicate k.toNat a).flatten) else none
  | .fdiv, .int i, .int j => if 0 < j ∧ j < 1073741824 then some (.int (i / j)) else none
  | .mod, .int i, .int j => if 0 < j then some (.int (i % j)) else none
  | .pow, .int i, .int j => if 0 ≤ j ∧ j ≤ 100 ∧ i.natAbs < 2 ^ 64 then some (.int (i ^ j.toNat)) else none
  | _, _, _ => none

mutual
def toPy : D → Option PyData
  | .non => some .none
  | .bl b => some (.bool b)
  | .int i => some (.int i)
  | .str s => some (.str s)
  | .tup xs => ob (toPys xs) fun ys => some (.tuple ys)
  | .lst xs => ob (toPys xs) fun ys => some (.list ys)
  | .ride _ _ => none
  | .rtup _ => none
  | .bag => none
  | .dct _ => none
def toPys : List D → Option (List PyData)
  | [] => some []
  | x :: xs => ob (toPy x) fun y => ob (toPys xs) fun ys => some (y :: ys)
end
def eqD : D → D → Option Bool
  | .int i, .int j => some (decide (i = j))
  | .str x, .str y => some (decide (x = y))
  | .tup xs, .tup ys => ob (toPy (.tup xs)) fun a => ob (toPy (.tup ys)) fun b => if SeqAt.shaped a = true ∧ SeqAt.shaped b = true then some (PyData.eqv a b) else none
  | .tup xs, .str y => ob (toPy (.tup xs)) fun a => ob (toPy (.str y)) fun b => if SeqAt.shaped a = true ∧ SeqAt.shaped b = true then some (PyData.eqv a b) else none
  | _, _ => none
def opC : Cop → D → D → Option Bool
  | .lt, .int i, .int j => some (decide (i < j))
  | .le, .int i, .int j => some (decide (i ≤ j))
  | .gt, .int i, .int j => some (decide (j < i))
  | .ge, .int i, .int j => some (decide (j ≤ i))
  | .eq, x, y => eqD x y
  | .ne, x, y => ob (eqD x y) fun b => some (!b)
  | _, _, _ => none
def isNon : D → Bool
  | .non => true
  | _ => false
def isFlat : D → Bool
  | .non => true
  | .bl _ => true
  | .int _ => true
  | .str _ => true
  | _ => false
/-- == of flat values -/
def eqF : D → D → Bool
  | .non, .non => true
  | .bl a, .bl b => a == b
  | .bl a, .int b => (if a then 1 else 0) == b
  | .int a, .bl b => a == (if b then 1 else 0)
  | .int a, .int b => a == b
  | .str a, .str b => a == b
  | _, _ => false
def seqOf : D → Option (List D)
  | .tup xs => some xs
  | .lst xs => some xs
  | .rtup xs => some xs
  | _ => none
def inDt (x y : D) : Option Bool := ob (seqOf y) fun xs => if isFlat x = true ∧ xs.all isFlat = true then some (xs.any fun z => eqF z x) else none
def atD (x y : D) : Option D := ob (seqOf x) fun xs => match y with
  | .int i => atI xs i
  | _ => none
def bndOf : D → Option (Option Int)
  | .non => some none
  | .int i => some (some i)
  | _ => none
def cutD (xs : List D) (lo hi : Option Int) : List D := (xs.drop (HT.sIx xs.length 0 lo)).take (HT.sIx xs.length xs.length hi - HT.sIx xs.length 0 lo)
def slD (x l h : D) : Option D := ob (bndOf l) fun lo => ob (bndOf h) fun hi => match x with
  | .tup xs => some (.tup (cutD xs lo hi))
  | .lst xs => some (.lst (cutD xs lo hi))
  | _ => none
def blsOf : List D → Option (List Bool)
  | [] => some []
  | .bl b :: r => ob (blsOf r) fun bs => some (b :: bs)
  | _ => none
def intsOf : List D → Option (List Int)
  | [] => some []
  | .int i :: r => ob (intsOf r) fun ns => some (i :: ns)
  | _ => none
def prsOf : List D → Option (List (Int × Int))
  | [] => some []
  | .tup [.int i, .int j] :: r => ob (prsOf r) fun ns => some ((i, j) :: ns)
  | _ => none
def maxI : List Int → Option Int
  | [] => none
  | a :: r => some (r.foldl max a)
def leP (p q : Int × Int) : Bool := decide (p.1 < q.1) || (decide (p.1 = q.1) && decide (p.2 ≤ q.2))
def insP (p : Int × Int) : List (Int × Int) → List (Int × Int)
  | [] => [p]
  | q :: r => if leP p q = true then p :: q :: r else q :: insP p r
def sortP : List (Int × Int) → List (Int × Int)
  | [] => []
  | p :: r => insP p (sortP r)
def prD (p : Int × Int) : D := .tup [.int p.1, .int p.2]
def biF : Bi → List D → Option D
  | .len, [.tup xs] => some (.int xs.length)
  | .len, [.lst xs] => some (.int xs.length)
  | .len, [.rtup xs] => some (.int xs.length)
  | .len, [.ride _ (.tup rs)] => if rs.length ≤ 1000 then some (.int rs.length) else none
  | .abs, [.int i] => some (.int (if i < 0 then -i else i))
  | .all, [.lst xs] => ob (blsOf xs) fun bs => some (.bl (bs.all id))
  | .any, [.lst xs] => ob (blsOf xs) fun bs => some (.bl (bs.any id))
  | .sum, [.lst xs] => ob (intsOf xs) fun ns => some (.int ns.sum)
  | .sum, [.tup xs] => ob (intsOf xs) fun ns => some (.int ns.sum)
  | .maxl, [.lst xs] => ob (intsOf xs) fun ns => ob (maxI ns) fun m => some (.int m)
  | .max2, [.int i, .int j] => some (.int (if j > i then j else i))
  | .min2, [.int i, .int j] => some (.int (if j < i then j else i))
  | .tuple, [.lst xs] => some (.tup xs)
  | .tuple, [.tup xs] => some (.tup xs)
  | .list, [.tup xs] => some (.lst xs)
  | .list, [.lst xs] => some (.lst xs)
  | .int, [.int i] => some (.int i)
  | .sorted, [.lst xs] => ob (prsOf xs) fun ps => some (.lst ((sortP ps).map prD))
  | _, _ => none
def isiD : Ty → D → Option Bool
  | .ride, .ride _ _ => some true
  | .ride, .non => some false
  | .int, .int _ => some true
  | .int, .bl _ => some true
  | .bool, .bl _ => some true
  | .tuple, .tup _ => some true
  | .str, .str _ => some true
  | .ride, _ => none
  | _, .ride _ _ => none
  | _, .bag => none
  | _, .rtup _ => none
  | _, .dct _ => none
  | _, .lst _ => none
  | _, _ => some false
def fldD : Fl → D → Option D
  | .costs, .ride c _ => some c
  | .riders, .ride _ r => some r
  | _, _ => none
def idxI (k : Int) : List Int → Option Nat
  | [] => none
  | a :: r => if a = k then some 0 else ob (idxI k r) fun j => some (j + 1)
def idOf : D → Option (List D)
  | .lst xs => some xs
  | .rtup xs => some xs
  | _ => none
def idxD (x y : D) : Option D := ob (idOf x) fun xs => ob (intsOf xs) fun ns => match y with
  | .int k => ob (idxI k ns) fun j => some (.int j)
  | _ => none
def lkD (kvs : List (Str × Int)) (s : Str) : Option Int := kvs.lookup s
def enumD : Nat → List D → List D
  | _, [] => []
  | n, x :: xs => .tup [.int n, x] :: enumD (n + 1) xs
def zipD : List D → List D → List D
  | x :: xs, y :: ys => .tup [x, y] :: zipD xs ys
  | _, _ => []
def rngD (lo : Int) : Nat → List D
  | 0 => []
  | n + 1 => .int lo :: rngD (lo + 1) n
def small62 (i : Int) : Bool := decide (-(2 ^ 62) ≤ i) && decide (i < 2 ^ 62)

abbrev Call := Str → List D → Bg → Option (D × Bg)

def lcGo (f : D → Bg → Option (Option D × Bg)) : List D → Bg → Option (List D × Bg)
  | [], B => some ([], B)
  | x :: xs, B => bd (f x B) fun o B1 => bd (lcGo f xs B1) fun ys B2 => some (match o with
    | some y => y :: ys
    | none => ys, B2)
def lcGo2 (f : D → Bg → Option (List D × Bg)) : List D → Bg → Option (List D × Bg)
  | [], B => some ([], B)
  | x :: xs, B => bd (f x B) fun o B1 => bd (lcGo2 f xs B1) fun ys B2 => some (o ++ ys, B2)

section
variable (k : Call)
mutual
def evE : IE → Env → Bg → Option (D × Bg)
  | .nop, _, B => some (.non, B)
  | .c d, _, B => some (d, B)
  | .v i, env, B => ob (getV env i) fun d => some (d, B)
  | .neg a, env, B => bd (evE a env B) fun d B1 => match d with
    | .int i => some (.int (-i), B1)
    | _ => none
  | .nt a, env, B => bd (evE a env B) fun d B1 => match d with
    | .bl b => some (.bl (!b), B1)
    | _ => none
  | .bin op a b, env, B => bd (evE a env B) fun x B1 => bd (evE b env B1) fun y B2 => ob (opB op x y) fun z => some (z, B2)
  | .cmp op a b, env, B => bd (evE a env B) fun x B1 => bd (evE b env B1) fun y B2 => ob (opC op x y) fun z => some (.bl z, B2)
  | .ch o1 o2 a b c, env, B => bd (evE a env B) fun x B1 => bd (evE b env B1) fun y B2 => ob (opC o1 x y) fun z => match z with
    | true => bd (evE c env B2) fun w B3 => ob (opC o2 y w) fun z2 => some (.bl z2, B3)
    | false => some (.bl false, B2)
  | .ch3 o1 o2 o3 a b c d, env, B => bd (evE a env B) fun x B1 => bd (evE b env B1) fun y B2 => ob (opC o1 x y) fun z => match z with
    | true => bd (evE c env B2) fun w B3 => ob (opC o2 y w) fun z2 => (match z2 with
      | true => bd (evE d env B3) fun u B4 => ob (opC o3 w u) fun z3 => some (.bl z3, B4)
      | false => some (.bl false, B3))
    | false => some (.bl false, B2)
  | .isN ng a, env, B => bd (evE a env B) fun d B1 => some (.bl (if ng then !isNon d else isNon d), B1)
  | .inn ng a b, env, B => bd (evE a env B) fun x B1 => bd (evE b env B1) fun y B2 => ob (inDt x y) fun z => some (.bl (if ng then !z else z), B2)
  | .and_ a b, env, B => bd (evE a env B) fun d B1 => match d with
    | .bl true => evE b env B1
    | .bl false => some (.bl false, B1)
    | _ => none
  | .or_ a b, env, B => bd (evE a env B) fun d B1 => match d with
    | .bl true => some (.bl true, B1)
    | .bl false => evE b env B1
    | _ => none
  | .ite t a b, env, B => bd (evE t env B) fun d B1 => match d with
    | .bl true => evE a env B1
    | .bl false => evE b env B1
    | _ => none
  | .tup es, env, B => bd (evEs es env B) fun ds B1 => if ds.length ≤ 1000 then some (.tup ds, B1) else none
  | .lst es, env, B => bd (evEs es env B) fun ds B1 => if ds.length ≤ 1000 then some (.lst ds, B1) else none
  | .ix a b, env, B => bd (evE a env B) fun x B1 => bd (evE b env B1) fun y B2 => ob (atD x y) fun z => some (z, B2)
  | .si a, env, B => bd (evE a env B) fun d B1 => match d with
    | .int i => some (.int i, B1)
    | _ => none
  | .tst a, env, B => bd (evE a env B) fun d B1 => match d with
    | .bl b => some (.bl b, B1)
    | _ => none
  | .sl a lo hi, env, B => bd (evE a env B) fun x B1 => bd (evE lo env B1) fun l B2 => bd (evE hi env B2) fun h B3 => ob (slD x l h) fun z => some (z, B3)
  | .ownIx i b, env, B => bd (evE b env B) fun y B1 => ob (getO env i) fun xs => ob (atD (.lst xs) y) fun z => some (z, B1)
  | .ownCat i b, env, B => bd (evE b env B) fun y B1 => ob (getO env i) fun xs => ob (opB .add (.lst xs) y) fun z => some (z, B1)
  | .bi f es, env, B => bd (evEs es env B) fun ds B1 => ob (biF f ds) fun z => some (z, B1)
  | .isi a t, env, B => bd (evE a env B) fun d B1 => ob (isiD t d) fun z => some (.bl z, B1)
  | .call f es, env, B => bd (evEs es env B) fun ds B1 => k f ds B1
  | .fld a f, env, B => bd (evE a env B) fun d B1 => ob (fldD f d) fun z => some (z, B1)
  | .mIx a b, env, B => bd (evE a env B) fun x B1 => bd (evE b env B1) fun y B2 => ob (idxD x y) fun z => some (z, B2)
  | .inG ng a _ kvs, env, B => bd (evE a env B) fun d B1 => match d with
    | .str s => some (.bl (if ng then !(lkD kvs s).isSome else (lkD kvs s).isSome), B1)
    | _ => none
  | .gD a _ kvs, env, B => bd (evE a env B) fun d B1 => match d with
    | .str s => ob (lkD kvs s) fun z => some (.int z, B1)
    | _ => none
  | .inC ng a _ ws, env, B => bd (evE a env B) fun d B1 => match d with
    | .str s => some (.bl (if ng then !ws.any (· == s) else ws.any (· == s)), B1)
    | _ => none
  | .dct kvs, _, B => some (.dct kvs, B)
  | .dGet a b c, env, B => bd (evE a env B) fun x B1 => bd (evE b env B1) fun y B2 => bd (evE c env B2) fun z B3 => match x, y with
    | .dct kvs, .str s => some (match lkD kvs s with
      | some i => .int i
      | none => z, B3)
    | _, _ => none
  | .lc it t cond elt ow, env, B => bd (evIt it env B) fun xs B1 => bd (lcGo (fun x B2 => ob (bindT t x (wipeE env ow)) fun e1 => bd (evE cond e1 B2) fun b B3 => match b with
    | .bl false => some (none, B3)
    | .bl true => bd (evE elt e1 B3) fun y B4 => some (some y, B4)
    | .non => bd (evE elt e1 B3) fun y B4 => some (some y, B4)
    | _ => none) xs B1) fun ys B5 => if ys.length ≤ 1000 then some (.lst ys, B5) else none
  | .lc2 it1 t1 it2 t2 elt ow ow1, env, B => bd (evIt it1 env B) fun xs B1 => bd (lcGo2 (fun x B2 => ob (bindT t1 x (wipeE env ow)) fun e1 => bd (evIt it2 e1 B2) fun xs2 B3 =>
      lcGo (fun x2 B4 => ob (bindT t2 x2 (wipeE e1 ow1)) fun e2 => bd (evE elt e2 B4) fun y B5 => some (some y, B5)) xs2 B3) xs B1) fun ys B5 => if ys.length ≤ 1000 then some (.lst ys, B5) else none
  | .seq _, _, _ => none
  | .rng1 _, _, _ => none
  | .rng2 _ _, _, _ => none
  | .enum _, _, _ => none
  | .zip _ _, _, _ => none
  | .enil, _, _ => none
  | .econs _ _, _, _ => none
def evEs : IE → Env → Bg → Option (List D × Bg)
  | .enil, _, B => some ([], B)
  | .econs e es, env, B => bd (evE e env B) fun d B1 => bd (evEs es env B1) fun ds B2 => some (d :: ds, B2)
  | _, _, _ => none
def evIt : IE → Env → Bg → Option (List D × Bg)
  | .seq a, env, B => bd (evE a env B) fun d B1 => ob (seqOf d) fun xs => some (xs, B1)
  | .rng1 a, env, B => bd (evE a env B) fun d B1 => match d with
    | .int n => if small62 n = true then some (rngD 0 n.toNat, B1) else none
    | _ => none
  | .rng2 a b, env, B => bd (evE a env B) fun x B1 => bd (evE b env B1) fun y B2 => match x, y with
    | .int i, .int j => if small62 i = true ∧ small62 j = true then some (rngD i (j - i).toNat, B2) else none
    | _, _ => none
  | .enum a, env, B => bd (evE a env B) fun d B1 => match d with
    | .tup xs => some (enumD 0 xs, B1)
    | _ => none
  | .zip a b, env, B => bd (evE a env B) fun x B1 => bd (evE b env B1) fun y B2 => ob (seqOf x) fun xs => ob (seqOf y) fun ys => some (zipD xs ys, B2)
  | _, _, _ => none
end

def forGo (t : Tg) (f : Env → Bg → Option (Out × Bg)) : List D → Env → Bg → Option (Out × Bg)
  | [], env, B => some (.nx env, B)
  | x :: xs, env, B => ob (bindT t x env) fun e1 => bd (f e1 B) fun o B1 => match o with
    | .rt d => some (.rt d, B1)
    | .nx e2 => forGo t f xs e2 B1

def evS : IS → Env → Bg → Option (Out × Bg)
  | .asg t e, env, B => bd (evE k e env B) fun d B1 => ob (bindT t d env) fun e1 => some (.nx e1, B1)
  | .own i e, env, B => bd (evE k e env B) fun d B1 => match d with
    | .lst xs => some (.nx (env.set i (.own xs)), B1)
    | _ => none
  | .app i e, env, B => bd (evE k e (frzBut i env) B) fun d B1 => ob (getO env i) fun xs => if xs.length < 1000 then some (.nx ((frzBut i env).set i (.own (xs ++ [d]))), B1) else none
  | .setI i j e, env, B => bd (evE k e env B) fun d B1 => bd (evE k j env B1) fun y B2 => ob (getO env i) fun xs => match y with
    | .int n => ob (ixN xs.length n) fun m => some (.nx (env.set i (.own (xs.set m d))), B2)
    | _ => none
  | .augI i j e, env, B => bd (evE k j env B) fun y B1 => bd (evE k e env B1) fun d B2 => ob (getO env i) fun xs => match y, d with
    | .int n, .int b => ob (ixN xs.length n) fun m => ob (xs[m]?) fun z => (match z with
      | .int a => some (.nx (env.set i (.own (xs.set m (.int (a + b))))), B2)
      | _ => none)
    | _, _ => none
  | .ext i e, env, B => bd (evE k e env B) fun d B1 => ob (getO env i) fun xs => match d with
    | .lst ys => if xs.length + ys.length ≤ 1000 then some (.nx (env.set i (.own (xs ++ ys))), B1) else none
    | _ => none
  | .ret e, env, B => bd (evE k e (frzAll env) B) fun d B1 => some (.rt d, B1)
  | .ife t a b, env, B => bd (evE k t env B) fun d B1 => match d with
    | .bl true => evS a env B1
    | .bl false => evS b env B1
    | _ => none
  | .for_ it t body, env, B => bd (evIt k it env B) fun xs B1 => forGo t (fun e b => evS body e b) xs env B1
  | .skip, env, B => some (.nx env, B)
  | .seq a b, env, B => bd (evS a env B) fun o B1 => match o with
    | .rt d => some (.rt d, B1)
    | .nx e1 => evS b e1 B1
end

structure Fn where
  np : Nat
  nn : Nat
  body : IS
def startE (fn : Fn) (ds : List D) : Env := ds.map Sl.val ++ List.replicate (fn.nn - ds.length) Sl.un
def runB (k : Call) (fn : Fn) (ds : List D) (B : Bg) : Option (D × Bg) := if ds.length = fn.np then bd (evS k fn.body (startE fn ds) B) fun o B1 => match o with
  | .rt d => some (d, B1)
  | .nx _ => some (.non, B1) else none
def run (tab : Str → Option Fn) (prim : Str → Option (List D → Bg → Option (D × Bg))) : Nat → Call
  | 0 => fun f ds B => match prim f with
    | some p => p ds B
    | none => none
  | n + 1 => fun f ds B => match prim f with
    | some p => p ds B
    | none => ob (tab f) fun fn => runB (run tab prim n) fn ds B
end Cab
set_option Elab.async false
set_option linter.all false
set_option maxRecDepth 100000
/-! From the syntax to the small language; each side condition of a rule is looked at here. -/
namespace Cab
open PySem L2

/-- what a def's text is read against -/
structure CC where
  N : List Str
  sc : Scope
  ow : List Nat
/-- what the module's names hold: constants, dicts, defs with their numbers of parameters -/
structure GW where
  glob : Str → Option Int
  gdic : Str → Option (List (Str × Int))
  gtup : Str → Option (List Str)
  fns : Str → Option Nat

def ixOf : List Str → Str → Option Nat
  | [], _ => none
  | y :: r, x => if y = x then some 0 else ob (ixOf r x) fun i => some (i + 1)
def visB (sc : Scope) (x : Str) : Bool := match sc.names.lookup x with
  | some .local => true
  | some .cell => true
  | some .free => true
  | _ => false
def locB (sc : Scope) (x : Str) : Bool := match sc.names.lookup x with
  | some .local => true
  | some .cell => true
  | _ => false
def gloB (sc : Scope) (x : Str) : Bool := match sc.names.lookup x with
  | some .globalImplicit => true
  | _ => false
def slotOf (C : CC) (x : Str) : Option Nat := if visB C.sc x = true then ixOf C.N x else none
/-- a name whose list is the slot's own -/
def ownOf (C : CC) (e : Expr) : Option Nat := match e with
  | .Name x _ => ob (slotOf C x) fun i => if i ∈ C.ow then some i else none
  | _ => none
def bopOf : Operator → Option Bop
  | .Add => some .add
  | .Sub => some .sub
  | .Mult => some .mul
  | .FloorDiv => some .fdiv
  | .Mod => some .mod
  | .Pow => some .pow
  | _ => none
def copOf : CmpOp → Option Cop
  | .Lt => some .lt
  | .LtE => some .le
  | .Gt => some .gt
  | .GtE => some .ge
  | .Eq => some .eq
  | .NotEq => some .ne
  | _ => none
def isStar : Expr → Bool
  | .Starred _ _ => true
  | _ => false
def isNone : Expr → Bool
  | .Constant .none _ _ => true
  | _ => false
def biOf (x : Str) (n : Nat) : Option Bi :=
  if n = 1 then
    (if x = "len" then some .len else if x = "abs" then some .abs else if x = "all" then some .all else if x = "any" then some .any else if x = "sum" then some .sum
      else if x = "max" then some .maxl else if x = "tuple" then some .tuple else if x = "list" then some .list else if x = "int" then some .int else if x = "sorted" then some .sorted else none)
  else if n = 2 then (if x = "max" then some .max2 else if x = "min" then some .min2 else none)
  else none
def tyOf (x : Str) : Option Ty := if x = "int" then some .int else if x = "bool" then some .bool else if x = "tuple" then some .tuple else if x = "str" then some .str else if x = "Ride" then some .ride else none
def flOf (x : Str) : Option Fl := if x = "costs" then some .costs else if x = "riders" then some .riders else none
def plainIxB : Expr → Bool
  | .Slice _ _ _ _ => false
  | .Tuple _ _ _ => false
  | _ => true
def dctOf : List (Option Expr) → List Expr → Option (List (Str × Int))
  | [], [] => some []
  | some (.Constant (.str x) _ _) :: ks, .Constant (.int i) _ _ :: vs => ob (dctOf ks vs) fun r => some ((x, i) :: r)
  | _, _ => none
/-- the slots of a comprehension's own names -/
def ownSl (N : List Str) : List (Str × NameKind) → List (Str × Nat)
  | [] => []
  | (x, k) :: r => match k, ixOf N x with
    | .local, some i => (x, i) :: ownSl N r
    | .cell, some i => (x, i) :: ownSl N r
    | _, _ => ownSl N r
def tgName (C : CC) (e : Expr) : Option Nat := match e with
  | .Name x _ => if locB C.sc x = true then ixOf C.N x else none
  | _ => none
def tgNames (C : CC) : List Expr → Option (List Nat)
  | [] => some []
  | e :: r => ob (tgName C e) fun i => ob (tgNames C r) fun is => some (i :: is)
def cT (C : CC) (e : Expr) : Option Tg := match e with
  | .Tuple es _ _ => ob (tgNames C es) fun is => some (.tp is)
  | e => ob (tgName C e) fun i => some (.nm i)
def tgSl : Tg → List Nat
  | .nm i => [i]
  | .tp js => js
def isTupE : Expr → Bool
  | .Tuple _ _ _ => true
  | _ => false

section
variable (G : GW)
mutual
def cE : Nat → CC → Expr → Option IE
  | 0, _, _ => none
  | n + 1, C, e => match e with
    | .Constant (.int i) _ _ => some (.c (.int i))
    | .Constant (.bool b) _ _ => some (.c (.bl b))
    | .Constant .none _ _ => some (.c .non)
    | .Constant (.str x) _ _ => some (.c (.str x))
    | .Name x _ => if visB C.sc x = true then ob (ixOf C.N x) fun i => some (.v i) else if gloB C.sc x = true then ob (G.glob x) fun d => some (.c (.int d)) else none
    | .BinOp a op b _ => ob (bopOf op) fun o => match ownOf C a with
      | some i => (match o with
        | .add => ob (cE n C b) fun ib => some (.ownCat i ib)
        | _ => none)
      | none => ob (cE n C a) fun ia => ob (cE n C b) fun ib => some (.bin o ia ib)
    | .UnaryOp .USub a _ => ob (cE n C a) fun ia => some (.neg ia)
    | .UnaryOp .Not a _ => ob (cE n C a) fun ia => some (.nt ia)
    | .BoolOp .And es _ => cAnd n C es
    | .BoolOp .Or es _ => cOr n C es
    | .Compare a [op] [b] _ => if behindInMarks op b = false then (match op with
      | .Is => if isNone b = true then ob (cE n C a) fun ia => some (.isN false ia) else none
      | .IsNot => if isNone b = true then ob (cE n C a) fun ia => some (.isN true ia) else none
      | .In => (match b with
        | .Name g _ => if gloB C.sc g = true then (match G.gtup g with
          | some ws => ob (cE n C a) fun ia => some (.inC false ia g ws)
          | none => none)
          else ob (cE n C a) fun ia => ob (cE n C b) fun ib => some (.inn false ia ib)
        | _ => ob (cE n C a) fun ia => ob (cE n C b) fun ib => some (.inn false ia ib))
      | .NotIn => (match b with
        | .Name g _ => if gloB C.sc g = true then (match G.gdic g with
          | some kvs => ob (cE n C a) fun ia => some (.inG true ia g kvs)
          | none => (match G.gtup g with
            | some ws => ob (cE n C a) fun ia => some (.inC true ia g ws)
            | none => none))
          else ob (cE n C a) fun ia => ob (cE n C b) fun ib => some (.inn true ia ib)
        | _ => ob (cE n C a) fun ia => ob (cE n C b) fun ib => some (.inn true ia ib))
      | _ => ob (copOf op) fun o => ob (cE n C a) fun ia => ob (cE n C b) fun ib => some (.cmp o ia ib)) else none
    | .Compare a [o1, o2] [b, c] _ => if lastMarks [o1, o2] [b, c] = false then ob (copOf o1) fun p1 => ob (copOf o2) fun p2 => ob (cE n C a) fun ia => ob (cE n C b) fun ib => ob (cE n C c) fun ic => some (.ch p1 p2 ia ib ic) else none
    | .Compare a [o1, o2, o3] [b, c, d] _ => if lastMarks [o1, o2, o3] [b, c, d] = false then ob (copOf o1) fun p1 => ob (copOf o2) fun p2 => ob (copOf o3) fun p3 => ob (cE n C a) fun ia => ob (cE n C b) fun ib => ob (cE n C c) fun ic => ob (cE n C d) fun id => some (.ch3 p1 p2 p3 ia ib ic id) else none
    | .IfExp t a b _ => ob (cE n C t) fun it => ob (cE n C a) fun ia => ob (cE n C b) fun ib => some (.ite it ia ib)
    | .Tuple es _ _ => ob (cEs n C es) fun is => some (.tup is)
    | .List es _ => ob (cEs n C es) fun is => some (.lst is)
    | .Subscript a (.Slice lo hi none _) _ => ob (cE n C a) fun ia => ob (cO n C lo) fun il => ob (cO n C hi) fun ih => some (.sl ia il ih)
    | .Subscript a b _ => if plainIxB b = true then (match ownOf C a with
      | some i => ob (cE n C b) fun ib => some (.ownIx i ib)
      | none => (match a with
        | .Name g _ => if gloB C.sc g = true then (match G.gdic g with
          | some kvs => ob (cE n C b) fun ib => some (.gD ib g kvs)
          | none => none)
          else ob (cE n C a) fun ia => ob (cE n C b) fun ib => some (.ix ia ib)
        | _ => ob (cE n C a) fun ia => ob (cE n C b) fun ib => some (.ix ia ib))) else none
    | .Call (.Name f _) args [] _ => if gloB C.sc f = true then (match args with
      | [] => ob (G.fns f) fun m => if m = 0 then some (.call f .enil) else none
      | [a, .Name t _] => if f = "isinstance" then (if gloB C.sc t = true then ob (tyOf t) fun T => ob (cE n C a) fun ia => some (.isi ia T) else none)
        else cCall n C f args
      | _ => cCall n C f args) else none
    | .Call (.Attribute (.Name o op) m apos) args [] cpos => if (apos.endLine == cpos.line) = true then (match args with
      | [a] => if m = "index" then ob (cE n C (.Name o op)) fun io => ob (cE n C a) fun ia => if isStar a = true then none else some (.mIx io ia) else none
      | [a, b] => if m = "get" then ob (cE n C (.Name o op)) fun io => ob (cE n C a) fun ia => ob (cE n C b) fun ib => if isStar a = true ∨ isStar b = true then none else some (.dGet io ia ib) else none
      | _ => none) else none
    | .Attribute (.Name o op) f _ => ob (flOf f) fun F => ob (cE n C (.Name o op)) fun io => some (.fld io F)
    | .Dict ks vs _ => if ks.length ≤ 15 ∧ ks ≠ [] then ob (dctOf ks vs) fun kvs => if (kvs.map (·.1)).Nodup then some (.dct kvs) else none else none
    | .ListComp elt [⟨tg, it, ifs, 0⟩] scope _ => if blkC C.N C.sc scope (ownSl C.N scope.names) = true then
        ob (cI n C (isTupE tg) it) fun ii => ob (cT { C with sc := scope, ow := [] } tg) fun t => (match ifs with
          | [] => ob (cE n { C with sc := scope, ow := [] } elt) fun ie => some (.lc ii t .nop ie ((ownSl C.N scope.names).map (·.2)))
          | [c] => ob (cE n { C with sc := scope, ow := [] } c) fun ic => ob (cE n { C with sc := scope, ow := [] } elt) fun ie => some (.lc ii t (.tst ic) ie ((ownSl C.N scope.names).map (·.2)))
          | _ => none) else none
    | .ListComp elt [⟨tg, it, [], 0⟩, ⟨tg1, it1, [], 0⟩] scope _ => if blkC C.N C.sc scope (ownSl C.N scope.names) = true then
        ob (cI n C (isTupE tg) it) fun ii => ob (cT { C with sc := scope, ow := [] } tg) fun t => ob (cI n { C with sc := scope, ow := [] } (isTupE tg1) it1) fun ii1 =>
          ob (cT { C with sc := scope, ow := [] } tg1) fun t1 => ob (cE n { C with sc := scope, ow := [] } elt) fun ie => some (.lc2 ii t ii1 t1 ie ((ownSl C.N scope.names).map (·.2)) (tgSl t1)) else none
    | _ => none
/-- a def, a built-in, called by its name -/
def cCall : Nat → CC → Str → List Expr → Option IE
  | 0, _, _, _ => none
  | n + 1, C, f, args => match G.fns f with
    | some m => if m = args.length then ob (cEs n C args) fun is => some (.call f is) else none
    | none => ob (biOf f args.length) fun b => ob (cEs n C args) fun is => some (.bi b is)
def cEs : Nat → CC → List Expr → Option IE
  | 0, _, _ => none
  | _ + 1, _, [] => some .enil
  | n + 1, C, e :: es => if isStar e = true then none else ob (cE n C e) fun ie => ob (cEs n C es) fun is => some (.econs ie is)
def cAnd : Nat → CC → List Expr → Option IE
  | 0, _, _ => none
  | _ + 1, _, [] => none
  | n + 1, C, [e] => cE n C e
  | n + 1, C, e :: es => ob (cE n C e) fun ie => ob (cAnd n C es) fun is => some (.and_ ie is)
def cOr : Nat → CC → List Expr → Option IE
  | 0, _, _ => none
  | _ + 1, _, [] => none
  | n + 1, C, [e] => cE n C e
  | n + 1, C, e :: es => ob (cE n C e) fun ie => ob (cOr n C es) fun is => some (.or_ ie is)
def cO : Nat → CC → Option Expr → Option IE
  | 0, _, _ => none
  | _ + 1, _, none => some .nop
  | n + 1, C, some e => ob (cE n C e) fun ie => some (.si ie)
def cI : Nat → CC → Bool → Expr → Option IE
  | 0, _, _, _ => none
  | n + 1, C, tp, e => match e with
    | .Call (.Name f p) args [] pos => if gloB C.sc f = true then
        (if f = "range" then (match args with
          | [a] => if isStar a = true then none else ob (cE n C a) fun ia => some (.rng1 ia)
          | [a, b] => if isStar a = true ∨ isStar b = true then none else ob (cE n C a) fun ia => ob (cE n C b) fun ib => some (.rng2 ia ib)
          | _ => none)
        else if f = "enumerate" then (match args with
          | [a] => if isStar a = true ∨ tp = false then none else ob (cE n C a) fun ia => some (.enum ia)
          | _ => none)
        else if f = "zip" then (match args with
          | [a, b] => if isStar a = true ∨ isStar b = true ∨ tp = false then none else ob (cE n C a) fun ia => ob (cE n C b) fun ib => some (.zip ia ib)
          | _ => none)
        else ob (cE n C (.Call (.Name f p) args [] pos)) fun ia => some (.seq ia)) else none
    | e => ob (cE n C e) fun ia => some (.seq ia)
end

/-- a list made by the expression itself -/
def freshL : Expr → Bool
  | .List _ _ => true
  | .ListComp _ _ _ _ => true
  | .BinOp (.List _ _) .Mult _ _ => true
  | _ => false
def namesOf : List Expr → List Str
  | [] => []
  | .Name x _ :: r => x :: namesOf r
  | _ :: r => namesOf r
/-- the stores of a written tuple to names that the function alone has, on one line: from the right -/
def swapB (sc : Scope) (ts : List Expr) : Bool := ts.all fun t => match t with
  | .Name x p => decide (sc.names.lookup x = some .local) && decide (p.line = ((ts.head?.map (·.pos.line)).getD 0))
  | _ => false
mutual
def cS : Nat → CC → Stmt → Option IS
  | 0, _, _ => none
  | n + 1, C, st => match st with
    | .Assign [.Name x _] e _ => ob (tgName C (.Name x ⟨0, 0, 0, 0⟩)) fun i => ob (cE G n C e) fun ie => if i ∈ C.ow then (if freshL e = true then some (.own i ie) else none) else some (.asg (.nm i) ie)
    | .Assign [.Tuple ts k p] e _ => ob (tgNames C ts) fun is => if is.any (fun i => decide (i ∈ C.ow)) = true ∨ ¬ is.Nodup then none else (match e with
      | .Tuple vs _ _ => if vs.length = ts.length ∧ (ts.length = 2 ∨ ts.length = 3) ∧ vs.all (foldedForSure 8) = false ∧ vs.all (constantsAlone 8) = false then ob (cE G n C e) fun ie => some (.asg (.tp is) ie) else none
      | _ => ob (cE G n C e) fun ie => some (.asg (.tp is) ie))
    | .Assign [.Subscript o k _] e _ => ob (ownOf C o) fun i => ob (cE G n C e) fun ie => if plainIxB k = true then ob (cE G n C k) fun ik => some (.setI i ik ie) else none
    | .AugAssign (.Name x _) .Add e _ => ob (tgName C (.Name x ⟨0, 0, 0, 0⟩)) fun i => if i ∈ C.ow then ob (cE G n C e) fun ie => some (.ext i ie) else none
    | .AugAssign (.Subscript o k _) .Add e _ => ob (ownOf C o) fun i => if plainIxB k = true then ob (cE G n C k) fun ik => ob (cE G n C e) fun ie => some (.augI i ik ie) else none
    | .Return (some e) _ => ob (cE G n C e) fun ie => some (.ret ie)
    | .Expr (.Call (.Attribute (.Name x xp) m apos) [e] [] cpos) _ => ob (ownOf C (.Name x xp)) fun i => if m = "append" ∧ (apos.endLine == cpos.line) = true ∧ isStar e = false then ob (cE G n C e) fun ie => some (.app i ie) else none
    | .If t a b _ => ob (cE G n C t) fun it => ob (cSs n C a) fun ia => ob (cSs n C b) fun ib => some (.ife it ia ib)
    | .For tg it body [] _ => ob (cI G n C (isTupE tg) it) fun ii => ob (cT C tg) fun t => (match t with
      | .nm i => if i ∈ C.ow then none else ob (cSs n C body) fun ib => some (.for_ ii t ib)
      | .tp is => if is.any (fun i => decide (i ∈ C.ow)) = true then none else ob (cSs n C body) fun ib => some (.for_ ii t ib))
    | .Pass _ => some .skip
    | _ => none
def cSs : Nat → CC → List Stmt → Option IS
  | 0, _, _ => none
  | _ + 1, _, [] => some .skip
  | n + 1, C, [st] => cS n C st
  | n + 1, C, st :: r => ob (cS n C st) fun i => ob (cSs n C r) fun is => some (.seq i is)
end
end
end Cab
set_option Elab.async false
set_option linter.all false
set_option maxRecDepth 100000
/-! The defs in the small language (printed by gen_ir.py). -/
namespace Cab
open PySem L2
def g_ORDERS : List Str := [("number" : Str), ("sat" : Str), ("bags" : Str)]
def g_WORDS : List Str := [("falling" : Str), ("lasting" : Str), ("halved" : Str)]
def g_BY_TABLE : List Str := [("fits" : Str), ("can pay" : Str), ("can be more" : Str)]
def g_LENGTHS : List (Str × Int) := [(("fits" : Str), 4), (("can pay" : Str), 7), (("can be more" : Str), 8), (("none fits" : Str), 4), (("at most" : Str), 7), (("at least" : Str), 7), (("never more" : Str), 8)]
def i_is_integer : IS := (.ret (.and_ (.isi (.v 0) .int) (.nt (.isi (.v 0) .bool))))
def i_is_between : IS := (.ret (.and_ (.call ("is_integer" : Str) (.econs (.v 0) .enil)) (.ch .le .le (.v 1) (.v 0) (.v 2))))
def i_fraction : IS := (.seq (.asg (.nm 2) (.call ("common" : Str) (.econs (.v 0) (.econs (.v 1) .enil))))
  (.ret (.tup (.econs (.bin .fdiv (.v 0) (.v 2)) (.econs (.bin .fdiv (.v 1) (.v 2)) .enil)))))
def i_is_fraction : IS := (.seq (.ife (.or_ (.nt (.isi (.v 0) .tuple)) (.or_ (.cmp .ne (.bi .len (.econs (.v 0) .enil)) (.c (.int 2))) (.or_ (.nt (.call ("is_integer" : Str) (.econs (.ix (.v 0) (.c (.int 0))) .enil))) (.nt (.call ("is_integer" : Str) (.econs (.ix (.v 0) (.c (.int 1))) .enil)))))) (.ret (.c (.bl false))) .skip)
  (.ret (.and_ (.cmp .ge (.ix (.v 0) (.c (.int 1))) (.c (.int 1))) (.cmp .eq (.call ("common" : Str) (.econs (.ix (.v 0) (.c (.int 0))) (.econs (.ix (.v 0) (.c (.int 1))) .enil))) (.c (.int 1))))))
def i_plus : IS := (.ret (.call ("fraction" : Str) (.econs (.bin .add (.bin .mul (.ix (.v 0) (.c (.int 0))) (.ix (.v 1) (.c (.int 1)))) (.bin .mul (.ix (.v 1) (.c (.int 0))) (.ix (.v 0) (.c (.int 1))))) (.econs (.bin .mul (.ix (.v 0) (.c (.int 1))) (.ix (.v 1) (.c (.int 1)))) .enil))))
def i_times : IS := (.ret (.call ("fraction" : Str) (.econs (.bin .mul (.v 0) (.ix (.v 1) (.c (.int 0)))) (.econs (.ix (.v 1) (.c (.int 1))) .enil))))
def i_is_less : IS := (.ret (.cmp .lt (.bin .mul (.ix (.v 0) (.c (.int 0))) (.ix (.v 1) (.c (.int 1)))) (.bin .mul (.ix (.v 1) (.c (.int 0))) (.ix (.v 0) (.c (.int 1))))))
def i_is_rider : IS := (.seq (.ife (.or_ (.nt (.isi (.v 0) .tuple)) (.or_ (.cmp .ne (.bi .len (.econs (.v 0) .enil)) (.c (.int 3))) (.nt (.call ("is_between" : Str) (.econs (.ix (.v 0) (.c (.int 0))) (.econs (.c (.int 0)) (.econs (.bin .sub (.v 1) (.c (.int 1))) .enil))))))) (.ret (.c (.bl false))) .skip)
  (.ret (.and_ (.call ("is_between" : Str) (.econs (.ix (.v 0) (.c (.int 1))) (.econs (.bin .add (.ix (.v 0) (.c (.int 0))) (.c (.int 1))) (.econs (.v 1) .enil)))) (.call ("is_between" : Str) (.econs (.ix (.v 0) (.c (.int 2))) (.econs (.c (.int 0)) (.econs (.c (.int 9)) .enil)))))))
def i_aboard_at : IS := (.ret (.bi .tuple (.econs (.lc (.enum (.v 0)) (.tp [2, 3]) (.tst (.ch .le .lt (.ix (.v 3) (.c (.int 0))) (.v 1) (.ix (.v 3) (.c (.int 1))))) (.v 2) [2, 3]) .enil)))
def i_place_of : IS := (.seq (.ife (.cmp .eq (.v 1) (.c (.str ("sat" : Str)))) (.ret (.tup (.econs (.ix (.ix (.v 0) (.v 2)) (.c (.int 0))) (.econs (.v 2) .enil)))) .skip)
  (.ret (.tup (.econs (.ite (.cmp .eq (.v 1) (.c (.str ("number" : Str)))) (.c (.int 0)) (.neg (.ix (.ix (.v 0) (.v 2)) (.c (.int 2))))) (.econs (.v 2) .enil)))))
def i_is_crowded : IS := (.ret (.bi .any (.econs (.lc (.rng1 (.v 0)) (.nm 2) .nop (.cmp .gt (.bi .len (.econs (.call ("aboard_at" : Str) (.econs (.v 1) (.econs (.v 2) .enil))) .enil)) (.c (.int 4))) [2]) .enil)))
def i_places : IS := (.ret (.lc2 (.rng2 (.c (.int 1)) (.bin .add (.c (.int 4)) (.c (.int 1)))) (.nm 0) (.rng2 (.c (.int 1)) (.bin .add (.v 0) (.c (.int 1)))) (.nm 1) (.tup (.econs (.v 0) (.econs (.v 1) .enil))) [0, 1] [1]))
def i_place_in_row : IS := (.ret (.bin .sub (.bin .add (.bin .fdiv (.bin .mul (.v 0) (.bin .sub (.v 0) (.c (.int 1)))) (.c (.int 2))) (.v 1)) (.c (.int 1))))
def i_form_of : IS := (.seq (.own 2 (.bin .mul (.lst (.econs (.c (.int 0)) .enil)) (.bi .len (.econs (.call ("places" : Str) .enil) .enil))))
  (.seq (.for_ (.seq (.v 1)) (.tp [3, 4]) (.augI 2 (.v 3) (.v 4)))
  (.ret (.tup (.econs (.v 0) (.econs (.bi .tuple (.econs (.v 2) .enil)) .enil))))))
def i_fare_form : IS := (.seq (.own 3 (.lst .enil))
  (.seq (.for_ (.enum (.fld (.v 0) .costs)) (.tp [4, 5]) (.seq (.asg (.nm 6) (.call ("ranked_at" : Str) (.econs (.fld (.v 0) .riders) (.econs (.v 1) (.econs (.v 4) .enil)))))
  (.ife (.inn false (.v 2) (.v 6)) (.app 3 (.tup (.econs (.call ("place_in_row" : Str) (.econs (.bi .len (.econs (.v 6) .enil)) (.econs (.bin .add (.mIx (.v 6) (.v 2)) (.c (.int 1))) .enil))) (.econs (.v 5) .enil)))) .skip)))
  (.ret (.call ("form_of" : Str) (.econs (.c (.int 0)) (.econs (.v 3) .enil))))))
def i_joined : IS := (.seq (.asg (.nm 4) (.lc (.zip (.ix (.v 0) (.c (.int 1))) (.ix (.v 2) (.c (.int 1)))) (.tp [5, 6]) .nop (.bin .add (.bin .mul (.v 1) (.v 5)) (.bin .mul (.v 3) (.v 6))) [5, 6]))
  (.ret (.tup (.econs (.bin .add (.bin .mul (.v 1) (.ix (.v 0) (.c (.int 0)))) (.bin .mul (.v 3) (.ix (.v 2) (.c (.int 0))))) (.econs (.bi .tuple (.econs (.v 4) .enil)) .enil)))))
def i_corners : IS := (.seq (.own 1 (.lst .enil))
  (.seq (.for_ (.rng2 (.c (.int 1)) (.bin .add (.c (.int 4)) (.c (.int 1)))) (.nm 2) (.seq (.asg (.nm 3) (.call ("place_in_row" : Str) (.econs (.v 2) (.econs (.c (.int 1)) .enil))))
  (.app 1 (.lc (.rng2 (.c (.int 1)) (.bin .add (.v 2) (.c (.int 1)))) (.nm 4) .nop (.bin .mul (.bi .sum (.econs (.sl (.ix (.v 0) (.c (.int 1))) (.si (.v 3)) (.si (.bin .add (.v 3) (.v 4)))) .enil)) (.bin .fdiv (.c (.int 12)) (.v 4))) [4]))))
  (.ret (.v 1))))
def i_greatest_of : IS := (.ret (.bin .add (.bin .mul (.c (.int 12)) (.ix (.v 0) (.c (.int 0)))) (.bi .sum (.econs (.lc (.seq (.call ("corners" : Str) (.econs (.v 0) .enil))) (.nm 1) .nop (.bi .maxl (.econs (.v 1) .enil)) [1]) .enil))))
def i_is_row : IS := (.seq (.ife (.or_ (.nt (.isi (.v 0) .tuple)) (.or_ (.cmp .ne (.bi .len (.econs (.v 0) .enil)) (.v 1)) (.nt (.bi .all (.econs (.lc (.seq (.v 0)) (.nm 3) .nop (.call ("is_fraction" : Str) (.econs (.v 3) .enil)) [3]) .enil))))) (.ret (.c (.bl false))) .skip)
  (.seq (.asg (.nm 2) (.tup (.econs (.c (.int 0)) (.econs (.c (.int 1)) .enil))))
  (.seq (.for_ (.seq (.v 0)) (.nm 3) (.asg (.nm 2) (.call ("plus" : Str) (.econs (.v 2) (.econs (.v 3) .enil)))))
  (.seq (.asg (.nm 4) (.bi .all (.econs (.lc (.zip (.v 0) (.sl (.v 0) (.si (.c (.int 1))) .nop)) (.tp [5, 6]) .nop (.nt (.call ("is_less" : Str) (.econs (.v 5) (.econs (.v 6) .enil)))) [5, 6]) .enil)))
  (.ret (.and_ (.v 4) (.and_ (.cmp .ge (.ix (.ix (.v 0) (.neg (.c (.int 1)))) (.c (.int 0))) (.c (.int 0))) (.cmp .eq (.v 2) (.tup (.econs (.c (.int 1)) (.econs (.c (.int 1)) .enil)))))))))))
def i_lasting_clauses : IS := (.seq (.own 0 (.lst .enil))
  (.seq (.for_ (.rng2 (.c (.int 1)) (.c (.int 4))) (.nm 1) (.for_ (.rng2 (.c (.int 1)) (.bin .add (.v 1) (.c (.int 1)))) (.nm 2) (.seq (.app 0 (.tup (.econs (.bin .add (.v 1) (.c (.int 1))) (.econs (.v 2) (.econs (.v 1) (.econs (.v 2) (.econs (.c (.int 1)) (.econs (.c (.int 1)) .enil))))))))
  (.app 0 (.tup (.econs (.bin .add (.v 1) (.c (.int 1))) (.econs (.bin .add (.v 2) (.c (.int 1))) (.econs (.v 1) (.econs (.v 2) (.econs (.c (.int 1)) (.econs (.c (.int 1)) .enil)))))))))))
  (.ret (.bi .tuple (.econs (.v 0) .enil)))))
def i_halved_clauses : IS := (.seq (.own 0 (.lst .enil))
  (.seq (.for_ (.rng2 (.c (.int 2)) (.bin .add (.c (.int 4)) (.c (.int 1)))) (.nm 1) (.ext 0 (.lc (.rng2 (.c (.int 1)) (.v 1)) (.nm 2) .nop (.tup (.econs (.v 1) (.econs (.v 2) (.econs (.v 1) (.econs (.bin .add (.v 2) (.c (.int 1))) (.econs (.c (.int 2)) (.econs (.c (.int 1)) .enil))))))) [2])))
  (.ret (.bi .tuple (.econs (.v 0) .enil)))))
def i_is_clause : IS := (.seq (.ife (.or_ (.nt (.isi (.v 0) .tuple)) (.cmp .ne (.bi .len (.econs (.v 0) .enil)) (.c (.int 6)))) (.ret (.c (.bl false))) .skip)
  (.seq (.for_ (.seq (.tup (.econs (.sl (.v 0) .nop (.si (.c (.int 2)))) (.econs (.sl (.v 0) (.si (.c (.int 2))) (.si (.c (.int 4)))) .enil)))) (.tp [1, 2]) (.ife (.or_ (.nt (.call ("is_between" : Str) (.econs (.v 1) (.econs (.c (.int 1)) (.econs (.c (.int 4)) .enil))))) (.nt (.call ("is_between" : Str) (.econs (.v 2) (.econs (.c (.int 1)) (.econs (.v 1) .enil)))))) (.ret (.c (.bl false))) .skip))
  (.ret (.and_ (.call ("is_between" : Str) (.econs (.ix (.v 0) (.c (.int 4))) (.econs (.c (.int 0)) (.econs (.c (.int 100)) .enil)))) (.call ("is_between" : Str) (.econs (.ix (.v 0) (.c (.int 5))) (.econs (.c (.int 1)) (.econs (.c (.int 100)) .enil))))))))
def i_is_custom : IS := (.seq (.ife (.isi (.v 0) .str) (.ret (.inC false (.v 0) ("WORDS" : Str) g_WORDS)) .skip)
  (.ret (.and_ (.isi (.v 0) .tuple) (.and_ (.cmp .le (.bi .len (.econs (.v 0) .enil)) (.c (.int 12))) (.bi .all (.econs (.lc (.seq (.v 0)) (.nm 1) .nop (.call ("is_clause" : Str) (.econs (.v 1) .enil)) [1]) .enil))))))
def i_clauses_of : IS := (.seq (.ife (.nt (.isi (.v 0) .str)) (.ret (.v 0)) .skip)
  (.seq (.ife (.cmp .eq (.v 0) (.c (.str ("falling" : Str)))) (.ret (.tup .enil)) .skip)
  (.ret (.ite (.cmp .eq (.v 0) (.c (.str ("lasting" : Str)))) (.call ("lasting_clauses" : Str) .enil) (.call ("halved_clauses" : Str) .enil)))))
def i_clause_form : IS := (.seq (.asg (.tp [1, 2, 3, 4, 5, 6]) (.v 0))
  (.seq (.asg (.nm 7) (.lst (.econs (.tup (.econs (.call ("place_in_row" : Str) (.econs (.v 3) (.econs (.v 4) .enil))) (.econs (.v 5) .enil))) (.econs (.tup (.econs (.call ("place_in_row" : Str) (.econs (.v 1) (.econs (.v 2) .enil))) (.econs (.neg (.v 6)) .enil))) .enil))))
  (.ret (.call ("form_of" : Str) (.econs (.c (.int 0)) (.econs (.v 7) .enil))))))
def i_is_amounts : IS := (.seq (.ife (.or_ (.nt (.isi (.v 0) .tuple)) (.cmp .ne (.bi .len (.econs (.v 0) .enil)) (.v 1))) (.ret (.c (.bl false))) .skip)
  (.ret (.bi .all (.econs (.lc (.seq (.v 0)) (.nm 2) .nop (.or_ (.isN false (.v 2)) (.call ("is_between" : Str) (.econs (.v 2) (.econs (.c (.int 0)) (.econs (.c (.int 100000000)) .enil))))) [2]) .enil))))
def i_is_receipt : IS := (.seq (.ife (.or_ (.nt (.isi (.v 0) .tuple)) (.or_ (.cmp .ne (.bi .len (.econs (.v 0) .enil)) (.c (.int 3))) (.nt (.isi (.ix (.v 0) (.c (.int 0))) .ride)))) (.ret (.c (.bl false))) .skip)
  (.ret (.and_ (.call ("is_amounts" : Str) (.econs (.ix (.v 0) (.c (.int 1))) (.econs (.bi .len (.econs (.ix (.v 0) (.c (.int 0))) .enil)) .enil))) (.call ("is_between" : Str) (.econs (.ix (.v 0) (.c (.int 2))) (.econs (.c (.int 0)) (.econs (.c (.int 1000)) .enil)))))))
def i_room_forms : IS := (.seq (.own 3 (.lc (.seq (.call ("clauses_of" : Str) (.econs (.v 0) .enil))) (.nm 10) .nop (.call ("clause_form" : Str) (.econs (.v 10) .enil)) [10]))
  (.seq (.for_ (.seq (.v 2)) (.tp [4, 5, 6]) (.for_ (.enum (.v 5)) (.tp [7, 8]) (.ife (.isN true (.v 8)) (.seq (.asg (.nm 9) (.call ("fare_form" : Str) (.econs (.v 4) (.econs (.v 1) (.econs (.v 7) .enil)))))
  (.seq (.app 3 (.call ("joined" : Str) (.econs (.call ("form_of" : Str) (.econs (.bin .add (.v 8) (.v 6)) (.econs (.lst .enil) .enil))) (.econs (.c (.int 1)) (.econs (.v 9) (.econs (.neg (.c (.int 1))) .enil))))))
  (.app 3 (.call ("joined" : Str) (.econs (.call ("form_of" : Str) (.econs (.bin .sub (.v 6) (.v 8)) (.econs (.lst .enil) .enil))) (.econs (.c (.int 1)) (.econs (.v 9) (.econs (.c (.int 1)) .enil)))))))) .skip)))
  (.ret (.v 3))))
def i_worth : IS := (.seq (.asg (.nm 2) (.tup (.econs (.ix (.v 0) (.c (.int 0))) (.econs (.c (.int 1)) .enil))))
  (.seq (.asg (.nm 3) (.lc2 (.seq (.v 1)) (.nm 6) (.seq (.v 6)) (.nm 5) (.v 5) [6, 5] [5]))
  (.seq (.for_ (.zip (.ix (.v 0) (.c (.int 1))) (.v 3)) (.tp [4, 5]) (.asg (.nm 2) (.call ("plus" : Str) (.econs (.v 2) (.econs (.call ("times" : Str) (.econs (.v 4) (.econs (.v 5) .enil))) .enil)))))
  (.ret (.v 2)))))
def i_keeps : IS := (.ret (.bi .all (.econs (.lc (.seq (.v 1)) (.nm 2) .nop (.cmp .ge (.ix (.call ("worth" : Str) (.econs (.v 2) (.econs (.v 0) .enil))) (.c (.int 0))) (.c (.int 0))) [2]) .enil)))
def i_receipts_of : IS := (.seq (.ife (.or_ (.nt (.isi (.v 0) .tuple)) (.cmp .gt (.bi .len (.econs (.v 0) .enil)) (.c (.int 6)))) (.ret (.c .non)) .skip)
  (.seq (.own 1 (.lst .enil))
  (.seq (.for_ (.seq (.v 0)) (.nm 2) (.seq (.ife (.or_ (.nt (.isi (.v 2) .tuple)) (.cmp .ne (.bi .len (.econs (.v 2) .enil)) (.c (.int 3)))) (.ret (.c .non)) .skip)
  (.seq (.asg (.nm 3) (.tup (.econs (.call ("ride_of" : Str) (.econs (.ix (.v 2) (.c (.int 0))) .enil)) (.econs (.ix (.v 2) (.c (.int 1))) (.econs (.ix (.v 2) (.c (.int 2))) .enil)))))
  (.seq (.ife (.nt (.call ("is_receipt" : Str) (.econs (.v 3) .enil))) (.ret (.c .non)) .skip)
  (.app 1 (.v 3))))))
  (.ret (.bi .tuple (.econs (.v 1) .enil))))))
def i_is_table : IS := (.seq (.ife (.or_ (.nt (.isi (.v 0) .tuple)) (.cmp .ne (.bi .len (.econs (.v 0) .enil)) (.c (.int 4)))) (.ret (.c (.bl false))) .skip)
  (.ret (.bi .all (.econs (.lc (.enum (.v 0)) (.tp [1, 2]) .nop (.call ("is_row" : Str) (.econs (.v 2) (.econs (.bin .add (.v 1) (.c (.int 1))) .enil))) [1, 2]) .enil))))
def i_fare_told : IS := (.seq (.asg (.nm 3) (.call ("ride_of" : Str) (.econs (.v 0) .enil)))
  (.seq (.ife (.or_ (.isN false (.v 3)) (.nt (.call ("is_between" : Str) (.econs (.v 1) (.econs (.c (.int 0)) (.econs (.bin .sub (.bi .len (.econs (.v 3) .enil)) (.c (.int 1))) .enil)))))) (.ret (.c .non)) .skip)
  (.ret (.call ("fare_form" : Str) (.econs (.v 3) (.econs (.v 2) (.econs (.v 1) .enil)))))))
def i_aim_of : IS := (.seq (.ife (.cmp .eq (.bi .len (.econs (.v 0) .enil)) (.c (.int 4))) (.ret (.tup (.econs (.call ("form_of" : Str) (.econs (.c (.int 0)) (.econs (.lst .enil) .enil))) (.econs (.c (.int 1)) .enil)))) .skip)
  (.seq (.asg (.nm 1) (.call ("fare_told" : Str) (.econs (.ix (.v 0) (.c (.int 4))) (.econs (.ix (.v 0) (.c (.int 5))) (.econs (.ix (.v 0) (.c (.int 2))) .enil)))))
  (.seq (.ife (.isN false (.v 1)) (.ret (.c .non)) .skip)
  (.seq (.ife (.cmp .eq (.bi .len (.econs (.v 0) .enil)) (.c (.int 8))) (.seq (.asg (.nm 2) (.call ("fare_told" : Str) (.econs (.ix (.v 0) (.c (.int 6))) (.econs (.ix (.v 0) (.c (.int 7))) (.econs (.ix (.v 0) (.c (.int 2))) .enil)))))
  (.ret (.ite (.isN false (.v 2)) (.c .non) (.tup (.econs (.call ("joined" : Str) (.econs (.v 1) (.econs (.c (.int 1)) (.econs (.v 2) (.econs (.neg (.c (.int 1))) .enil))))) (.econs (.c (.int 1)) .enil)))))) .skip)
  (.seq (.ife (.nt (.call ("is_fraction" : Str) (.econs (.ix (.v 0) (.c (.int 6))) .enil))) (.ret (.c .non)) .skip)
  (.seq (.asg (.tp [3, 4]) (.ix (.v 0) (.c (.int 6))))
  (.seq (.asg (.nm 5) (.ite (.cmp .eq (.ix (.v 0) (.c (.int 0))) (.c (.str ("at least" : Str)))) (.neg (.c (.int 1))) (.c (.int 1))))
  (.ret (.tup (.econs (.call ("joined" : Str) (.econs (.v 1) (.econs (.bin .mul (.v 5) (.v 4)) (.econs (.call ("form_of" : Str) (.econs (.neg (.v 3)) (.econs (.lst .enil) .enil))) (.econs (.v 5) .enil))))) (.econs (.v 4) .enil)))))))))))
def i_by_table : IS := (.seq (.ife (.or_ (.nt (.call ("is_table" : Str) (.econs (.v 3) .enil))) (.nt (.call ("keeps" : Str) (.econs (.v 3) (.econs (.v 2) .enil))))) (.ret (.c (.bl false))) .skip)
  (.seq (.asg (.nm 4) (.ix (.call ("worth" : Str) (.econs (.v 1) (.econs (.v 3) .enil))) (.c (.int 0))))
  (.ret (.or_ (.cmp .eq (.v 0) (.c (.str ("fits" : Str)))) (.ite (.cmp .eq (.v 0) (.c (.str ("can pay" : Str)))) (.cmp .eq (.v 4) (.c (.int 0))) (.cmp .gt (.v 4) (.c (.int 0))))))))
def i_is_natural : IS := (.ret (.and_ (.call ("is_integer" : Str) (.econs (.v 0) .enil)) (.cmp .ge (.v 0) (.c (.int 0)))))
def i_is_pair : IS := (.seq (.ife (.or_ (.nt (.isi (.v 0) .tuple)) (.or_ (.cmp .ne (.bi .len (.econs (.v 0) .enil)) (.c (.int 2))) (.nt (.call ("is_natural" : Str) (.econs (.ix (.v 0) (.c (.int 0))) .enil))))) (.ret (.c (.bl false))) .skip)
  (.seq (.ife (.or_ (.nt (.isi (.ix (.v 0) (.c (.int 1))) .tuple)) (.cmp .ne (.bi .len (.econs (.ix (.v 0) (.c (.int 1))) .enil)) (.v 1))) (.ret (.c (.bl false))) .skip)
  (.ret (.bi .all (.econs (.lc (.seq (.ix (.v 0) (.c (.int 1)))) (.nm 2) .nop (.call ("is_natural" : Str) (.econs (.v 2) .enil)) [2]) .enil)))))
def i_by_numbers : IS := (.seq (.ife (.nt (.call ("is_pair" : Str) (.econs (.v 4) (.econs (.bi .len (.econs (.v 3) .enil)) .enil)))) (.ret (.c (.bl false))) .skip)
  (.seq (.asg (.nm 5) (.call ("joined" : Str) (.econs (.v 1) (.econs (.ix (.v 4) (.c (.int 0))) (.econs (.call ("form_of" : Str) (.econs (.c (.int 0)) (.econs (.lst .enil) .enil))) (.econs (.c (.int 0)) .enil))))))
  (.seq (.for_ (.zip (.v 3) (.ix (.v 4) (.c (.int 1)))) (.tp [6, 7]) (.asg (.nm 5) (.call ("joined" : Str) (.econs (.v 5) (.econs (.c (.int 1)) (.econs (.v 6) (.econs (.bin .mul (.v 2) (.v 7)) .enil)))))))
  (.seq (.ife (.cmp .eq (.v 0) (.c (.str ("none fits" : Str)))) (.ret (.cmp .lt (.call ("greatest_of" : Str) (.econs (.v 5) .enil)) (.c (.int 0)))) .skip)
  (.ret (.and_ (.cmp .ge (.ix (.v 4) (.c (.int 0))) (.c (.int 1))) (.cmp .le (.call ("greatest_of" : Str) (.econs (.v 5) .enil)) (.c (.int 0)))))))))
def i_holds : IS := (.seq (.ife (.or_ (.nt (.isi (.v 0) .tuple)) (.or_ (.cmp .eq (.bi .len (.econs (.v 0) .enil)) (.c (.int 0))) (.nt (.isi (.ix (.v 0) (.c (.int 0))) .str)))) (.ret (.c (.bl false))) .skip)
  (.seq (.ife (.or_ (.inG true (.ix (.v 0) (.c (.int 0))) ("LENGTHS" : Str) g_LENGTHS) (.cmp .ne (.bi .len (.econs (.v 0) .enil)) (.gD (.ix (.v 0) (.c (.int 0))) ("LENGTHS" : Str) g_LENGTHS))) (.ret (.c (.bl false))) .skip)
  (.seq (.asg (.tp [2, 3, 4]) (.tup (.econs (.ix (.v 0) (.c (.int 1))) (.econs (.ix (.v 0) (.c (.int 2))) (.econs (.call ("receipts_of" : Str) (.econs (.ix (.v 0) (.c (.int 3))) .enil)) .enil)))))
  (.seq (.ife (.or_ (.nt (.call ("is_custom" : Str) (.econs (.v 2) .enil))) (.or_ (.nt (.isi (.v 3) .str)) (.or_ (.inC true (.v 3) ("ORDERS" : Str) g_ORDERS) (.isN false (.v 4))))) (.ret (.c (.bl false))) .skip)
  (.seq (.asg (.nm 5) (.call ("aim_of" : Str) (.econs (.v 0) .enil)))
  (.seq (.ife (.isN false (.v 5)) (.ret (.c (.bl false))) .skip)
  (.seq (.asg (.nm 6) (.call ("room_forms" : Str) (.econs (.v 2) (.econs (.v 3) (.econs (.v 4) .enil)))))
  (.seq (.ife (.inC false (.ix (.v 0) (.c (.int 0))) ("BY_TABLE" : Str) g_BY_TABLE) (.ret (.call ("by_table" : Str) (.econs (.ix (.v 0) (.c (.int 0))) (.econs (.ix (.v 5) (.c (.int 0))) (.econs (.v 6) (.econs (.v 1) .enil)))))) .skip)
  (.ret (.call ("by_numbers" : Str) (.econs (.ix (.v 0) (.c (.int 0))) (.econs (.ix (.v 5) (.c (.int 0))) (.econs (.ix (.v 5) (.c (.int 1))) (.econs (.v 6) (.econs (.v 1) .enil)))))))))))))))
def i__law_from : IS := (.ret (.and_ (.isi (.v 0) .int) (.and_ (.nt (.isi (.v 0) .bool)) (.cmp .ge (.v 0) (.c (.int 0))))))
def i__law_of : IS := (.ret (.ix (.v 1) (.call ("_law_take" : Str) (.econs (.v 0) (.econs (.bi .len (.econs (.v 1) .enil)) .enil)))))
def i__law_whole : IS := (.ret (.and_ (.isi (.v 0) .int) (.and_ (.nt (.isi (.v 0) .bool)) (.ch .le .le (.v 1) (.v 0) (.v 2)))))
def i__law_plus : IS := (.ret (.call ("_law_less" : Str) (.econs (.bin .add (.bin .mul (.ix (.v 0) (.c (.int 0))) (.ix (.v 1) (.c (.int 1)))) (.bin .mul (.ix (.v 1) (.c (.int 0))) (.ix (.v 0) (.c (.int 1))))) (.econs (.bin .mul (.ix (.v 0) (.c (.int 1))) (.ix (.v 1) (.c (.int 1)))) .enil))))
def i__law_is_part : IS := (.seq (.ife (.or_ (.nt (.isi (.v 0) .tuple)) (.cmp .ne (.bi .len (.econs (.v 0) .enil)) (.c (.int 2)))) (.ret (.c (.bl false))) .skip)
  (.seq (.ife (.or_ (.nt (.bi .all (.econs (.lc (.seq (.v 0)) (.nm 1) .nop (.and_ (.isi (.v 1) .int) (.nt (.isi (.v 1) .bool))) [1]) .enil))) (.cmp .lt (.ix (.v 0) (.c (.int 1))) (.c (.int 1)))) (.ret (.c (.bl false))) .skip)
  (.ret (.cmp .eq (.call ("_law_less" : Str) (.econs (.ix (.v 0) (.c (.int 0))) (.econs (.ix (.v 0) (.c (.int 1))) .enil))) (.v 0)))))
def i__law_is_sheet : IS := (.seq (.ife (.or_ (.nt (.isi (.v 0) .tuple)) (.cmp .ne (.bi .len (.econs (.v 0) .enil)) (.c (.int 4)))) (.ret (.c (.bl false))) .skip)
  (.seq (.for_ (.rng1 (.c (.int 4))) (.nm 1) (.seq (.asg (.tp [2, 3]) (.tup (.econs (.ix (.v 0) (.v 1)) (.econs (.tup (.econs (.c (.int 0)) (.econs (.c (.int 1)) .enil))) .enil))))
  (.seq (.ife (.or_ (.nt (.isi (.v 2) .tuple)) (.or_ (.cmp .ne (.bi .len (.econs (.v 2) .enil)) (.bin .add (.v 1) (.c (.int 1)))) (.nt (.bi .all (.econs (.lc (.seq (.v 2)) (.nm 4) .nop (.call ("_law_is_part" : Str) (.econs (.v 4) .enil)) [4]) .enil))))) (.ret (.c (.bl false))) .skip)
  (.seq (.for_ (.seq (.v 2)) (.nm 4) (.asg (.nm 3) (.call ("_law_plus" : Str) (.econs (.v 3) (.econs (.v 4) .enil)))))
  (.seq (.asg (.nm 5) (.lc (.rng1 (.v 1)) (.nm 6) .nop (.cmp .le (.bin .mul (.ix (.ix (.v 2) (.bin .add (.v 6) (.c (.int 1)))) (.c (.int 0))) (.ix (.ix (.v 2) (.v 6)) (.c (.int 1)))) (.bin .mul (.ix (.ix (.v 2) (.v 6)) (.c (.int 0))) (.ix (.ix (.v 2) (.bin .add (.v 6) (.c (.int 1)))) (.c (.int 1))))) [6]))
  (.ife (.or_ (.cmp .ne (.v 3) (.tup (.econs (.c (.int 1)) (.econs (.c (.int 1)) .enil)))) (.or_ (.cmp .lt (.ix (.ix (.v 2) (.v 1)) (.c (.int 0))) (.c (.int 0))) (.nt (.bi .all (.econs (.v 5) .enil))))) (.ret (.c (.bl false))) .skip))))))
  (.ret (.c (.bl true)))))
def i__law_full : IS := (.seq (.for_ (.rng1 (.v 1)) (.nm 2) (.ife (.cmp .gt (.bi .len (.econs (.lc (.seq (.v 0)) (.nm 3) (.tst (.and_ (.cmp .le (.ix (.v 3) (.c (.int 0))) (.v 2)) (.cmp .lt (.v 2) (.ix (.v 3) (.c (.int 1)))))) (.v 3) [3]) .enil)) (.c (.int 4))) (.ret (.c (.bl true))) .skip))
  (.ret (.c (.bl false))))
def i__law_told : IS := (.seq (.asg (.nm 1) (.bin .add (.c (.int 1)) (.call ("_law_take" : Str) (.econs (.v 0) (.econs (.c (.int 5)) .enil)))))
  (.seq (.asg (.nm 2) (.bi .tuple (.econs (.lc (.rng1 (.v 1)) (.nm 7) .nop (.call ("_law_of" : Str) (.econs (.v 0) (.econs (.lst (.econs (.c (.int 0)) (.econs (.c (.int 1)) (.econs (.c (.int 6)) (.econs (.c (.int 10)) (.econs (.c (.int 12)) (.econs (.c (.int 60)) (.econs (.c (.int 999)) (.econs (.bin .pow (.c (.int 10)) (.c (.int 6))) .enil))))))))) .enil))) [7]) .enil)))
  (.seq (.own 3 (.lst .enil))
  (.seq (.for_ (.rng1 (.bin .add (.c (.int 1)) (.call ("_law_take" : Str) (.econs (.v 0) (.econs (.c (.int 6)) .enil))))) (.nm 4) (.seq (.asg (.nm 5) (.call ("_law_take" : Str) (.econs (.v 0) (.econs (.v 1) .enil))))
  (.seq (.asg (.nm 6) (.tup (.econs (.v 5) (.econs (.bin .add (.bin .add (.v 5) (.c (.int 1))) (.call ("_law_take" : Str) (.econs (.v 0) (.econs (.bin .sub (.v 1) (.v 5)) .enil)))) (.econs (.call ("_law_of" : Str) (.econs (.v 0) (.econs (.lst (.econs (.c (.int 0)) (.econs (.c (.int 0)) (.econs (.c (.int 1)) (.econs (.c (.int 4)) (.econs (.c (.int 9)) .enil)))))) .enil))) .enil)))))
  (.ife (.nt (.call ("_law_full" : Str) (.econs (.ownCat 3 (.lst (.econs (.v 6) .enil))) (.econs (.v 1) .enil)))) (.app 3 (.v 6)) .skip))))
  (.ret (.tup (.econs (.v 2) (.econs (.bi .tuple (.econs (.v 3) .enil)) .enil))))))))
def i__law_ranked : IS := (.seq (.own 3 (.lst .enil))
  (.seq (.for_ (.rng1 (.bi .len (.econs (.v 0) .enil))) (.nm 4) (.seq (.asg (.tp [5, 6, 7]) (.ix (.v 0) (.v 4)))
  (.ife (.and_ (.cmp .le (.v 5) (.v 2)) (.cmp .lt (.v 2) (.v 6))) (.app 3 (.tup (.econs (.ite (.cmp .eq (.v 1) (.c (.str ("sat" : Str)))) (.v 5) (.ite (.cmp .eq (.v 1) (.c (.str ("bags" : Str)))) (.neg (.v 7)) (.c (.int 0)))) (.econs (.v 4) .enil)))) .skip)))
  (.ret (.lc (.seq (.bi .sorted (.econs (.v 3) .enil))) (.tp [8, 4]) .nop (.v 4) [8, 4]))))
def i__law_fare : IS := (.seq (.own 3 (.bin .mul (.lst (.econs (.c (.int 0)) .enil)) (.c (.int 10))))
  (.seq (.for_ (.rng1 (.bi .len (.econs (.ix (.v 0) (.c (.int 0))) .enil))) (.nm 4) (.seq (.asg (.nm 5) (.call ("_law_ranked" : Str) (.econs (.ix (.v 0) (.c (.int 1))) (.econs (.v 1) (.econs (.v 4) .enil)))))
  (.ife (.inn false (.v 2) (.v 5)) (.seq (.asg (.nm 6) (.bin .add (.bin .fdiv (.bin .mul (.bi .len (.econs (.v 5) .enil)) (.bin .sub (.bi .len (.econs (.v 5) .enil)) (.c (.int 1)))) (.c (.int 2))) (.mIx (.v 5) (.v 2))))
  (.setI 3 (.v 6) (.bin .add (.ownIx 3 (.v 6)) (.ix (.ix (.v 0) (.c (.int 0))) (.v 4))))) .skip)))
  (.ret (.tup (.econs (.c (.int 0)) (.econs (.v 3) .enil))))))
def i__law_mix : IS := (.seq (.asg (.nm 4) (.lc (.rng1 (.c (.int 10))) (.nm 5) .nop (.bin .add (.bin .mul (.v 1) (.ix (.ix (.v 0) (.c (.int 1))) (.v 5))) (.bin .mul (.v 3) (.ix (.ix (.v 2) (.c (.int 1))) (.v 5)))) [5]))
  (.ret (.tup (.econs (.bin .add (.bin .mul (.v 1) (.ix (.v 0) (.c (.int 0)))) (.bin .mul (.v 3) (.ix (.v 2) (.c (.int 0))))) (.econs (.v 4) .enil)))))
def i__law_at : IS := (.seq (.asg (.tp [2, 3]) (.tup (.econs (.tup (.econs (.ix (.v 0) (.c (.int 0))) (.econs (.c (.int 1)) .enil))) (.econs (.bin .add (.bin .add (.bin .add (.ix (.v 1) (.c (.int 0))) (.ix (.v 1) (.c (.int 1)))) (.ix (.v 1) (.c (.int 2)))) (.ix (.v 1) (.c (.int 3)))) .enil))))
  (.seq (.for_ (.rng1 (.c (.int 10))) (.nm 4) (.asg (.nm 2) (.call ("_law_plus" : Str) (.econs (.v 2) (.econs (.call ("_law_less" : Str) (.econs (.bin .mul (.ix (.ix (.v 0) (.c (.int 1))) (.v 4)) (.ix (.ix (.v 3) (.v 4)) (.c (.int 0)))) (.econs (.ix (.ix (.v 3) (.v 4)) (.c (.int 1))) .enil))) .enil)))))
  (.ret (.v 2))))
def i__law_top : IS := (.seq (.asg (.nm 1) (.bin .mul (.c (.int 12)) (.ix (.v 0) (.c (.int 0)))))
  (.seq (.for_ (.rng2 (.c (.int 1)) (.c (.int 5))) (.nm 2) (.seq (.asg (.nm 3) (.bin .fdiv (.bin .mul (.v 2) (.bin .sub (.v 2) (.c (.int 1)))) (.c (.int 2))))
  (.asg (.nm 1) (.bin .add (.v 1) (.bi .maxl (.econs (.lc (.rng2 (.c (.int 1)) (.bin .add (.v 2) (.c (.int 1)))) (.nm 4) .nop (.bin .mul (.bi .sum (.econs (.sl (.ix (.v 0) (.c (.int 1))) (.si (.v 3)) (.si (.bin .add (.v 3) (.v 4)))) .enil)) (.bin .fdiv (.c (.int 12)) (.v 4))) [4]) .enil))))))
  (.ret (.v 1))))
def i__law_rules : IS := (.seq (.asg (.nm 1) (.lst .enil))
  (.seq (.for_ (.seq (.ite (.cmp .eq (.v 0) (.c (.str ("lasting" : Str)))) (.lst (.econs (.c (.int 1)) (.econs (.c (.int 2)) (.econs (.c (.int 3)) .enil)))) (.lst .enil))) (.nm 2) (.for_ (.rng2 (.c (.int 1)) (.bin .add (.v 2) (.c (.int 1)))) (.nm 3) (.asg (.nm 1) (.bin .add (.v 1) (.lst (.econs (.tup (.econs (.bin .add (.v 2) (.c (.int 1))) (.econs (.v 3) (.econs (.v 2) (.econs (.v 3) (.econs (.c (.int 1)) (.econs (.c (.int 1)) .enil))))))) (.econs (.tup (.econs (.bin .add (.v 2) (.c (.int 1))) (.econs (.bin .add (.v 3) (.c (.int 1))) (.econs (.v 2) (.econs (.v 3) (.econs (.c (.int 1)) (.econs (.c (.int 1)) .enil))))))) .enil)))))))
  (.seq (.for_ (.seq (.ite (.cmp .eq (.v 0) (.c (.str ("halved" : Str)))) (.lst (.econs (.c (.int 2)) (.econs (.c (.int 3)) (.econs (.c (.int 4)) .enil)))) (.lst .enil))) (.nm 2) (.asg (.nm 1) (.bin .add (.v 1) (.lc (.rng2 (.c (.int 1)) (.v 2)) (.nm 3) .nop (.tup (.econs (.v 2) (.econs (.v 3) (.econs (.v 2) (.econs (.bin .add (.v 3) (.c (.int 1))) (.econs (.c (.int 2)) (.econs (.c (.int 1)) .enil))))))) [3]))))
  (.ret (.ite (.isi (.v 0) .str) (.v 1) (.bi .list (.econs (.v 0) .enil)))))))
def i__law_rooms : IS := (.seq (.own 3 (.lst .enil))
  (.seq (.for_ (.seq (.call ("_law_rules" : Str) (.econs (.v 0) .enil))) (.tp [4, 5, 6, 7, 8, 9]) (.seq (.own 10 (.bin .mul (.lst (.econs (.c (.int 0)) .enil)) (.c (.int 10))))
  (.seq (.setI 10 (.bin .sub (.bin .add (.bin .fdiv (.bin .mul (.v 6) (.bin .sub (.v 6) (.c (.int 1)))) (.c (.int 2))) (.v 7)) (.c (.int 1))) (.v 8))
  (.seq (.asg (.nm 11) (.bin .sub (.bin .add (.bin .fdiv (.bin .mul (.v 4) (.bin .sub (.v 4) (.c (.int 1)))) (.c (.int 2))) (.v 5)) (.c (.int 1))))
  (.seq (.setI 10 (.v 11) (.bin .sub (.ownIx 10 (.v 11)) (.v 9)))
  (.app 3 (.tup (.econs (.c (.int 0)) (.econs (.v 10) .enil)))))))))
  (.seq (.for_ (.seq (.v 2)) (.tp [12, 13, 14]) (.for_ (.rng1 (.bi .len (.econs (.v 13) .enil))) (.nm 15) (.ife (.isN true (.ix (.v 13) (.v 15))) (.seq (.asg (.nm 16) (.call ("_law_fare" : Str) (.econs (.v 12) (.econs (.v 1) (.econs (.v 15) .enil)))))
  (.seq (.app 3 (.call ("_law_mix" : Str) (.econs (.tup (.econs (.bin .add (.ix (.v 13) (.v 15)) (.v 14)) (.econs (.bin .mul (.lst (.econs (.c (.int 0)) .enil)) (.c (.int 10))) .enil))) (.econs (.c (.int 1)) (.econs (.v 16) (.econs (.neg (.c (.int 1))) .enil))))))
  (.app 3 (.call ("_law_mix" : Str) (.econs (.tup (.econs (.bin .sub (.v 14) (.ix (.v 13) (.v 15))) (.econs (.bin .mul (.lst (.econs (.c (.int 0)) .enil)) (.c (.int 10))) .enil))) (.econs (.c (.int 1)) (.econs (.v 16) (.econs (.c (.int 1)) .enil)))))))) .skip)))
  (.ret (.v 3)))))
def i__law_keeps : IS := (.ret (.bi .all (.econs (.lc (.seq (.v 1)) (.nm 2) .nop (.cmp .ge (.ix (.call ("_law_at" : Str) (.econs (.v 2) (.econs (.v 0) .enil))) (.c (.int 0))) (.c (.int 0))) [2]) .enil)))
def i__law_is_told : IS := (.seq (.ife (.or_ (.nt (.isi (.v 0) .tuple)) (.or_ (.cmp .ne (.bi .len (.econs (.v 0) .enil)) (.c (.int 2))) (.or_ (.nt (.isi (.ix (.v 0) (.c (.int 0))) .tuple)) (.nt (.isi (.ix (.v 0) (.c (.int 1))) .tuple))))) (.ret (.c (.bl false))) .skip)
  (.seq (.asg (.nm 1) (.bi .len (.econs (.ix (.v 0) (.c (.int 0))) .enil)))
  (.seq (.ife (.or_ (.nt (.ch .le .le (.c (.int 1)) (.v 1) (.c (.int 12)))) (.or_ (.nt (.bi .all (.econs (.lc (.seq (.ix (.v 0) (.c (.int 0)))) (.nm 2) .nop (.call ("_law_whole" : Str) (.econs (.v 2) (.econs (.c (.int 0)) (.econs (.bin .pow (.c (.int 10)) (.c (.int 6))) .enil)))) [2]) .enil))) (.nt (.ch .le .le (.c (.int 1)) (.bi .len (.econs (.ix (.v 0) (.c (.int 1))) .enil)) (.c (.int 6)))))) (.ret (.c (.bl false))) .skip)
  (.seq (.for_ (.seq (.ix (.v 0) (.c (.int 1)))) (.nm 2) (.seq (.ife (.or_ (.nt (.isi (.v 2) .tuple)) (.or_ (.cmp .ne (.bi .len (.econs (.v 2) .enil)) (.c (.int 3))) (.nt (.call ("_law_whole" : Str) (.econs (.ix (.v 2) (.c (.int 0))) (.econs (.c (.int 0)) (.econs (.bin .sub (.v 1) (.c (.int 1))) .enil))))))) (.ret (.c (.bl false))) .skip)
  (.ife (.or_ (.nt (.call ("_law_whole" : Str) (.econs (.ix (.v 2) (.c (.int 1))) (.econs (.bin .add (.ix (.v 2) (.c (.int 0))) (.c (.int 1))) (.econs (.v 1) .enil))))) (.nt (.call ("_law_whole" : Str) (.econs (.ix (.v 2) (.c (.int 2))) (.econs (.c (.int 0)) (.econs (.c (.int 9)) .enil)))))) (.ret (.c (.bl false))) .skip)))
  (.ret (.nt (.call ("_law_full" : Str) (.econs (.ix (.v 0) (.c (.int 1))) (.econs (.v 1) .enil)))))))))
def i__law_is_custom : IS := (.seq (.ife (.isi (.v 0) .str) (.ret (.inn false (.v 0) (.lst (.econs (.c (.str ("falling" : Str))) (.econs (.c (.str ("lasting" : Str))) (.econs (.c (.str ("halved" : Str))) .enil)))))) .skip)
  (.seq (.ife (.or_ (.nt (.isi (.v 0) .tuple)) (.cmp .gt (.bi .len (.econs (.v 0) .enil)) (.c (.int 12)))) (.ret (.c (.bl false))) .skip)
  (.seq (.for_ (.seq (.v 0)) (.nm 1) (.seq (.ife (.or_ (.nt (.isi (.v 1) .tuple)) (.or_ (.cmp .ne (.bi .len (.econs (.v 1) .enil)) (.c (.int 6))) (.nt (.bi .all (.econs (.lc (.seq (.v 1)) (.nm 8) .nop (.call ("_law_whole" : Str) (.econs (.v 8) (.econs (.c (.int 0)) (.econs (.c (.int 100)) .enil)))) [8]) .enil))))) (.ret (.c (.bl false))) .skip)
  (.seq (.asg (.tp [2, 3, 4, 5, 6, 7]) (.v 1))
  (.ife (.or_ (.nt (.ch3 .le .le .le (.c (.int 1)) (.v 3) (.v 2) (.c (.int 4)))) (.or_ (.nt (.ch3 .le .le .le (.c (.int 1)) (.v 5) (.v 4) (.c (.int 4)))) (.cmp .lt (.v 7) (.c (.int 1))))) (.ret (.c (.bl false))) .skip))))
  (.ret (.c (.bl true))))))
def i__law_are_slips : IS := (.seq (.ife (.or_ (.nt (.isi (.v 0) .tuple)) (.cmp .gt (.bi .len (.econs (.v 0) .enil)) (.c (.int 6)))) (.ret (.c (.bl false))) .skip)
  (.seq (.for_ (.seq (.v 0)) (.nm 1) (.seq (.ife (.or_ (.nt (.isi (.v 1) .tuple)) (.or_ (.cmp .ne (.bi .len (.econs (.v 1) .enil)) (.c (.int 3))) (.or_ (.nt (.call ("_law_is_told" : Str) (.econs (.ix (.v 1) (.c (.int 0))) .enil))) (.nt (.isi (.ix (.v 1) (.c (.int 1))) .tuple))))) (.ret (.c (.bl false))) .skip)
  (.seq (.ife (.or_ (.cmp .ne (.bi .len (.econs (.ix (.v 1) (.c (.int 1))) .enil)) (.bi .len (.econs (.ix (.ix (.v 1) (.c (.int 0))) (.c (.int 1))) .enil))) (.nt (.call ("_law_whole" : Str) (.econs (.ix (.v 1) (.c (.int 2))) (.econs (.c (.int 0)) (.econs (.c (.int 1000)) .enil)))))) (.ret (.c (.bl false))) .skip)
  (.ife (.nt (.bi .all (.econs (.lc (.seq (.ix (.v 1) (.c (.int 1)))) (.nm 2) .nop (.or_ (.isN false (.v 2)) (.call ("_law_whole" : Str) (.econs (.v 2) (.econs (.c (.int 0)) (.econs (.bin .pow (.c (.int 10)) (.c (.int 8))) .enil))))) [2]) .enil))) (.ret (.c (.bl false))) .skip))))
  (.ret (.c (.bl true)))))
def i__law_excess : IS := (.seq (.ife (.cmp .eq (.bi .len (.econs (.v 0) .enil)) (.c (.int 4))) (.ret (.tup (.econs (.tup (.econs (.c (.int 0)) (.econs (.bin .mul (.lst (.econs (.c (.int 0)) .enil)) (.c (.int 10))) .enil))) (.econs (.c (.int 1)) .enil)))) .skip)
  (.seq (.asg (.nm 1) (.call ("_law_fare" : Str) (.econs (.ix (.v 0) (.c (.int 4))) (.econs (.ix (.v 0) (.c (.int 2))) (.econs (.ix (.v 0) (.c (.int 5))) .enil)))))
  (.seq (.ife (.cmp .eq (.bi .len (.econs (.v 0) .enil)) (.c (.int 8))) (.ret (.tup (.econs (.call ("_law_mix" : Str) (.econs (.v 1) (.econs (.c (.int 1)) (.econs (.call ("_law_fare" : Str) (.econs (.ix (.v 0) (.c (.int 6))) (.econs (.ix (.v 0) (.c (.int 2))) (.econs (.ix (.v 0) (.c (.int 7))) .enil)))) (.econs (.neg (.c (.int 1))) .enil))))) (.econs (.c (.int 1)) .enil)))) .skip)
  (.seq (.asg (.tp [2, 3]) (.ix (.v 0) (.c (.int 6))))
  (.seq (.asg (.nm 4) (.ite (.cmp .eq (.ix (.v 0) (.c (.int 0))) (.c (.str ("at least" : Str)))) (.neg (.c (.int 1))) (.c (.int 1))))
  (.ret (.tup (.econs (.call ("_law_mix" : Str) (.econs (.v 1) (.econs (.bin .mul (.v 4) (.v 3)) (.econs (.tup (.econs (.v 2) (.econs (.bin .mul (.lst (.econs (.c (.int 0)) .enil)) (.c (.int 10))) .enil))) (.econs (.neg (.v 4)) .enil))))) (.econs (.v 3) .enil)))))))))
def i__law_by_sheet : IS := (.seq (.ife (.or_ (.nt (.call ("_law_is_sheet" : Str) (.econs (.v 1) .enil))) (.nt (.call ("_law_keeps" : Str) (.econs (.v 1) (.econs (.call ("_law_rooms" : Str) (.econs (.ix (.v 0) (.c (.int 1))) (.econs (.ix (.v 0) (.c (.int 2))) (.econs (.ix (.v 0) (.c (.int 3))) .enil)))) .enil))))) (.ret (.c (.bl false))) .skip)
  (.seq (.asg (.nm 2) (.ix (.call ("_law_at" : Str) (.econs (.ix (.call ("_law_excess" : Str) (.econs (.v 0) .enil)) (.c (.int 0))) (.econs (.v 1) .enil))) (.c (.int 0))))
  (.ret (.or_ (.cmp .eq (.ix (.v 0) (.c (.int 0))) (.c (.str ("fits" : Str)))) (.ite (.cmp .eq (.ix (.v 0) (.c (.int 0))) (.c (.str ("can pay" : Str)))) (.cmp .eq (.v 2) (.c (.int 0))) (.cmp .gt (.v 2) (.c (.int 0))))))))
def i__law_by_sum : IS := (.seq (.asg (.nm 2) (.call ("_law_rooms" : Str) (.econs (.ix (.v 0) (.c (.int 1))) (.econs (.ix (.v 0) (.c (.int 2))) (.econs (.ix (.v 0) (.c (.int 3))) .enil)))))
  (.seq (.asg (.tp [3, 4]) (.call ("_law_excess" : Str) (.econs (.v 0) .enil)))
  (.seq (.ife (.or_ (.nt (.isi (.v 1) .tuple)) (.or_ (.cmp .ne (.bi .len (.econs (.v 1) .enil)) (.c (.int 2))) (.nt (.isi (.ix (.v 1) (.c (.int 1))) .tuple)))) (.ret (.c (.bl false))) .skip)
  (.seq (.ife (.or_ (.cmp .ne (.bi .len (.econs (.ix (.v 1) (.c (.int 1))) .enil)) (.bi .len (.econs (.v 2) .enil))) (.nt (.call ("_law_from" : Str) (.econs (.ix (.v 1) (.c (.int 0))) .enil)))) (.ret (.c (.bl false))) .skip)
  (.seq (.ife (.nt (.bi .all (.econs (.lc (.seq (.ix (.v 1) (.c (.int 1)))) (.nm 7) .nop (.call ("_law_from" : Str) (.econs (.v 7) .enil)) [7]) .enil))) (.ret (.c (.bl false))) .skip)
  (.seq (.asg (.nm 5) (.call ("_law_mix" : Str) (.econs (.v 3) (.econs (.ix (.v 1) (.c (.int 0))) (.econs (.tup (.econs (.c (.int 0)) (.econs (.bin .mul (.lst (.econs (.c (.int 0)) .enil)) (.c (.int 10))) .enil))) (.econs (.c (.int 0)) .enil))))))
  (.seq (.for_ (.rng1 (.bi .len (.econs (.v 2) .enil))) (.nm 6) (.asg (.nm 5) (.call ("_law_mix" : Str) (.econs (.v 5) (.econs (.c (.int 1)) (.econs (.ix (.v 2) (.v 6)) (.econs (.bin .mul (.v 4) (.ix (.ix (.v 1) (.c (.int 1))) (.v 6))) .enil)))))))
  (.ret (.ite (.cmp .eq (.ix (.v 0) (.c (.int 0))) (.c (.str ("none fits" : Str)))) (.cmp .lt (.call ("_law_top" : Str) (.econs (.v 5) .enil)) (.c (.int 0))) (.and_ (.cmp .gt (.ix (.v 1) (.c (.int 0))) (.c (.int 0))) (.cmp .le (.call ("_law_top" : Str) (.econs (.v 5) .enil)) (.c (.int 0)))))))))))))
def i__law_is_asked : IS := (.seq (.asg (.nm 1) (.dct [(("fits" : Str), 4), (("can pay" : Str), 7), (("can be more" : Str), 8), (("none fits" : Str), 4), (("at most" : Str), 7), (("at least" : Str), 7), (("never more" : Str), 8)]))
  (.seq (.ife (.or_ (.nt (.isi (.v 0) .tuple)) (.or_ (.cmp .eq (.v 0) (.tup .enil)) (.or_ (.nt (.isi (.ix (.v 0) (.c (.int 0))) .str)) (.cmp .ne (.bi .len (.econs (.v 0) .enil)) (.dGet (.v 1) (.ix (.v 0) (.c (.int 0))) (.c (.int 0))))))) (.ret (.c (.bl false))) .skip)
  (.seq (.ife (.or_ (.nt (.call ("_law_is_custom" : Str) (.econs (.ix (.v 0) (.c (.int 1))) .enil))) (.or_ (.nt (.isi (.ix (.v 0) (.c (.int 2))) .str)) (.inn true (.ix (.v 0) (.c (.int 2))) (.lst (.econs (.c (.str ("number" : Str))) (.econs (.c (.str ("sat" : Str))) (.econs (.c (.str ("bags" : Str))) .enil))))))) (.ret (.c (.bl false))) .skip)
  (.seq (.ife (.nt (.call ("_law_are_slips" : Str) (.econs (.ix (.v 0) (.c (.int 3))) .enil))) (.ret (.c (.bl false))) .skip)
  (.seq (.for_ (.seq (.ite (.cmp .eq (.bi .len (.econs (.v 0) .enil)) (.c (.int 8))) (.lst (.econs (.c (.int 4)) (.econs (.c (.int 6)) .enil))) (.ite (.cmp .eq (.bi .len (.econs (.v 0) .enil)) (.c (.int 7))) (.lst (.econs (.c (.int 4)) .enil)) (.lst .enil)))) (.nm 2) (.ife (.or_ (.nt (.call ("_law_is_told" : Str) (.econs (.ix (.v 0) (.v 2)) .enil))) (.nt (.call ("_law_whole" : Str) (.econs (.ix (.v 0) (.bin .add (.v 2) (.c (.int 1)))) (.econs (.c (.int 0)) (.econs (.bin .sub (.bi .len (.econs (.ix (.ix (.v 0) (.v 2)) (.c (.int 1))) .enil)) (.c (.int 1))) .enil)))))) (.ret (.c (.bl false))) .skip))
  (.ret (.or_ (.cmp .ne (.bi .len (.econs (.v 0) .enil)) (.c (.int 7))) (.call ("_law_is_part" : Str) (.econs (.ix (.v 0) (.c (.int 6))) .enil)))))))))
def i__law_judge : IS := (.seq (.ife (.nt (.call ("_law_is_asked" : Str) (.econs (.v 0) .enil))) (.ret (.c (.bl false))) .skip)
  (.seq (.ife (.inn false (.ix (.v 0) (.c (.int 0))) (.lst (.econs (.c (.str ("fits" : Str))) (.econs (.c (.str ("can pay" : Str))) (.econs (.c (.str ("can be more" : Str))) .enil))))) (.ret (.call ("_law_by_sheet" : Str) (.econs (.v 0) (.econs (.v 1) .enil)))) .skip)
  (.ret (.call ("_law_by_sum" : Str) (.econs (.v 0) (.econs (.v 1) .enil))))))
def i__law_bent_told : IS := (.seq (.asg (.tp [2, 3]) (.v 1))
  (.seq (.asg (.tp [4, 5]) (.tup (.econs (.bi .len (.econs (.v 2) .enil)) (.econs (.call ("_law_take" : Str) (.econs (.v 0) (.econs (.bi .len (.econs (.v 3) .enil)) .enil))) .enil))))
  (.seq (.asg (.tp [6, 7, 8]) (.ix (.v 3) (.v 5)))
  (.seq (.asg (.nm 9) (.lst (.econs (.tup (.econs (.v 6) (.econs (.v 7) (.econs (.c (.int 9)) .enil)))) (.econs (.tup (.econs (.v 6) (.econs (.v 7) (.econs (.c (.int 10)) .enil)))) (.econs (.tup (.econs (.v 6) (.econs (.v 6) (.econs (.v 8) .enil)))) (.econs (.tup (.econs (.v 6) (.econs (.v 4) (.econs (.v 8) .enil)))) (.econs (.tup (.econs (.v 6) (.econs (.bin .add (.v 4) (.c (.int 1))) (.econs (.v 8) .enil)))) .enil)))))))
  (.seq (.asg (.nm 9) (.bin .add (.v 9) (.lst (.econs (.tup (.econs (.c (.int 0)) (.econs (.v 7) (.econs (.v 8) .enil)))) (.econs (.tup (.econs (.neg (.c (.int 1))) (.econs (.v 7) (.econs (.v 8) .enil)))) (.econs (.tup (.econs (.bin .sub (.v 4) (.c (.int 1))) (.econs (.v 4) (.econs (.c (.int 0)) .enil)))) (.econs (.tup (.econs (.v 6) (.econs (.v 7) (.econs (.neg (.c (.int 1))) .enil)))) (.econs (.tup (.econs (.v 6) (.econs (.v 7) .enil))) .enil))))))))
  (.seq (.asg (.nm 10) (.call ("_law_take" : Str) (.econs (.v 0) (.econs (.c (.int 8)) .enil))))
  (.seq (.ife (.cmp .lt (.v 10) (.c (.int 4))) (.ret (.tup (.econs (.v 2) (.econs (.bin .add (.bin .add (.sl (.v 3) .nop (.si (.v 5))) (.tup (.econs (.call ("_law_of" : Str) (.econs (.v 0) (.econs (.v 9) .enil))) .enil))) (.sl (.v 3) (.si (.bin .add (.v 5) (.c (.int 1)))) .nop)) .enil)))) .skip)
  (.seq (.ife (.cmp .eq (.v 10) (.c (.int 4))) (.ret (.tup (.econs (.bin .add (.sl (.v 2) .nop (.si (.neg (.c (.int 1))))) (.tup (.econs (.call ("_law_of" : Str) (.econs (.v 0) (.econs (.lst (.econs (.c (.int 0)) (.econs (.bin .pow (.c (.int 10)) (.c (.int 6))) (.econs (.bin .add (.bin .pow (.c (.int 10)) (.c (.int 6))) (.c (.int 1))) (.econs (.neg (.c (.int 1))) .enil))))) .enil))) .enil))) (.econs (.v 3) .enil)))) .skip)
  (.seq (.ife (.cmp .eq (.v 10) (.c (.int 5))) (.ret (.tup (.econs (.bin .mul (.tup (.econs (.c (.int 1)) .enil)) (.call ("_law_of" : Str) (.econs (.v 0) (.econs (.lst (.econs (.c (.int 12)) (.econs (.c (.int 13)) (.econs (.c (.int 11)) .enil)))) .enil)))) (.econs (.v 3) .enil)))) .skip)
  (.seq (.ife (.cmp .eq (.v 10) (.c (.int 6))) (.ret (.tup (.econs (.v 2) (.econs (.call ("_law_of" : Str) (.econs (.v 0) (.econs (.lst (.econs (.bin .mul (.v 3) (.c (.int 2))) (.econs (.bin .add (.v 3) (.bin .mul (.tup (.econs (.tup (.econs (.c (.int 0)) (.econs (.c (.int 1)) (.econs (.c (.int 0)) .enil)))) .enil)) (.c (.int 4)))) (.econs (.bin .mul (.sl (.v 3) .nop (.si (.c (.int 1)))) (.c (.int 5))) (.econs (.tup .enil) .enil))))) .enil))) .enil)))) .skip)
  (.ret (.tup (.econs (.v 2) (.econs (.bi .tuple (.econs (.lc (.rng1 (.call ("_law_of" : Str) (.econs (.v 0) (.econs (.lst (.econs (.c (.int 3)) (.econs (.bin .mul (.c (.int 3)) (.v 4)) (.econs (.bin .add (.bin .mul (.c (.int 3)) (.v 4)) (.c (.int 1))) .enil)))) .enil)))) (.nm 5) .nop (.tup (.econs (.bin .fdiv (.v 5) (.c (.int 3))) (.econs (.bin .add (.bin .fdiv (.v 5) (.c (.int 3))) (.c (.int 1))) (.econs (.c (.int 0)) .enil)))) [5]) .enil)) .enil))))))))))))))
def i__law_bent_slips : IS := (.seq (.asg (.tp [2, 3]) (.tup (.econs (.tup (.econs (.tup (.econs (.c (.int 10)) .enil)) (.econs (.tup (.econs (.tup (.econs (.c (.int 0)) (.econs (.c (.int 1)) (.econs (.c (.int 0)) .enil)))) .enil)) .enil))) (.econs (.call ("_law_take" : Str) (.econs (.v 0) (.econs (.c (.int 4)) .enil))) .enil))))
  (.seq (.ife (.cmp .eq (.v 3) (.c (.int 0))) (.ret (.bin .mul (.tup (.econs (.tup (.econs (.v 2) (.econs (.tup (.econs (.c (.int 10)) .enil)) (.econs (.c (.int 0)) .enil)))) .enil)) (.call ("_law_of" : Str) (.econs (.v 0) (.econs (.lst (.econs (.c (.int 6)) (.econs (.c (.int 7)) .enil))) .enil))))) .skip)
  (.seq (.asg (.nm 4) (.tup (.econs (.v 2) (.econs (.tup (.econs (.call ("_law_of" : Str) (.econs (.v 0) (.econs (.lst (.econs (.bin .pow (.c (.int 10)) (.c (.int 8))) (.econs (.bin .add (.bin .pow (.c (.int 10)) (.c (.int 8))) (.c (.int 1))) (.econs (.c (.int 0)) (.econs (.neg (.c (.int 1))) (.econs (.c (.int 10)) .enil)))))) .enil))) .enil)) (.econs (.call ("_law_of" : Str) (.econs (.v 0) (.econs (.lst (.econs (.c (.int 1000)) (.econs (.c (.int 1001)) (.econs (.c (.int 0)) (.econs (.neg (.c (.int 1))) .enil))))) .enil))) .enil)))))
  (.seq (.ife (.cmp .eq (.v 3) (.c (.int 1))) (.asg (.nm 4) (.tup (.econs (.v 2) (.econs (.call ("_law_of" : Str) (.econs (.v 0) (.econs (.lst (.econs (.tup (.econs (.c (.int 10)) .enil)) (.econs (.tup (.econs (.c (.int 10)) (.econs (.c (.int 10)) .enil))) (.econs (.tup .enil) (.econs (.tup (.econs (.c .non) .enil)) .enil))))) .enil))) (.econs (.c (.int 0)) .enil))))) .skip)
  (.seq (.ife (.cmp .eq (.v 3) (.c (.int 2))) (.asg (.nm 4) (.tup (.econs (.call ("_law_bent_told" : Str) (.econs (.v 0) (.econs (.v 2) .enil))) (.econs (.tup (.econs (.c .non) .enil)) (.econs (.c (.int 0)) .enil))))) .skip)
  (.ret (.bin .add (.sl (.v 1) .nop (.si (.c (.int 2)))) (.tup (.econs (.v 4) .enil)))))))))
def i__law_bent_custom : IS := (.seq (.asg (.nm 1) (.call ("_law_of" : Str) (.econs (.v 0) (.econs (.lst (.econs (.tup (.econs (.c (.int 2)) (.econs (.c (.int 2)) (.econs (.c (.int 2)) (.econs (.c (.int 1)) (.econs (.c (.int 1)) (.econs (.c (.int 1)) .enil))))))) (.econs (.tup (.econs (.c (.int 4)) (.econs (.c (.int 4)) (.econs (.c (.int 4)) (.econs (.c (.int 1)) (.econs (.c (.int 100)) (.econs (.c (.int 100)) .enil))))))) (.econs (.tup (.econs (.c (.int 1)) (.econs (.c (.int 1)) (.econs (.c (.int 1)) (.econs (.c (.int 1)) (.econs (.c (.int 1)) (.econs (.c (.int 1)) .enil))))))) (.econs (.tup (.econs (.c (.int 4)) (.econs (.c (.int 2)) (.econs (.c (.int 3)) (.econs (.c (.int 1)) (.econs (.c (.int 3)) (.econs (.c (.int 2)) .enil))))))) .enil))))) .enil))))
  (.seq (.asg (.tp [2, 3]) (.tup (.econs (.call ("_law_take" : Str) (.econs (.v 0) (.econs (.c (.int 8)) .enil))) (.econs (.call ("_law_of" : Str) (.econs (.v 0) (.econs (.lst (.econs (.neg (.c (.int 1))) (.econs (.c (.int 1)) (.econs (.c (.int 101)) (.econs (.c (.int 0)) .enil))))) .enil))) .enil))))
  (.seq (.ife (.cmp .eq (.v 2) (.c (.int 7))) (.ret (.bin .mul (.tup (.econs (.v 1) .enil)) (.call ("_law_of" : Str) (.econs (.v 0) (.econs (.lst (.econs (.c (.int 12)) (.econs (.c (.int 13)) .enil))) .enil))))) .skip)
  (.seq (.ife (.cmp .eq (.v 2) (.c (.int 6))) (.ret (.call ("_law_of" : Str) (.econs (.v 0) (.econs (.lst (.econs (.c (.str ("fallin" : Str))) (.econs (.c (.str ("lasting " : Str))) (.econs (.c (.str ("halved" : Str))) (.econs (.tup (.econs (.sl (.v 1) .nop (.si (.c (.int 5)))) .enil)) (.econs (.tup (.econs (.bin .add (.v 1) (.tup (.econs (.c (.int 1)) .enil))) .enil)) .enil)))))) .enil)))) .skip)
  (.ret (.tup (.econs (.bin .add (.bin .add (.sl (.v 1) .nop (.si (.v 2))) (.tup (.econs (.bin .add (.ix (.v 1) (.v 2)) (.v 3)) .enil))) (.sl (.v 1) (.si (.bin .add (.v 2) (.c (.int 1)))) .nop)) .enil)))))))
def i__law_asked : IS := (.seq (.asg (.tp [6, 7]) (.tup (.econs (.call ("_law_of" : Str) (.econs (.v 0) (.econs (.lst (.econs (.c (.int 0)) (.econs (.bin .sub (.bi .len (.econs (.ix (.v 5) (.c (.int 1))) .enil)) (.c (.int 1))) (.econs (.bi .len (.econs (.ix (.v 5) (.c (.int 1))) .enil)) (.econs (.neg (.c (.int 1))) .enil))))) .enil))) (.econs (.call ("_law_take" : Str) (.econs (.v 0) (.econs (.bi .max2 (.econs (.c (.int 1)) (.econs (.bi .len (.econs (.ix (.v 5) (.c (.int 1))) .enil)) .enil))) .enil))) .enil))))
  (.seq (.asg (.nm 8) (.call ("_law_of" : Str) (.econs (.v 0) (.econs (.lst (.econs (.tup (.econs (.c (.int 0)) (.econs (.c (.int 1)) .enil))) (.econs (.tup (.econs (.bin .pow (.c (.int 10)) (.c (.int 8))) (.econs (.c (.int 1)) .enil))) (.econs (.tup (.econs (.c (.int 2)) (.econs (.c (.int 4)) .enil))) (.econs (.tup (.econs (.c (.int 1)) (.econs (.c (.int 0)) .enil))) (.econs (.tup (.econs (.neg (.c (.int 7))) (.econs (.c (.int 2)) .enil))) (.econs (.tup (.econs (.c (.int 3)) (.econs (.neg (.c (.int 1))) .enil))) .enil))))))) .enil))))
  (.seq (.ife (.inn false (.v 1) (.lst (.econs (.c (.str ("fits" : Str))) (.econs (.c (.str ("none fits" : Str))) .enil)))) (.ret (.tup (.econs (.v 1) (.econs (.v 2) (.econs (.v 3) (.econs (.v 4) .enil)))))) .skip)
  (.seq (.ife (.inn false (.v 1) (.lst (.econs (.c (.str ("never more" : Str))) (.econs (.c (.str ("can be more" : Str))) .enil)))) (.ret (.tup (.econs (.v 1) (.econs (.v 2) (.econs (.v 3) (.econs (.v 4) (.econs (.v 5) (.econs (.v 6) (.econs (.v 5) (.econs (.v 7) .enil)))))))))) .skip)
  (.ret (.tup (.econs (.v 1) (.econs (.v 2) (.econs (.v 3) (.econs (.v 4) (.econs (.v 5) (.econs (.v 6) (.econs (.v 8) .enil)))))))))))))
def i__law_right : IS := (.seq (.asg (.nm 1) (.bi .tuple (.econs (.lc (.rng2 (.c (.int 1)) (.c (.int 5))) (.nm 11) .nop (.bin .mul (.tup (.econs (.tup (.econs (.c (.int 1)) (.econs (.v 11) .enil))) .enil)) (.v 11)) [11]) .enil)))
  (.seq (.for_ (.rng1 (.c (.int 8))) (.nm 2) (.seq (.asg (.tp [3, 4, 5]) (.tup (.econs (.call ("_law_told" : Str) (.econs (.v 0) .enil)) (.econs (.call ("_law_of" : Str) (.econs (.v 0) (.econs (.lst (.econs (.c (.str ("falling" : Str))) (.econs (.c (.str ("lasting" : Str))) (.econs (.tup .enil) .enil)))) .enil))) (.econs (.call ("_law_of" : Str) (.econs (.v 0) (.econs (.lst (.econs (.tup .enil) (.econs (.tup .enil) (.econs (.tup (.econs (.c (.int 1)) .enil)) .enil)))) .enil))) .enil)))))
  (.seq (.asg (.tp [6, 7]) (.tup (.econs (.call ("_law_take" : Str) (.econs (.v 0) (.econs (.c (.int 4)) .enil))) (.econs (.call ("_law_of" : Str) (.econs (.v 0) (.econs (.lst (.econs (.c (.str ("number" : Str))) (.econs (.c (.str ("sat" : Str))) (.econs (.c (.str ("bags" : Str))) (.econs (.c (.str ("bags" : Str))) (.econs (.c (.str ("Sat" : Str))) .enil)))))) .enil))) .enil))))
  (.seq (.asg (.nm 5) (.ite (.cmp .eq (.v 5) (.tup .enil)) (.v 5) (.tup (.econs (.tup (.econs (.v 3) (.econs (.bin .mul (.tup (.econs (.c .non) .enil)) (.bi .len (.econs (.ix (.v 3) (.c (.int 1))) .enil))) (.econs (.c (.int 0)) .enil)))) .enil))))
  (.seq (.asg (.nm 3) (.ite (.cmp .eq (.v 6) (.c (.int 0))) (.call ("_law_bent_told" : Str) (.econs (.v 0) (.econs (.v 3) .enil))) (.v 3)))
  (.seq (.asg (.nm 5) (.ite (.cmp .eq (.v 6) (.c (.int 1))) (.call ("_law_bent_slips" : Str) (.econs (.v 0) (.econs (.v 5) .enil))) (.v 5)))
  (.seq (.asg (.nm 4) (.ite (.cmp .eq (.v 6) (.c (.int 2))) (.call ("_law_bent_custom" : Str) (.econs (.v 0) .enil)) (.v 4)))
  (.seq (.asg (.nm 8) (.call ("_law_of" : Str) (.econs (.v 0) (.econs (.lst (.econs (.c (.str ("fits" : Str))) (.econs (.c (.str ("can pay" : Str))) (.econs (.c (.str ("can be more" : Str))) (.econs (.c (.str ("none fits" : Str))) (.econs (.c (.str ("at most" : Str))) (.econs (.c (.str ("at least" : Str))) (.econs (.c (.str ("never more" : Str))) .enil)))))))) .enil))))
  (.seq (.asg (.nm 9) (.call ("_law_asked" : Str) (.econs (.v 0) (.econs (.v 8) (.econs (.v 4) (.econs (.v 7) (.econs (.v 5) (.econs (.v 3) .enil))))))))
  (.for_ (.seq (.lst (.econs (.v 1) (.econs (.tup (.econs (.c (.int 1)) (.econs (.bin .mul (.tup (.econs (.c (.int 0)) .enil)) (.call ("_law_take" : Str) (.econs (.v 0) (.econs (.c (.int 13)) .enil)))) .enil))) (.econs (.tup (.econs (.c (.int 1)) (.econs (.tup .enil) .enil))) .enil))))) (.nm 10) (.ife (.nt (.call ("_law_said" : Str) (.econs (.v 9) (.econs (.v 10) (.econs (.call ("_law_judge" : Str) (.econs (.v 9) (.econs (.v 10) .enil))) .enil))))) (.ret (.c (.bl false))) .skip)))))))))))
  (.ret (.c (.bl true)))))
def tabL : List (Str × Fn) := [(("is_integer" : Str), (⟨1, 1, i_is_integer⟩ : Fn)),
  (("is_between" : Str), (⟨3, 3, i_is_between⟩ : Fn)),
  (("fraction" : Str), (⟨2, 3, i_fraction⟩ : Fn)),
  (("is_fraction" : Str), (⟨1, 1, i_is_fraction⟩ : Fn)),
  (("plus" : Str), (⟨2, 2, i_plus⟩ : Fn)),
  (("times" : Str), (⟨2, 2, i_times⟩ : Fn)),
  (("is_less" : Str), (⟨2, 2, i_is_less⟩ : Fn)),
  (("is_rider" : Str), (⟨2, 2, i_is_rider⟩ : Fn)),
  (("aboard_at" : Str), (⟨2, 4, i_aboard_at⟩ : Fn)),
  (("place_of" : Str), (⟨3, 3, i_place_of⟩ : Fn)),
  (("is_crowded" : Str), (⟨2, 3, i_is_crowded⟩ : Fn)),
  (("places" : Str), (⟨0, 2, i_places⟩ : Fn)),
  (("place_in_row" : Str), (⟨2, 2, i_place_in_row⟩ : Fn)),
  (("form_of" : Str), (⟨2, 5, i_form_of⟩ : Fn)),
  (("fare_form" : Str), (⟨3, 7, i_fare_form⟩ : Fn)),
  (("joined" : Str), (⟨4, 7, i_joined⟩ : Fn)),
  (("corners" : Str), (⟨1, 5, i_corners⟩ : Fn)),
  (("greatest_of" : Str), (⟨1, 2, i_greatest_of⟩ : Fn)),
  (("is_row" : Str), (⟨2, 7, i_is_row⟩ : Fn)),
  (("lasting_clauses" : Str), (⟨0, 3, i_lasting_clauses⟩ : Fn)),
  (("halved_clauses" : Str), (⟨0, 3, i_halved_clauses⟩ : Fn)),
  (("is_clause" : Str), (⟨1, 3, i_is_clause⟩ : Fn)),
  (("is_custom" : Str), (⟨1, 2, i_is_custom⟩ : Fn)),
  (("clauses_of" : Str), (⟨1, 1, i_clauses_of⟩ : Fn)),
  (("clause_form" : Str), (⟨1, 8, i_clause_form⟩ : Fn)),
  (("is_amounts" : Str), (⟨2, 3, i_is_amounts⟩ : Fn)),
  (("is_receipt" : Str), (⟨1, 1, i_is_receipt⟩ : Fn)),
  (("room_forms" : Str), (⟨3, 11, i_room_forms⟩ : Fn)),
  (("worth" : Str), (⟨2, 7, i_worth⟩ : Fn)),
  (("keeps" : Str), (⟨2, 3, i_keeps⟩ : Fn)),
  (("receipts_of" : Str), (⟨1, 4, i_receipts_of⟩ : Fn)),
  (("is_table" : Str), (⟨1, 3, i_is_table⟩ : Fn)),
  (("fare_told" : Str), (⟨3, 4, i_fare_told⟩ : Fn)),
  (("aim_of" : Str), (⟨1, 6, i_aim_of⟩ : Fn)),
  (("by_table" : Str), (⟨4, 5, i_by_table⟩ : Fn)),
  (("is_natural" : Str), (⟨1, 1, i_is_natural⟩ : Fn)),
  (("is_pair" : Str), (⟨2, 3, i_is_pair⟩ : Fn)),
  (("by_numbers" : Str), (⟨5, 8, i_by_numbers⟩ : Fn)),
  (("holds" : Str), (⟨2, 7, i_holds⟩ : Fn)),
  (("_law_from" : Str), (⟨1, 1, i__law_from⟩ : Fn)),
  (("_law_of" : Str), (⟨2, 2, i__law_of⟩ : Fn)),
  (("_law_whole" : Str), (⟨3, 3, i__law_whole⟩ : Fn)),
  (("_law_plus" : Str), (⟨2, 2, i__law_plus⟩ : Fn)),
  (("_law_is_part" : Str), (⟨1, 2, i__law_is_part⟩ : Fn)),
  (("_law_is_sheet" : Str), (⟨1, 7, i__law_is_sheet⟩ : Fn)),
  (("_law_full" : Str), (⟨2, 4, i__law_full⟩ : Fn)),
  (("_law_told" : Str), (⟨1, 8, i__law_told⟩ : Fn)),
  (("_law_ranked" : Str), (⟨3, 9, i__law_ranked⟩ : Fn)),
  (("_law_fare" : Str), (⟨3, 7, i__law_fare⟩ : Fn)),
  (("_law_mix" : Str), (⟨4, 6, i__law_mix⟩ : Fn)),
  (("_law_at" : Str), (⟨2, 5, i__law_at⟩ : Fn)),
  (("_law_top" : Str), (⟨1, 5, i__law_top⟩ : Fn)),
  (("_law_rules" : Str), (⟨1, 4, i__law_rules⟩ : Fn)),
  (("_law_rooms" : Str), (⟨3, 17, i__law_rooms⟩ : Fn)),
  (("_law_keeps" : Str), (⟨2, 3, i__law_keeps⟩ : Fn)),
  (("_law_is_told" : Str), (⟨1, 3, i__law_is_told⟩ : Fn)),
  (("_law_is_custom" : Str), (⟨1, 9, i__law_is_custom⟩ : Fn)),
  (("_law_are_slips" : Str), (⟨1, 3, i__law_are_slips⟩ : Fn)),
  (("_law_excess" : Str), (⟨1, 5, i__law_excess⟩ : Fn)),
  (("_law_by_sheet" : Str), (⟨2, 3, i__law_by_sheet⟩ : Fn)),
  (("_law_by_sum" : Str), (⟨2, 8, i__law_by_sum⟩ : Fn)),
  (("_law_is_asked" : Str), (⟨1, 3, i__law_is_asked⟩ : Fn)),
  (("_law_judge" : Str), (⟨2, 2, i__law_judge⟩ : Fn)),
  (("_law_bent_told" : Str), (⟨2, 11, i__law_bent_told⟩ : Fn)),
  (("_law_bent_slips" : Str), (⟨2, 5, i__law_bent_slips⟩ : Fn)),
  (("_law_bent_custom" : Str), (⟨1, 4, i__law_bent_custom⟩ : Fn)),
  (("_law_asked" : Str), (⟨6, 9, i__law_asked⟩ : Fn)),
  (("_law_right" : Str), (⟨1, 12, i__law_right⟩ : Fn))]
def tab (f : Str) : Option Fn := tabL.lookup f
end Cab
set_option Elab.async false
set_option linter.all false
set_option maxRecDepth 100000
/-! Each def's text is the text of the table (printed by gen_ir.py). -/
namespace Cab
open PySem L2
def topS (i : Nat) : Stmt := PySem.Challenge.pw_cabshares_k48_whole_claims_near_their_bo.main.body.getD i (.Pass ⟨0, 0, 0, 0⟩)
def globL : List (Str × Int) := [(("MOST_STRETCHES" : Str), 12), (("MOST_COST" : Str), 1000000), (("MOST_RIDERS" : Str), 6), (("MOST_ABOARD" : Str), 4), (("MOST_BAGS" : Str), 9), (("MOST_AMOUNT" : Str), 100000000), (("MOST_PLAY" : Str), 1000), (("MOST_RECEIPTS" : Str), 6), (("MOST_CLAUSES" : Str), 12), (("MOST_FACTOR" : Str), 100), (("SCALE" : Str), 12)]
def gtupL : List (Str × List Str) := [(("ORDERS" : Str), g_ORDERS), (("WORDS" : Str), g_WORDS), (("BY_TABLE" : Str), g_BY_TABLE)]
def gdicL : List (Str × List (Str × Int)) := [(("LENGTHS" : Str), g_LENGTHS)]
def fnsL : List (Str × Nat) := [(("is_integer" : Str), 1), (("is_between" : Str), 3), (("common" : Str), 2), (("fraction" : Str), 2), (("is_fraction" : Str), 1), (("plus" : Str), 2), (("times" : Str), 2), (("is_less" : Str), 2), (("is_rider" : Str), 2), (("aboard_at" : Str), 2), (("place_of" : Str), 3), (("ranked_at" : Str), 3), (("is_crowded" : Str), 2), (("places" : Str), 0), (("place_in_row" : Str), 2), (("form_of" : Str), 2), (("fare_form" : Str), 3), (("joined" : Str), 4), (("corners" : Str), 1), (("greatest_of" : Str), 1), (("is_row" : Str), 2), (("lasting_clauses" : Str), 0), (("halved_clauses" : Str), 0), (("is_clause" : Str), 1), (("is_custom" : Str), 1), (("clauses_of" : Str), 1), (("clause_form" : Str), 1), (("is_amounts" : Str), 2), (("is_receipt" : Str), 1), (("room_forms" : Str), 3), (("worth" : Str), 2), (("keeps" : Str), 2), (("ride_of" : Str), 1), (("receipts_of" : Str), 1), (("is_table" : Str), 1), (("fare_told" : Str), 3), (("aim_of" : Str), 1), (("by_table" : Str), 4), (("is_natural" : Str), 1), (("is_pair" : Str), 2), (("by_numbers" : Str), 5), (("holds" : Str), 2), (("_law_from" : Str), 1), (("_law_take" : Str), 2), (("_law_of" : Str), 2), (("_law_whole" : Str), 3), (("_law_less" : Str), 2), (("_law_plus" : Str), 2), (("_law_is_part" : Str), 1), (("_law_is_sheet" : Str), 1), (("_law_full" : Str), 2), (("_law_told" : Str), 1), (("_law_ranked" : Str), 3), (("_law_fare" : Str), 3), (("_law_mix" : Str), 4), (("_law_at" : Str), 2), (("_law_top" : Str), 1), (("_law_rules" : Str), 1), (("_law_rooms" : Str), 3), (("_law_keeps" : Str), 2), (("_law_is_told" : Str), 1), (("_law_is_custom" : Str), 1), (("_law_are_slips" : Str), 1), (("_law_excess" : Str), 1), (("_law_by_sheet" : Str), 2), (("_law_by_sum" : Str), 2), (("_law_said" : Str), 3), (("_law_is_asked" : Str), 1), (("_law_judge" : Str), 2), (("_law_bent_told" : Str), 2), (("_law_bent_slips" : Str), 2), (("_law_bent_custom" : Str), 1), (("_law_asked" : Str), 6), (("_law_right" : Str), 1)]
def gw : GW := ⟨fun x => globL.lookup x, fun x => gdicL.lookup x, fun x => gtupL.lookup x, fun x => fnsL.lookup x⟩
def n_is_integer : List Str := [("value" : Str)]
theorem ck_is_integer : cSs gw 60 ⟨n_is_integer, defScope (topS 19), []⟩ (defBody (topS 19)) = some i_is_integer := by kernel_rfl
theorem sc_is_integer : FnScope n_is_integer [("value" : Str)] (defScope (topS 19)) := ⟨rfl, rfl, rfl, by decide +kernel, rfl, by decide +kernel, by decide +kernel⟩
def n_is_between : List Str := [("value" : Str), ("low" : Str), ("high" : Str)]
theorem ck_is_between : cSs gw 60 ⟨n_is_between, defScope (topS 20), []⟩ (defBody (topS 20)) = some i_is_between := by kernel_rfl
theorem sc_is_between : FnScope n_is_between [("value" : Str), ("low" : Str), ("high" : Str)] (defScope (topS 20)) := ⟨rfl, rfl, rfl, by decide +kernel, rfl, by decide +kernel, by decide +kernel⟩
def n_fraction : List Str := [("top" : Str), ("bottom" : Str), ("shared" : Str)]
theorem ck_fraction : cSs gw 60 ⟨n_fraction, defScope (topS 22), []⟩ (defBody (topS 22)) = some i_fraction := by kernel_rfl
theorem sc_fraction : FnScope n_fraction [("top" : Str), ("bottom" : Str)] (defScope (topS 22)) := ⟨rfl, rfl, rfl, by decide +kernel, rfl, by decide +kernel, by decide +kernel⟩
def n_is_fraction : List Str := [("value" : Str)]
theorem ck_is_fraction : cSs gw 60 ⟨n_is_fraction, defScope (topS 23), []⟩ (defBody (topS 23)) = some i_is_fraction := by kernel_rfl
theorem sc_is_fraction : FnScope n_is_fraction [("value" : Str)] (defScope (topS 23)) := ⟨rfl, rfl, rfl, by decide +kernel, rfl, by decide +kernel, by decide +kernel⟩
def n_plus : List Str := [("one" : Str), ("other" : Str)]
theorem ck_plus : cSs gw 60 ⟨n_plus, defScope (topS 24), []⟩ (defBody (topS 24)) = some i_plus := by kernel_rfl
theorem sc_plus : FnScope n_plus [("one" : Str), ("other" : Str)] (defScope (topS 24)) := ⟨rfl, rfl, rfl, by decide +kernel, rfl, by decide +kernel, by decide +kernel⟩
def n_times : List Str := [("number" : Str), ("one" : Str)]
theorem ck_times : cSs gw 60 ⟨n_times, defScope (topS 25), []⟩ (defBody (topS 25)) = some i_times := by kernel_rfl
theorem sc_times : FnScope n_times [("number" : Str), ("one" : Str)] (defScope (topS 25)) := ⟨rfl, rfl, rfl, by decide +kernel, rfl, by decide +kernel, by decide +kernel⟩
def n_is_less : List Str := [("one" : Str), ("other" : Str)]
theorem ck_is_less : cSs gw 60 ⟨n_is_less, defScope (topS 26), []⟩ (defBody (topS 26)) = some i_is_less := by kernel_rfl
theorem sc_is_less : FnScope n_is_less [("one" : Str), ("other" : Str)] (defScope (topS 26)) := ⟨rfl, rfl, rfl, by decide +kernel, rfl, by decide +kernel, by decide +kernel⟩
def n_is_rider : List Str := [("value" : Str), ("stretches" : Str)]
theorem ck_is_rider : cSs gw 60 ⟨n_is_rider, defScope (topS 30), []⟩ (defBody (topS 30)) = some i_is_rider := by kernel_rfl
theorem sc_is_rider : FnScope n_is_rider [("value" : Str), ("stretches" : Str)] (defScope (topS 30)) := ⟨rfl, rfl, rfl, by decide +kernel, rfl, by decide +kernel, by decide +kernel⟩
def n_aboard_at : List Str := [("riders" : Str), ("stretch" : Str), ("place" : Str), ("rider" : Str)]
theorem ck_aboard_at : cSs gw 60 ⟨n_aboard_at, defScope (topS 32), []⟩ (defBody (topS 32)) = some i_aboard_at := by kernel_rfl
theorem sc_aboard_at : FnScope n_aboard_at [("riders" : Str), ("stretch" : Str)] (defScope (topS 32)) := ⟨rfl, rfl, rfl, by decide +kernel, rfl, by decide +kernel, by decide +kernel⟩
def n_place_of : List Str := [("riders" : Str), ("order" : Str), ("place" : Str)]
theorem ck_place_of : cSs gw 60 ⟨n_place_of, defScope (topS 33), []⟩ (defBody (topS 33)) = some i_place_of := by kernel_rfl
theorem sc_place_of : FnScope n_place_of [("riders" : Str), ("order" : Str), ("place" : Str)] (defScope (topS 33)) := ⟨rfl, rfl, rfl, by decide +kernel, rfl, by decide +kernel, by decide +kernel⟩
def n_is_crowded : List Str := [("stretches" : Str), ("riders" : Str), ("stretch" : Str)]
theorem ck_is_crowded : cSs gw 60 ⟨n_is_crowded, defScope (topS 35), []⟩ (defBody (topS 35)) = some i_is_crowded := by kernel_rfl
theorem sc_is_crowded : FnScope n_is_crowded [("stretches" : Str), ("riders" : Str)] (defScope (topS 35)) := ⟨rfl, rfl, rfl, by decide +kernel, rfl, by decide +kernel, by decide +kernel⟩
def n_places : List Str := [("count" : Str), ("rank" : Str)]
theorem ck_places : cSs gw 60 ⟨n_places, defScope (topS 40), []⟩ (defBody (topS 40)) = some i_places := by kernel_rfl
theorem sc_places : FnScope n_places [] (defScope (topS 40)) := ⟨rfl, rfl, rfl, by decide +kernel, rfl, by decide +kernel, by decide +kernel⟩
def n_place_in_row : List Str := [("count" : Str), ("rank" : Str)]
theorem ck_place_in_row : cSs gw 60 ⟨n_place_in_row, defScope (topS 41), []⟩ (defBody (topS 41)) = some i_place_in_row := by kernel_rfl
theorem sc_place_in_row : FnScope n_place_in_row [("count" : Str), ("rank" : Str)] (defScope (topS 41)) := ⟨rfl, rfl, rfl, by decide +kernel, rfl, by decide +kernel, by decide +kernel⟩
def n_form_of : List Str := [("number" : Str), ("parts" : Str), ("factors" : Str), ("place" : Str), ("factor" : Str)]
theorem ck_form_of : cSs gw 60 ⟨n_form_of, defScope (topS 42), [2]⟩ (defBody (topS 42)) = some i_form_of := by kernel_rfl
theorem sc_form_of : FnScope n_form_of [("number" : Str), ("parts" : Str)] (defScope (topS 42)) := ⟨rfl, rfl, rfl, by decide +kernel, rfl, by decide +kernel, by decide +kernel⟩
def n_fare_form : List Str := [("ride" : Str), ("order" : Str), ("rider" : Str), ("parts" : Str), ("stretch" : Str), ("cost" : Str), ("row" : Str)]
theorem ck_fare_form : cSs gw 60 ⟨n_fare_form, defScope (topS 43), [3]⟩ (defBody (topS 43)) = some i_fare_form := by kernel_rfl
theorem sc_fare_form : FnScope n_fare_form [("ride" : Str), ("order" : Str), ("rider" : Str)] (defScope (topS 43)) := ⟨rfl, rfl, rfl, by decide +kernel, rfl, by decide +kernel, by decide +kernel⟩
def n_joined : List Str := [("one" : Str), ("factor" : Str), ("other" : Str), ("other_factor" : Str), ("factors" : Str), ("here" : Str), ("there" : Str)]
theorem ck_joined : cSs gw 60 ⟨n_joined, defScope (topS 44), []⟩ (defBody (topS 44)) = some i_joined := by kernel_rfl
theorem sc_joined : FnScope n_joined [("one" : Str), ("factor" : Str), ("other" : Str), ("other_factor" : Str)] (defScope (topS 44)) := ⟨rfl, rfl, rfl, by decide +kernel, rfl, by decide +kernel, by decide +kernel⟩
def n_corners : List Str := [("form" : Str), ("found" : Str), ("count" : Str), ("first" : Str), ("many" : Str)]
theorem ck_corners : cSs gw 60 ⟨n_corners, defScope (topS 45), [1]⟩ (defBody (topS 45)) = some i_corners := by kernel_rfl
theorem sc_corners : FnScope n_corners [("form" : Str)] (defScope (topS 45)) := ⟨rfl, rfl, rfl, by decide +kernel, rfl, by decide +kernel, by decide +kernel⟩
def n_greatest_of : List Str := [("form" : Str), ("row" : Str)]
theorem ck_greatest_of : cSs gw 60 ⟨n_greatest_of, defScope (topS 46), []⟩ (defBody (topS 46)) = some i_greatest_of := by kernel_rfl
theorem sc_greatest_of : FnScope n_greatest_of [("form" : Str)] (defScope (topS 46)) := ⟨rfl, rfl, rfl, by decide +kernel, rfl, by decide +kernel, by decide +kernel⟩
def n_is_row : List Str := [("value" : Str), ("count" : Str), ("total" : Str), ("share" : Str), ("falls" : Str), ("one" : Str), ("other" : Str)]
theorem ck_is_row : cSs gw 60 ⟨n_is_row, defScope (topS 48), []⟩ (defBody (topS 48)) = some i_is_row := by kernel_rfl
theorem sc_is_row : FnScope n_is_row [("value" : Str), ("count" : Str)] (defScope (topS 48)) := ⟨rfl, rfl, rfl, by decide +kernel, rfl, by decide +kernel, by decide +kernel⟩
def n_lasting_clauses : List Str := [("found" : Str), ("count" : Str), ("rank" : Str)]
theorem ck_lasting_clauses : cSs gw 60 ⟨n_lasting_clauses, defScope (topS 49), [0]⟩ (defBody (topS 49)) = some i_lasting_clauses := by kernel_rfl
theorem sc_lasting_clauses : FnScope n_lasting_clauses [] (defScope (topS 49)) := ⟨rfl, rfl, rfl, by decide +kernel, rfl, by decide +kernel, by decide +kernel⟩
def n_halved_clauses : List Str := [("found" : Str), ("count" : Str), ("rank" : Str)]
theorem ck_halved_clauses : cSs gw 60 ⟨n_halved_clauses, defScope (topS 50), [0]⟩ (defBody (topS 50)) = some i_halved_clauses := by kernel_rfl
theorem sc_halved_clauses : FnScope n_halved_clauses [] (defScope (topS 50)) := ⟨rfl, rfl, rfl, by decide +kernel, rfl, by decide +kernel, by decide +kernel⟩
def n_is_clause : List Str := [("value" : Str), ("count" : Str), ("rank" : Str)]
theorem ck_is_clause : cSs gw 60 ⟨n_is_clause, defScope (topS 52), []⟩ (defBody (topS 52)) = some i_is_clause := by kernel_rfl
theorem sc_is_clause : FnScope n_is_clause [("value" : Str)] (defScope (topS 52)) := ⟨rfl, rfl, rfl, by decide +kernel, rfl, by decide +kernel, by decide +kernel⟩
def n_is_custom : List Str := [("value" : Str), ("clause" : Str)]
theorem ck_is_custom : cSs gw 60 ⟨n_is_custom, defScope (topS 53), []⟩ (defBody (topS 53)) = some i_is_custom := by kernel_rfl
theorem sc_is_custom : FnScope n_is_custom [("value" : Str)] (defScope (topS 53)) := ⟨rfl, rfl, rfl, by decide +kernel, rfl, by decide +kernel, by decide +kernel⟩
def n_clauses_of : List Str := [("custom" : Str)]
theorem ck_clauses_of : cSs gw 60 ⟨n_clauses_of, defScope (topS 54), []⟩ (defBody (topS 54)) = some i_clauses_of := by kernel_rfl
theorem sc_clauses_of : FnScope n_clauses_of [("custom" : Str)] (defScope (topS 54)) := ⟨rfl, rfl, rfl, by decide +kernel, rfl, by decide +kernel, by decide +kernel⟩
def n_clause_form : List Str := [("clause" : Str), ("count" : Str), ("rank" : Str), ("other_count" : Str), ("other_rank" : Str), ("factor" : Str), ("other_factor" : Str), ("parts" : Str)]
theorem ck_clause_form : cSs gw 60 ⟨n_clause_form, defScope (topS 55), []⟩ (defBody (topS 55)) = some i_clause_form := by kernel_rfl
theorem sc_clause_form : FnScope n_clause_form [("clause" : Str)] (defScope (topS 55)) := ⟨rfl, rfl, rfl, by decide +kernel, rfl, by decide +kernel, by decide +kernel⟩
def n_is_amounts : List Str := [("value" : Str), ("count" : Str), ("amount" : Str)]
theorem ck_is_amounts : cSs gw 60 ⟨n_is_amounts, defScope (topS 56), []⟩ (defBody (topS 56)) = some i_is_amounts := by kernel_rfl
theorem sc_is_amounts : FnScope n_is_amounts [("value" : Str), ("count" : Str)] (defScope (topS 56)) := ⟨rfl, rfl, rfl, by decide +kernel, rfl, by decide +kernel, by decide +kernel⟩
def n_is_receipt : List Str := [("value" : Str)]
theorem ck_is_receipt : cSs gw 60 ⟨n_is_receipt, defScope (topS 57), []⟩ (defBody (topS 57)) = some i_is_receipt := by kernel_rfl
theorem sc_is_receipt : FnScope n_is_receipt [("value" : Str)] (defScope (topS 57)) := ⟨rfl, rfl, rfl, by decide +kernel, rfl, by decide +kernel, by decide +kernel⟩
def n_room_forms : List Str := [("custom" : Str), ("order" : Str), ("receipts" : Str), ("found" : Str), ("ride" : Str), ("amounts" : Str), ("play" : Str), ("rider" : Str), ("amount" : Str), ("fare" : Str), ("clause" : Str)]
theorem ck_room_forms : cSs gw 60 ⟨n_room_forms, defScope (topS 58), [3]⟩ (defBody (topS 58)) = some i_room_forms := by kernel_rfl
theorem sc_room_forms : FnScope n_room_forms [("custom" : Str), ("order" : Str), ("receipts" : Str)] (defScope (topS 58)) := ⟨rfl, rfl, rfl, by decide +kernel, rfl, by decide +kernel, by decide +kernel⟩
def n_worth : List Str := [("form" : Str), ("table" : Str), ("total" : Str), ("shares" : Str), ("factor" : Str), ("share" : Str), ("row" : Str)]
theorem ck_worth : cSs gw 60 ⟨n_worth, defScope (topS 59), []⟩ (defBody (topS 59)) = some i_worth := by kernel_rfl
theorem sc_worth : FnScope n_worth [("form" : Str), ("table" : Str)] (defScope (topS 59)) := ⟨rfl, rfl, rfl, by decide +kernel, rfl, by decide +kernel, by decide +kernel⟩
def n_keeps : List Str := [("table" : Str), ("forms" : Str), ("form" : Str)]
theorem ck_keeps : cSs gw 60 ⟨n_keeps, defScope (topS 60), []⟩ (defBody (topS 60)) = some i_keeps := by kernel_rfl
theorem sc_keeps : FnScope n_keeps [("table" : Str), ("forms" : Str)] (defScope (topS 60)) := ⟨rfl, rfl, rfl, by decide +kernel, rfl, by decide +kernel, by decide +kernel⟩
def n_receipts_of : List Str := [("value" : Str), ("found" : Str), ("told" : Str), ("receipt" : Str)]
theorem ck_receipts_of : cSs gw 60 ⟨n_receipts_of, defScope (topS 65), [1]⟩ (defBody (topS 65)) = some i_receipts_of := by kernel_rfl
theorem sc_receipts_of : FnScope n_receipts_of [("value" : Str)] (defScope (topS 65)) := ⟨rfl, rfl, rfl, by decide +kernel, rfl, by decide +kernel, by decide +kernel⟩
def n_is_table : List Str := [("value" : Str), ("index" : Str), ("row" : Str)]
theorem ck_is_table : cSs gw 60 ⟨n_is_table, defScope (topS 66), []⟩ (defBody (topS 66)) = some i_is_table := by kernel_rfl
theorem sc_is_table : FnScope n_is_table [("value" : Str)] (defScope (topS 66)) := ⟨rfl, rfl, rfl, by decide +kernel, rfl, by decide +kernel, by decide +kernel⟩
def n_fare_told : List Str := [("value" : Str), ("rider" : Str), ("order" : Str), ("ride" : Str)]
theorem ck_fare_told : cSs gw 60 ⟨n_fare_told, defScope (topS 67), []⟩ (defBody (topS 67)) = some i_fare_told := by kernel_rfl
theorem sc_fare_told : FnScope n_fare_told [("value" : Str), ("rider" : Str), ("order" : Str)] (defScope (topS 67)) := ⟨rfl, rfl, rfl, by decide +kernel, rfl, by decide +kernel, by decide +kernel⟩
def n_aim_of : List Str := [("claim" : Str), ("fare" : Str), ("other" : Str), ("top" : Str), ("bottom" : Str), ("sign" : Str)]
theorem ck_aim_of : cSs gw 60 ⟨n_aim_of, defScope (topS 68), []⟩ (defBody (topS 68)) = some i_aim_of := by kernel_rfl
theorem sc_aim_of : FnScope n_aim_of [("claim" : Str)] (defScope (topS 68)) := ⟨rfl, rfl, rfl, by decide +kernel, rfl, by decide +kernel, by decide +kernel⟩
def n_by_table : List Str := [("word" : Str), ("aim" : Str), ("rooms" : Str), ("paper" : Str), ("top" : Str)]
theorem ck_by_table : cSs gw 60 ⟨n_by_table, defScope (topS 69), []⟩ (defBody (topS 69)) = some i_by_table := by kernel_rfl
theorem sc_by_table : FnScope n_by_table [("word" : Str), ("aim" : Str), ("rooms" : Str), ("paper" : Str)] (defScope (topS 69)) := ⟨rfl, rfl, rfl, by decide +kernel, rfl, by decide +kernel, by decide +kernel⟩
def n_is_natural : List Str := [("value" : Str)]
theorem ck_is_natural : cSs gw 60 ⟨n_is_natural, defScope (topS 70), []⟩ (defBody (topS 70)) = some i_is_natural := by kernel_rfl
theorem sc_is_natural : FnScope n_is_natural [("value" : Str)] (defScope (topS 70)) := ⟨rfl, rfl, rfl, by decide +kernel, rfl, by decide +kernel, by decide +kernel⟩
def n_is_pair : List Str := [("paper" : Str), ("count" : Str), ("number" : Str)]
theorem ck_is_pair : cSs gw 60 ⟨n_is_pair, defScope (topS 71), []⟩ (defBody (topS 71)) = some i_is_pair := by kernel_rfl
theorem sc_is_pair : FnScope n_is_pair [("paper" : Str), ("count" : Str)] (defScope (topS 71)) := ⟨rfl, rfl, rfl, by decide +kernel, rfl, by decide +kernel, by decide +kernel⟩
def n_by_numbers : List Str := [("word" : Str), ("aim" : Str), ("scale" : Str), ("rooms" : Str), ("paper" : Str), ("total" : Str), ("room" : Str), ("number" : Str)]
theorem ck_by_numbers : cSs gw 60 ⟨n_by_numbers, defScope (topS 72), []⟩ (defBody (topS 72)) = some i_by_numbers := by kernel_rfl
theorem sc_by_numbers : FnScope n_by_numbers [("word" : Str), ("aim" : Str), ("scale" : Str), ("rooms" : Str), ("paper" : Str)] (defScope (topS 72)) := ⟨rfl, rfl, rfl, by decide +kernel, rfl, by decide +kernel, by decide +kernel⟩
def n_holds : List Str := [("claim" : Str), ("paper" : Str), ("custom" : Str), ("order" : Str), ("receipts" : Str), ("found" : Str), ("rooms" : Str)]
theorem ck_holds : cSs gw 60 ⟨n_holds, defScope (topS 73), []⟩ (defBody (topS 73)) = some i_holds := by kernel_rfl
theorem sc_holds : FnScope n_holds [("claim" : Str), ("paper" : Str)] (defScope (topS 73)) := ⟨rfl, rfl, rfl, by decide +kernel, rfl, by decide +kernel, by decide +kernel⟩
def n__law_from : List Str := [("_law_thing" : Str)]
theorem ck__law_from : cSs gw 60 ⟨n__law_from, defScope (topS 75), []⟩ (defBody (topS 75)) = some i__law_from := by kernel_rfl
theorem sc__law_from : FnScope n__law_from [("_law_thing" : Str)] (defScope (topS 75)) := ⟨rfl, rfl, rfl, by decide +kernel, rfl, by decide +kernel, by decide +kernel⟩
def n__law_of : List Str := [("_law_bag_here" : Str), ("_law_things" : Str)]
theorem ck__law_of : cSs gw 60 ⟨n__law_of, defScope (topS 78), []⟩ (defBody (topS 78)) = some i__law_of := by kernel_rfl
theorem sc__law_of : FnScope n__law_of [("_law_bag_here" : Str), ("_law_things" : Str)] (defScope (topS 78)) := ⟨rfl, rfl, rfl, by decide +kernel, rfl, by decide +kernel, by decide +kernel⟩
def n__law_whole : List Str := [("_law_thing" : Str), ("_law_low" : Str), ("_law_high" : Str)]
theorem ck__law_whole : cSs gw 60 ⟨n__law_whole, defScope (topS 79), []⟩ (defBody (topS 79)) = some i__law_whole := by kernel_rfl
theorem sc__law_whole : FnScope n__law_whole [("_law_thing" : Str), ("_law_low" : Str), ("_law_high" : Str)] (defScope (topS 79)) := ⟨rfl, rfl, rfl, by decide +kernel, rfl, by decide +kernel, by decide +kernel⟩
def n__law_plus : List Str := [("_law_one" : Str), ("_law_two" : Str)]
theorem ck__law_plus : cSs gw 60 ⟨n__law_plus, defScope (topS 81), []⟩ (defBody (topS 81)) = some i__law_plus := by kernel_rfl
theorem sc__law_plus : FnScope n__law_plus [("_law_one" : Str), ("_law_two" : Str)] (defScope (topS 81)) := ⟨rfl, rfl, rfl, by decide +kernel, rfl, by decide +kernel, by decide +kernel⟩
def n__law_is_part : List Str := [("_law_thing" : Str), ("_law_part" : Str)]
theorem ck__law_is_part : cSs gw 60 ⟨n__law_is_part, defScope (topS 82), []⟩ (defBody (topS 82)) = some i__law_is_part := by kernel_rfl
theorem sc__law_is_part : FnScope n__law_is_part [("_law_thing" : Str)] (defScope (topS 82)) := ⟨rfl, rfl, rfl, by decide +kernel, rfl, by decide +kernel, by decide +kernel⟩
def n__law_is_sheet : List Str := [("_law_thing" : Str), ("_law_n" : Str), ("_law_row" : Str), ("_law_total" : Str), ("_law_part" : Str), ("_law_falls" : Str), ("_law_j" : Str)]
theorem ck__law_is_sheet : cSs gw 60 ⟨n__law_is_sheet, defScope (topS 83), []⟩ (defBody (topS 83)) = some i__law_is_sheet := by kernel_rfl
theorem sc__law_is_sheet : FnScope n__law_is_sheet [("_law_thing" : Str)] (defScope (topS 83)) := ⟨rfl, rfl, rfl, by decide +kernel, rfl, by decide +kernel, by decide +kernel⟩
def n__law_full : List Str := [("_law_riders_here" : Str), ("_law_many" : Str), ("_law_t" : Str), ("_law_each" : Str)]
theorem ck__law_full : cSs gw 60 ⟨n__law_full, defScope (topS 84), []⟩ (defBody (topS 84)) = some i__law_full := by kernel_rfl
theorem sc__law_full : FnScope n__law_full [("_law_riders_here" : Str), ("_law_many" : Str)] (defScope (topS 84)) := ⟨rfl, rfl, rfl, by decide +kernel, rfl, by decide +kernel, by decide +kernel⟩
def n__law_told : List Str := [("_law_bag_here" : Str), ("_law_many" : Str), ("_law_costs_here" : Str), ("_law_found" : Str), ("_law_k" : Str), ("_law_begin" : Str), ("_law_fresh" : Str), ("_law_t" : Str)]
theorem ck__law_told : cSs gw 60 ⟨n__law_told, defScope (topS 85), [3]⟩ (defBody (topS 85)) = some i__law_told := by kernel_rfl
theorem sc__law_told : FnScope n__law_told [("_law_bag_here" : Str)] (defScope (topS 85)) := ⟨rfl, rfl, rfl, by decide +kernel, rfl, by decide +kernel, by decide +kernel⟩
def n__law_ranked : List Str := [("_law_riders_here" : Str), ("_law_word" : Str), ("_law_t" : Str), ("_law_found" : Str), ("_law_k" : Str), ("_law_begin" : Str), ("_law_end" : Str), ("_law_load" : Str), ("_law_key" : Str)]
theorem ck__law_ranked : cSs gw 60 ⟨n__law_ranked, defScope (topS 86), [3]⟩ (defBody (topS 86)) = some i__law_ranked := by kernel_rfl
theorem sc__law_ranked : FnScope n__law_ranked [("_law_riders_here" : Str), ("_law_word" : Str), ("_law_t" : Str)] (defScope (topS 86)) := ⟨rfl, rfl, rfl, by decide +kernel, rfl, by decide +kernel, by decide +kernel⟩
def n__law_fare : List Str := [("_law_told_here" : Str), ("_law_word" : Str), ("_law_k" : Str), ("_law_found" : Str), ("_law_t" : Str), ("_law_row" : Str), ("_law_spot" : Str)]
theorem ck__law_fare : cSs gw 60 ⟨n__law_fare, defScope (topS 87), [3]⟩ (defBody (topS 87)) = some i__law_fare := by kernel_rfl
theorem sc__law_fare : FnScope n__law_fare [("_law_told_here" : Str), ("_law_word" : Str), ("_law_k" : Str)] (defScope (topS 87)) := ⟨rfl, rfl, rfl, by decide +kernel, rfl, by decide +kernel, by decide +kernel⟩
def n__law_mix : List Str := [("_law_one" : Str), ("_law_by" : Str), ("_law_two" : Str), ("_law_more" : Str), ("_law_shares" : Str), ("_law_k" : Str)]
theorem ck__law_mix : cSs gw 60 ⟨n__law_mix, defScope (topS 88), []⟩ (defBody (topS 88)) = some i__law_mix := by kernel_rfl
theorem sc__law_mix : FnScope n__law_mix [("_law_one" : Str), ("_law_by" : Str), ("_law_two" : Str), ("_law_more" : Str)] (defScope (topS 88)) := ⟨rfl, rfl, rfl, by decide +kernel, rfl, by decide +kernel, by decide +kernel⟩
def n__law_at : List Str := [("_law_thing" : Str), ("_law_sheet" : Str), ("_law_total" : Str), ("_law_shares" : Str), ("_law_k" : Str)]
theorem ck__law_at : cSs gw 60 ⟨n__law_at, defScope (topS 89), []⟩ (defBody (topS 89)) = some i__law_at := by kernel_rfl
theorem sc__law_at : FnScope n__law_at [("_law_thing" : Str), ("_law_sheet" : Str)] (defScope (topS 89)) := ⟨rfl, rfl, rfl, by decide +kernel, rfl, by decide +kernel, by decide +kernel⟩
def n__law_top : List Str := [("_law_thing" : Str), ("_law_found" : Str), ("_law_n" : Str), ("_law_first" : Str), ("_law_k" : Str)]
theorem ck__law_top : cSs gw 60 ⟨n__law_top, defScope (topS 90), []⟩ (defBody (topS 90)) = some i__law_top := by kernel_rfl
theorem sc__law_top : FnScope n__law_top [("_law_thing" : Str)] (defScope (topS 90)) := ⟨rfl, rfl, rfl, by decide +kernel, rfl, by decide +kernel, by decide +kernel⟩
def n__law_rules : List Str := [("_law_word" : Str), ("_law_found" : Str), ("_law_n" : Str), ("_law_j" : Str)]
theorem ck__law_rules : cSs gw 60 ⟨n__law_rules, defScope (topS 91), []⟩ (defBody (topS 91)) = some i__law_rules := by kernel_rfl
theorem sc__law_rules : FnScope n__law_rules [("_law_word" : Str)] (defScope (topS 91)) := ⟨rfl, rfl, rfl, by decide +kernel, rfl, by decide +kernel, by decide +kernel⟩
def n__law_rooms : List Str := [("_law_custom_here" : Str), ("_law_word" : Str), ("_law_slips" : Str), ("_law_found" : Str), ("_law_n" : Str), ("_law_j" : Str), ("_law_m" : Str), ("_law_i" : Str), ("_law_p" : Str), ("_law_q" : Str), ("_law_room" : Str), ("_law_spot" : Str), ("_law_told_here" : Str), ("_law_amounts_here" : Str), ("_law_play_here" : Str), ("_law_k" : Str), ("_law_fare_here" : Str)]
theorem ck__law_rooms : cSs gw 60 ⟨n__law_rooms, defScope (topS 92), [3, 10]⟩ (defBody (topS 92)) = some i__law_rooms := by kernel_rfl
theorem sc__law_rooms : FnScope n__law_rooms [("_law_custom_here" : Str), ("_law_word" : Str), ("_law_slips" : Str)] (defScope (topS 92)) := ⟨rfl, rfl, rfl, by decide +kernel, rfl, by decide +kernel, by decide +kernel⟩
def n__law_keeps : List Str := [("_law_sheet" : Str), ("_law_rooms_here" : Str), ("_law_room" : Str)]
theorem ck__law_keeps : cSs gw 60 ⟨n__law_keeps, defScope (topS 93), []⟩ (defBody (topS 93)) = some i__law_keeps := by kernel_rfl
theorem sc__law_keeps : FnScope n__law_keeps [("_law_sheet" : Str), ("_law_rooms_here" : Str)] (defScope (topS 93)) := ⟨rfl, rfl, rfl, by decide +kernel, rfl, by decide +kernel, by decide +kernel⟩
def n__law_is_told : List Str := [("_law_thing" : Str), ("_law_many" : Str), ("_law_each" : Str)]
theorem ck__law_is_told : cSs gw 60 ⟨n__law_is_told, defScope (topS 94), []⟩ (defBody (topS 94)) = some i__law_is_told := by kernel_rfl
theorem sc__law_is_told : FnScope n__law_is_told [("_law_thing" : Str)] (defScope (topS 94)) := ⟨rfl, rfl, rfl, by decide +kernel, rfl, by decide +kernel, by decide +kernel⟩
def n__law_is_custom : List Str := [("_law_thing" : Str), ("_law_rule_here" : Str), ("_law_n" : Str), ("_law_j" : Str), ("_law_m" : Str), ("_law_i" : Str), ("_law_p" : Str), ("_law_q" : Str), ("_law_each" : Str)]
theorem ck__law_is_custom : cSs gw 60 ⟨n__law_is_custom, defScope (topS 95), []⟩ (defBody (topS 95)) = some i__law_is_custom := by kernel_rfl
theorem sc__law_is_custom : FnScope n__law_is_custom [("_law_thing" : Str)] (defScope (topS 95)) := ⟨rfl, rfl, rfl, by decide +kernel, rfl, by decide +kernel, by decide +kernel⟩
def n__law_are_slips : List Str := [("_law_thing" : Str), ("_law_slip" : Str), ("_law_each" : Str)]
theorem ck__law_are_slips : cSs gw 60 ⟨n__law_are_slips, defScope (topS 96), []⟩ (defBody (topS 96)) = some i__law_are_slips := by kernel_rfl
theorem sc__law_are_slips : FnScope n__law_are_slips [("_law_thing" : Str)] (defScope (topS 96)) := ⟨rfl, rfl, rfl, by decide +kernel, rfl, by decide +kernel, by decide +kernel⟩
def n__law_excess : List Str := [("_law_asked_here" : Str), ("_law_fare_here" : Str), ("_law_top_here" : Str), ("_law_bottom" : Str), ("_law_sign" : Str)]
theorem ck__law_excess : cSs gw 60 ⟨n__law_excess, defScope (topS 97), []⟩ (defBody (topS 97)) = some i__law_excess := by kernel_rfl
theorem sc__law_excess : FnScope n__law_excess [("_law_asked_here" : Str)] (defScope (topS 97)) := ⟨rfl, rfl, rfl, by decide +kernel, rfl, by decide +kernel, by decide +kernel⟩
def n__law_by_sheet : List Str := [("_law_asked_here" : Str), ("_law_proof_here" : Str), ("_law_top_here" : Str)]
theorem ck__law_by_sheet : cSs gw 60 ⟨n__law_by_sheet, defScope (topS 98), []⟩ (defBody (topS 98)) = some i__law_by_sheet := by kernel_rfl
theorem sc__law_by_sheet : FnScope n__law_by_sheet [("_law_asked_here" : Str), ("_law_proof_here" : Str)] (defScope (topS 98)) := ⟨rfl, rfl, rfl, by decide +kernel, rfl, by decide +kernel, by decide +kernel⟩
def n__law_by_sum : List Str := [("_law_asked_here" : Str), ("_law_proof_here" : Str), ("_law_rooms_here" : Str), ("_law_excess_here" : Str), ("_law_scale" : Str), ("_law_total" : Str), ("_law_k" : Str), ("_law_each" : Str)]
theorem ck__law_by_sum : cSs gw 60 ⟨n__law_by_sum, defScope (topS 99), []⟩ (defBody (topS 99)) = some i__law_by_sum := by kernel_rfl
theorem sc__law_by_sum : FnScope n__law_by_sum [("_law_asked_here" : Str), ("_law_proof_here" : Str)] (defScope (topS 99)) := ⟨rfl, rfl, rfl, by decide +kernel, rfl, by decide +kernel, by decide +kernel⟩
def n__law_is_asked : List Str := [("_law_asked_here" : Str), ("_law_sizes" : Str), ("_law_spot" : Str)]
theorem ck__law_is_asked : cSs gw 60 ⟨n__law_is_asked, defScope (topS 101), []⟩ (defBody (topS 101)) = some i__law_is_asked := by kernel_rfl
theorem sc__law_is_asked : FnScope n__law_is_asked [("_law_asked_here" : Str)] (defScope (topS 101)) := ⟨rfl, rfl, rfl, by decide +kernel, rfl, by decide +kernel, by decide +kernel⟩
def n__law_judge : List Str := [("_law_asked_here" : Str), ("_law_proof_here" : Str)]
theorem ck__law_judge : cSs gw 60 ⟨n__law_judge, defScope (topS 102), []⟩ (defBody (topS 102)) = some i__law_judge := by kernel_rfl
theorem sc__law_judge : FnScope n__law_judge [("_law_asked_here" : Str), ("_law_proof_here" : Str)] (defScope (topS 102)) := ⟨rfl, rfl, rfl, by decide +kernel, rfl, by decide +kernel, by decide +kernel⟩
def n__law_bent_told : List Str := [("_law_bag_here" : Str), ("_law_told_here" : Str), ("_law_costs_here" : Str), ("_law_riders_here" : Str), ("_law_many" : Str), ("_law_k" : Str), ("_law_begin" : Str), ("_law_end" : Str), ("_law_load" : Str), ("_law_some" : Str), ("_law_way" : Str)]
theorem ck__law_bent_told : cSs gw 60 ⟨n__law_bent_told, defScope (topS 103), []⟩ (defBody (topS 103)) = some i__law_bent_told := by kernel_rfl
theorem sc__law_bent_told : FnScope n__law_bent_told [("_law_bag_here" : Str), ("_law_told_here" : Str)] (defScope (topS 103)) := ⟨rfl, rfl, rfl, by decide +kernel, rfl, by decide +kernel, by decide +kernel⟩
def n__law_bent_slips : List Str := [("_law_bag_here" : Str), ("_law_slips" : Str), ("_law_told_here" : Str), ("_law_way" : Str), ("_law_slip" : Str)]
theorem ck__law_bent_slips : cSs gw 60 ⟨n__law_bent_slips, defScope (topS 104), []⟩ (defBody (topS 104)) = some i__law_bent_slips := by kernel_rfl
theorem sc__law_bent_slips : FnScope n__law_bent_slips [("_law_bag_here" : Str), ("_law_slips" : Str)] (defScope (topS 104)) := ⟨rfl, rfl, rfl, by decide +kernel, rfl, by decide +kernel, by decide +kernel⟩
def n__law_bent_custom : List Str := [("_law_bag_here" : Str), ("_law_rule_here" : Str), ("_law_way" : Str), ("_law_by" : Str)]
theorem ck__law_bent_custom : cSs gw 60 ⟨n__law_bent_custom, defScope (topS 105), []⟩ (defBody (topS 105)) = some i__law_bent_custom := by kernel_rfl
theorem sc__law_bent_custom : FnScope n__law_bent_custom [("_law_bag_here" : Str)] (defScope (topS 105)) := ⟨rfl, rfl, rfl, by decide +kernel, rfl, by decide +kernel, by decide +kernel⟩
def n__law_asked : List Str := [("_law_bag_here" : Str), ("_law_kind" : Str), ("_law_custom_here" : Str), ("_law_word" : Str), ("_law_slips" : Str), ("_law_told_here" : Str), ("_law_k" : Str), ("_law_j" : Str), ("_law_end" : Str)]
theorem ck__law_asked : cSs gw 60 ⟨n__law_asked, defScope (topS 106), []⟩ (defBody (topS 106)) = some i__law_asked := by kernel_rfl
theorem sc__law_asked : FnScope n__law_asked [("_law_bag_here" : Str), ("_law_kind" : Str), ("_law_custom_here" : Str), ("_law_word" : Str), ("_law_slips" : Str), ("_law_told_here" : Str)] (defScope (topS 106)) := ⟨rfl, rfl, rfl, by decide +kernel, rfl, by decide +kernel, by decide +kernel⟩
def n__law_right : List Str := [("_law_bag_here" : Str), ("_law_even" : Str), ("_law_turn" : Str), ("_law_told_here" : Str), ("_law_custom_here" : Str), ("_law_slips" : Str), ("_law_way" : Str), ("_law_word" : Str), ("_law_kind" : Str), ("_law_asked_here" : Str), ("_law_proof_here" : Str), ("_law_n" : Str)]
theorem ck__law_right : cSs gw 60 ⟨n__law_right, defScope (topS 107), []⟩ (defBody (topS 107)) = some i__law_right := by kernel_rfl
theorem sc__law_right : FnScope n__law_right [("_law_bag_here" : Str)] (defScope (topS 107)) := ⟨rfl, rfl, rfl, by decide +kernel, rfl, by decide +kernel, by decide +kernel⟩
end Cab
set_option Elab.async false
set_option linter.all false
set_option maxRecDepth 100000
set_option maxHeartbeats 4000000
/-! An own exception with one field, over a builtin class. -/
namespace Cab
open PySem PySem.W PySem.Calls PyProof.Rows PySem.HandSPX Builtin Builtin.ObjectAttr
/-- own classes, then a builtin class's line -/
def refsOf (tail : List Value) : List Value → Bool
  | [] => false
  | .ref c :: r => refsOf tail r
  | l => l == tail
theorem refsOf_cases {tail : List Value} : ∀ l : List Value, refsOf tail l = true → (∃ c r, l = .ref c :: r ∧ refsOf tail r = true) ∨ l = tail := fun l e => by
  unfold refsOf at e
  split at e
  · cases e
  · rename_i c r
    exact .inl ⟨c, r, rfl, e⟩
  · exact .inr (by simpa using e)
structure TailOk (tail : List Value) : Prop where
  pass : ∀ self, refuseLoop self "__setattr__" tail = pure ()
  obj : tail.contains (.type "object") = true
theorem refsOf_pass {tail : List Value} (T : TailOk tail) (self : Value) : ∀ l : List Value, refsOf tail l = true → refuseLoop self "__setattr__" l = pure () := by
  intro l
  induction l with
  | nil => intro e; cases e
  | cons a r ih =>
    intro e
    rcases refsOf_cases (a :: r) e with ⟨c, r', q, h⟩ | q
    · obtain ⟨rfl, rfl⟩ := List.cons.inj q
      rw [refuseLoop_ref]; exact ih h
    · rw [q]; exact T.pass self
theorem refsOf_contains {tail : List Value} (Y : String) : ∀ l : List Value, refsOf tail l = true → l.contains (.type Y) = tail.contains (.type Y) := by
  intro l
  induction l with
  | nil => intro e; cases e
  | cons a r ih =>
    intro e
    rcases refsOf_cases (a :: r) e with ⟨c, r', q, h⟩ | q
    · obtain ⟨rfl, rfl⟩ := List.cons.inj q
      rw [List.contains_cons, ih h]; rfl
    · rw [q]
theorem refsOf_ne {tail l : List Value} (e : refsOf tail l = true) : l.isEmpty = false := by
  cases l with
  | nil => cases e
  | cons _ _ => rfl
theorem tail_VE : TailOk [.type "ValueError", .type "Exception", .type "BaseException", .type "object"] := ⟨fun self => F.store_ValueError.passes self, by decide +kernel⟩
theorem tail_AE : TailOk [.type "ArithmeticError", .type "Exception", .type "BaseException", .type "object"] := ⟨fun self => F.store_ArithmeticError.passes self, by decide +kernel⟩
section
variable {prog : Program} {w : World} {A : Around} {E : Value → Shared → Prop} {R : Result → Shared → Prop} {hp : Heap} {g : Array GenState} {d : Drawn} {t : Nat} {os : OsState}
theorem exc_osa1 {tail : List Value} {K : W.Frag} {name : Str} {tk : Tok} {v : Value} {x C : Addr} {fv : Array Value} {cd : ClassData}
    (T : TailOk tail) (X : K.In hp) (hx : hp.get? x = some { cls := .ref C, data := .fields fv }) (hcd : W.clsIn K C = some cd) (hm : refsOf tail cd.mro = true) (hh : cd.hasDict = true) (ha : W.findIn K (.ref C) name = some none)
    (hq : ∀ h' tk' dx, (∀ b o, b ≠ x → hp.get? b = some o → h'.get? b = some o) → hp.objs.size ≤ dx → dx ≠ x → h'.get? x = some { cls := .ref C, dict := some dx, data := .fields fv } →
      h'.Ns1 dx (fun y => if y = name then some v else none) → R (.ok (.ret .none)) ⟨h', g, d, tk', os⟩) :
    codeAny (model prog w) A (.call (.builtin "object.__setattr__") ⟨[.ref x, .str name tk, v], []⟩) R ⟨hp, g, d, t, os⟩ := by
  have I : W.InstAt hp x { cls := .ref C, data := .fields fv } C none := ⟨hx, rfl, rfl, trivial⟩
  have SF := F.store_object
  have ne := refsOf_ne hm
  have hob : cd.mro.contains (.type "object") = true := (refsOf_contains "object" _ hm).trans T.obj
  have hxs : x ≠ hp.objs.size := Nat.ne_of_lt (Heap.lt_size hx)
  have sub : W.Looks (model prog w) hp (isInstance (.ref x) (.type "object")) true := I.type.andThen (W.looks_mroIn X (by unfold W.mroIn; rw [hcd, Option.bind_some, if_neg (by rw [ne]; decide), hob]))
  refine codeAny_call_builtin SF.slot.plain SF.entry (@W.check_slot (model prog w) _ _ ⟨hp, g, d, t, os⟩ "object.__setattr__" "object" "__setattr__" (.ref x) [.str name tk, v] [] _ SF.kind SF.split sub (SF.args (.ref x) (.str name tk) v) ?_)
  have hmr : W.Looks (model prog w) hp (mroOf (.ref C)) cd.mro := (W.looks_clsIn X hcd).andThen .now
  have L3 : W.Looks (model prog w) hp (storeTaker? none) none := .now
  have hcls : W.Looks (model prog w) hp (classData C) cd := W.looks_clsIn X hcd
  rw [W.osa_eq, refuse_eq]
  refine wpAny_bind (wpAny_bind (I.type.at (wpAny_bind (hmr.at ?_))))
  rw [refsOf_pass T _ _ hm]
  refine wpAny_pure (wpAny_bind (I.type.at (wpAny_bind ((W.looks_findIn X ha).at (wpAny_bind (L3.at ?_))))))
  show wpAny _ _ (storeInOwnDict (.ref x) (.ref C) (.str name tk) name v false) _ _ _
  obtain ⟨nm, bs, mro, ns, qn, hd, sn, sb, ab, col, del⟩ := cd
  dsimp only at hh
  subst hh
  unfold storeInOwnDict ownDictForStores
  repeat (first | with_reducible refine store_in_new ?_ ?_ | with_reducible refine wpAny_loadPart_at hx ?_ | with_reducible refine hcls.at ?_ | wp_step)
  · exact ⟨_, #[], _, (Heap.get?_update_ne _ _ _ _ hxs.symm).trans (Heap.get?_push_at rfl rfl), rfl, fun e he => absurd he (by simp), fun _ => rfl⟩
  · intro h' tk' hn' hs
    have hx₁ : (hp.push { cls := .type "dict", data := .dict #[] }).get? x = some { cls := .ref C, data := .fields fv } := Heap.get?_push_of_some _ hx
    refine hq h' tk' hp.objs.size (fun b o hb ho => ?_) (Nat.le_refl _) hxs.symm ?_ hn'
    · exact (hs.2 b (Nat.ne_of_lt (Heap.lt_size ho))).trans ((Heap.get?_update_ne _ _ _ _ hb).trans (Heap.get?_push_of_some _ ho))
    · exact (hs.2 x hxs).trans (Heap.get?_update_self _ hx₁ rfl)
end
/-! ### the text of __init__ -/
def iB (f : Str) (q1 q2 q3 q4 : Pos) : List Stmt := [.Assign [.Attribute (.Name "self" q1) f q2] (.Name f q3) q4]
def iS (f : Str) : Scope := { kind := .function, names := [(PySem.Str.ofString "self", .local), (f, .local)], isGenerator := false, isCoroutine := false, more := [] }
/-- what the written part says of an own exception class x, at C, with one field f -/
structure OwnX (K : Frag) (mg : Str → Option Value) (x f : Str) (C fI : Addr) : Prop where
  gC : mg x = some (.ref C)
  base : ∃ B newId initId tail, ExcBaseFacts B newId initId tail ∧ TailOk tail ∧ ∃ nm q N bs bm sn sub ab col dd k0 k1 k2 k3 k5, K.lookup C = some (excClassObj nm q C N bs bm true sn sub ab col dd k0 k1 k2 k3 k5 newId) ∧ refsOf tail bm = true
  sa : findIn K (.ref C) "__setattr__" = some (some (.builtin "object.__setattr__"))
  noN : findIn K (.ref C) f = some none
  iC : findIn K (.ref C) "__init__" = some (some (.ref fI))
  tC : typeIn K (.ref fI) = some (.type "function")
  kC : keepIn K (.ref C) = true
  exC : subIn K (.ref C) (.type "BaseException") = some true
  tyC : typeIn K (.ref C) = some (.type "type")
  fn : ∃ (qual : Str) (kV oc : Value) (od : Option Addr) (doc pm : Value) (an : Option Addr) (cdv ct : Value) (osl : Array (Option Value)) (params : Arguments) (q1 q2 q3 q4 : Pos),
    K.lookup fI = some ⟨oc, od, .func (fnOf "__init__" qual params (iB f q1 q2 q3 q4) (iS f) .none kV doc pm an cdv ct), osl⟩ ∧ codeIn K cdv qual = true ∧
    ∀ u v : Value, bindArgs (fnOf "__init__" qual params (iB f q1 q2 q3 q4) (iS f) .none kV doc pm an cdv ct) ⟨[u, v], []⟩ = pure [(("self" : Str), u), (f, v)]
  fs : (f == ("self" : Str)) = false ∧ (f == ("__debug__" : Str)) = false
theorem one_size (v : Value) : [v].length ≤ sizeLine := by
  rw [sizeLine_eq]
  exact (by decide : 1 ≤ 16777216)
theorem ldC {M : Model} {s : Shared} {name : Str} {scope : Scope} {L a : Addr} {cd : Value} {m : Str → Option Value} {x : Str} {pos : Pos} {v : Value} {Q : Value → Shared → Prop} {A : Around} {E : Value → Shared → Prop} (hn : s.heap.Ns L m) (hv : m x = some v) (h : Q v s)
    (hk : scope.kind = .function) (hl : (envOfC name scope L a cd).kindOf x = some .local) (hd : (x == ("__debug__" : Str)) = false) :
    wpAny M A (eval (.Name x pos) (envOfC name scope L a cd)) Q E s := wpAny_Name (wpAny_loadName_local hk hl hn hv h) hd
/-- what __init__ leaves of a fresh exception at x -/
structure InitEnd (f : Str) (h h' : Heap) (x C dx t1 : Addr) (v : Value) : Prop where
  keep : ∀ b o, b ≠ x → h.get? b = some o → h'.get? b = some o
  obj : h'.get? x = some { cls := .ref C, dict := some dx, data := .fields #[.ref t1, .none, .none, .none, .bool false, .none] }
  dbig : h.objs.size ≤ dx
  dne : dx ≠ x
  ns : h'.Ns1 dx (fun y => if y = f then some v else none)
/-- a made one -/
structure OwnMade (f : Str) (h h' : Heap) (e C d : Addr) (v : Value) : Prop where
  keep : ∀ b o, h.get? b = some o → h'.get? b = some o
  new : h.objs.size ≤ e
  obj : ∃ oe vs, h'.get? e = some oe ∧ oe.cls = .ref C ∧ oe.dict = some d ∧ oe.data = .fields vs ∧ vs[1]? = some .none
  dbig : h.objs.size ≤ d
  dne : d ≠ e
  ns : h'.Ns1 d (fun y => if y = f then some v else none)
section
variable {prog : Program} {w : World} {A : Around} {E : Value → Shared → Prop} {R : Result → Shared → Prop} {s : Shared} {K : Frag} {mg : Str → Option Value} {C fI : Addr} {xn f : Str}
theorem own_init (T : OwnX K mg xn f C fI) {x t0 : Addr} {v : Value} (X : K.In s.heap) (hlim : s.heap.NoLimit) (hx : s.heap.get? x = some (excO C t0)) (hroom : A.depth < recursionLimit)
    (hq : ∀ h' tk dx, InitEnd f s.heap h' x C dx t0 v → R (.ok (.ret .none)) { s with heap := h', toks := tk }) :
    codeAny (model prog w) A (.call (.ref fI) ⟨[.ref x, v], []⟩) R s := by
  obtain ⟨qual, kV, oc, od, doc, pm, an, cdv, ct, osl, params, q1, q2, q3, q4, ho, hcd, hbd⟩ := T.fn
  obtain ⟨B, newId, initId, tail, FB, TO, nm, q, N, bs, bm, sn, sub, ab, col, dd, k0, k1, k2, k3, k5, hC, hbm⟩ := T.base
  obtain ⟨fs1, fs2⟩ := T.fs
  have hcl : clsIn K C = some { name := nm, bases := bs, mro := .ref C :: bm, ns := N, qualname := q, hasDict := true, slotNames := sn, subclasses := sub, abstract := ab, collection := col, hasDel := false } := by unfold clsIn; rw [hC] <;> rfl
  have l1 : (iS f).names.lookup ("self" : Str) = some .local := rfl
  have l2 : (iS f).names.lookup f = some .local := by
    unfold iS
    dsimp only
    rw [List.lookup_cons, show (f == PySem.Str.ofString "self") = false from fs1]
    simp [List.lookup]
  refine Att.call_fn (binds := [("self", .ref x), (f, v)]) X hlim ho hcd hroom (BindsTo.of_eq (hbd _ _)) (by simp [l1, l2]) (fun s₁ IC => ?_) rfl rfl rfl
  obtain ⟨h₁, tk₁, rfl⟩ := IC.toInCall.same
  have k : ∀ b o, s.heap.get? b = some o → h₁.get? b = some o := IC.toInCall.keep
  have hn := IC.toInCall.ns
  have X₁ : K.In h₁ := X.keeps k
  have hx₁ := k _ _ hx
  have e1 : (envOfC qual (iS f) s.heap.objs.size fI cdv).kindOf ("self" : Str) = some .local := l1
  have e2 : (envOfC qual (iS f) s.heap.objs.size fI cdv).kindOf f = some .local := l2
  have b1 : bindL (envOfC qual (iS f) s.heap.objs.size fI cdv).kindOf [(("self" : Str), Value.ref x), (f, v)] (fun _ => none) ("self" : Str) = some (.ref x) := by
    simp [bindL, e1, e2, fs1, Ne.symm]
    try (intro z; rw [← z] at fs1; simp at fs1)
  have b2 : bindL (envOfC qual (iS f) s.heap.objs.size fI cdv).kindOf [(("self" : Str), Value.ref x), (f, v)] (fun _ => none) f = some v := by
    simp [bindL, e1, e2]
  show wpAny _ _ (execs _ _) _ _ _
  refine wpAny_execs_cons (plainObj_wpAny_Assign_Attribute ?_)
  refine ldC (v := v) hn b2 (ldC (v := .ref x) hn b1 ?_ rfl e1 (by decide)) rfl e2 fs2
  refine set_plain X₁ (ox := excO C t0) (od := none) ⟨hx₁, rfl, rfl, trivial⟩ T.sa ?_
  refine exc_osa1 TO X₁ hx₁ hcl (show refsOf tail (.ref C :: bm) = true from hbm) rfl T.noN (fun h₃ tk₃ dx k₃ dn dne hx₃ hn₃ => ?_)
  show wpAny _ _ (execs _ _) _ _ _
  have z : s.heap.objs.size < h₁.objs.size := hn.lt
  exact wpAny_execs_nil (hq h₃ tk₃ dx ⟨fun b o hb e => k₃ b o hb (k b o e), hx₃, Nat.le_of_lt (Nat.lt_of_lt_of_le z dn), dne, hn₃⟩)
theorem own_made (T : OwnX K mg xn f C fI) {v : Value} (X : K.In s.heap) (hlim : s.heap.NoLimit) (hroom : A.depth + 1 < recursionLimit)
    (hq : ∀ h' tk e d, OwnMade f s.heap h' e C d v → R (.ok (.ret (.ref e))) { s with heap := h', toks := tk }) :
    codeAny (model prog w) A (.call (.ref C) ⟨[v], []⟩) R s := by
  obtain ⟨B, newId, initId, tail, FB, TO, nm, q, N, bs, bm, sn, sub, ab, col, dd, k0, k1, k2, k3, k5, hC, hbm⟩ := T.base
  obtain ⟨hp, g, dr, tk, os⟩ := s
  have k : ∀ b o, hp.get? b = some o → ((hp.push (kdv_tup [v])).push (excO C hp.objs.size)).get? b = some o := fun b o e => Heap.get?_push_of_some _ (Heap.get?_push_of_some _ e)
  have hget : ((hp.push (kdv_tup [v])).push (excO C hp.objs.size)).get? (hp.objs.size + 1) = some (excO C hp.objs.size) := by heap_get
  refine call_own FB (fun X => refsOf_contains X bm hbm) (X _ _ hC) (looks_findIn X T.iC) (fun self => bind_fn X self T.tC) (one_size v) ?_
  refine own_init (s := ⟨(hp.push (kdv_tup [v])).push (excO C hp.objs.size), g, dr, tk, os⟩) T (X.keeps k) (hlim.keeps k) hget ?_ fun h' tk' dx ⟨k', hx, dn, dne, hns⟩ => ?_
  · show A.depth + 1 < recursionLimit
    exact hroom
  · have old : ∀ b o, hp.get? b = some o → h'.get? b = some o := fun b o e => k' b o (Nat.ne_of_lt (Nat.lt_succ_of_lt (Heap.lt_size e))) (k b o e)
    have z : hp.objs.size + 1 + 1 ≤ dx := by
      first
        | (simpa only [Heap.size_push] using dn)
        | exact dn
        | (have q := dn; rw [Heap.size_push, Heap.size_push] at q; exact q)
    exact ⟨rfl, hq h' tk' (hp.objs.size + 1) dx ⟨old, Nat.le_succ _, ⟨_, _, hx, rfl, rfl, rfl, rfl⟩, Nat.le_trans (Nat.le_trans (Nat.le_succ _) (Nat.le_succ _)) z, dne, hns⟩⟩
end
end Cab
namespace Cab
open PySem L2 PySem.Spec PyProof.Rows
theorem relO_own {f : Str} {v : V} {v' : Value} (r : RelV v v') (y : Str) : RelO (List.lookup y [(f, v)]) (if y = f then some v' else none) := by
  by_cases hw : y = f
  · subst hw
    rw [if_pos rfl]
    have q : List.lookup y [(y, v)] = some v := by simp [List.lookup]
    rw [q]
    exact r
  · rw [if_neg hw]
    have qw : (y == f) = false := by simpa using hw
    have q2 : List.lookup y [(f, v)] = none := by simp [List.lookup, qw]
    rw [q2]
    trivial
section
variable {X : Cx} {C fI : Addr} {xn f : Str}
/-- C(e) -/
def tMkX (f : Str) (C : Addr) (ta : TA) : L2.St → Hp → XK → Prop := fun σ H Q => ta σ H fun vs H1 => ∃ v, vs = [v] ∧ ∀ d, H1 d = none → Q (.ref C) (some d) (upd H1 d (.xd [(f, v)]))
theorem pmk_own {a : Expr} {ta : TA} {p pos : Pos} {k : Nat} (T : OwnX X.K X.mg xn f C fI) (hr : Room k X.A) (ha : PA X [a] ta) (hg : Gl X xn) (hx : (xn == ("__debug__" : Str)) = false)
    (he : starEach (a :: []) X.env = (false, eval a X.env) :: starEach [] X.env := by rfl) (hpl : (backTo pos (starEach [] X.env)).any (·.1) = false := by rfl) :
    PMk X (.Call (.Name xn p) [a] [] pos) (tMkX f C ta) := by
  intro pins s σ H Q I h
  refine wpAny_Call_Name_kw (ld_glob I hg T.gC ?_ hx)
  refine PySem.W.callWith_K (h₀ := X.base) I.ok.mod.kin T.kC (thn (ha.run pos pins s σ H _ I h) fun us s1 hh => ?_) he hpl
  obtain ⟨vs, H1, I1, r1, v, ev, q1⟩ := hh
  subst ev
  refine ⟨I1.kIn, ?_⟩
  cases r1 with
  | cons rv rn =>
    rename_i v' us'
    cases rn
    show wpAny _ _ (call (.ref C) [v']) _ _ _
    have hlim := I1.nolimit
    obtain ⟨hp, g, dr, tk, os⟩ := s1
    refine wpAny_call (own_made T I1.kIn hlim (by have := hr.dp; omega) fun h' tk' e d M => ?_)
    show MkP X pins σ Q (.ref e) ⟨h', g, dr, tk', os⟩
    obtain ⟨oe, fv, hoe, hc, hd, hdat, h1⟩ := M.obj
    have hns := M.ns
    obtain ⟨G', g1, g2⟩ := restrict h' fun b => decide (b ≠ e)
    have gk : ∀ b, b ≠ e → G'.get? b = h'.get? b := fun b hb => g1 b (decide_eq_true hb)
    have ge : G'.get? e = none := g2 e (by simp)
    have old : ∀ b o, hp.get? b = some o → G'.get? b = some o := fun b o q => (gk b (Nat.ne_of_lt (Nat.lt_of_lt_of_le (Heap.lt_size q) M.new))).trans (M.keep b o q)
    have ob : ObjOk X.prog X.w (upd H1 d (.xd [(f, v)])) G' d (.xd [(f, v)]) :=
      ⟨_, hns.at (fun o q => (gk d M.dne).trans q), fun f => relO_own rv f⟩
    have J : Inv X pins σ (upd H1 d (.xd [(f, v)])) ⟨G', g, dr, tk', os⟩ := I1.laid (t' := tk') old M.dbig ob
    refine ⟨e, oe, fv, ⟨G', g, dr, tk', os⟩, _, .ref C, some d, rfl, J, fun b o q => ?_, ge, hoe, ⟨hc, hd⟩, hdat, h1, ?_, rfl, I1.bare, raises_own T.exC T.tyC, q1 d (I1.hok.fresh M.dbig)⟩
    · by_cases hb : b = e
      · have q' : G'.get? b = some o := q
        rw [hb, ge] at q'; cases q'
      · exact (gk b hb).symm.trans q
    · rw [upd_ne (Ne.symm M.dne)]
      exact I1.hok.fresh M.new
/-- raise C(e) -/
theorem ps_raiseX {a : Expr} {ta : TA} {W : WX} {p pos pos2 : Pos} {k : Nat} (hc : X.calm = true) (T : OwnX X.K X.mg xn f C fI) (hr : Room k X.A) (tk : Takes X W) (ha : PA X [a] ta) (hg : Gl X xn) (hx : (xn == ("__debug__" : Str)) = false)
    (he : starEach (a :: []) X.env = (false, eval a X.env) :: starEach [] X.env := by rfl) (hpl : (backTo pos (starEach [] X.env)).any (·.1) = false := by rfl) :
    PS X (.Raise (some (.Call (.Name xn p) [a] [] pos)) none pos2) (fun _ σ H => tMkX f C ta σ H fun cls d H' => W cls d σ H') := ps_raise hc tk (pmk_own T hr ha hg hx he hpl)
end
end Cab
set_option Elab.async false
set_option linter.all false
set_option maxRecDepth 100000
set_option maxHeartbeats 2000000
/-! Data in the heap: what a value tells, what grows, what a state is. S is the part of the heap that data stand in; what only a slot holds, the bag and the tables stand outside. -/
namespace Cab
open PySem L2 LamX Evl

section
variable (CR b : Addr)
mutual
def Rep (S : Hp) : D → V → Prop
  | .non, v => v = .non
  | .bl x, v => v = .bl x
  | .int i, v => v = .int i
  | .str s, v => v = .str s
  | .tup xs, v => ∃ a vs, v = .ref a ∧ S a = some (.tup vs) ∧ Reps S xs vs
  | .lst xs, v => ∃ a vs, v = .ref a ∧ S a = some (.lst vs) ∧ Reps S xs vs
  | .rtup xs, v => ∃ a o vs, v = .ref a ∧ S a = some (.frz o (.tup vs)) ∧ o.dict = none ∧ Reps S xs vs
  | .ride c r, v => ∃ a dx vc vr vt, v = .ref a ∧ S a = some (.ins CR dx [(("costs" : Str), vc), (("riders" : Str), vr), (("told" : Str), vt)]) ∧ Rep S c vc ∧ Rep S r vr
  | .bag, v => v = .ref b
  | .dct kvs, v => ∃ a, v = .ref a ∧ S a = some (.dK (kvs.map fun p => ((Sum.inr p.1 : Key), V.int p.2)))
def Reps (S : Hp) : List D → List V → Prop
  | [], vs => vs = []
  | d :: ds, vs => ∃ v r, vs = v :: r ∧ Rep S d v ∧ Reps S ds r
end
end
section
variable {CR b : Addr}
mutual
theorem Rep.mono {S S' : Hp} (e : Ex S S') : ∀ (d : D) {v : V}, Rep CR b S d v → Rep CR b S' d v
  | .non, _, h => h
  | .bl _, _, h => h
  | .int _, _, h => h
  | .str _, _, h => h
  | .tup xs, _, ⟨a, vs, h1, h2, h3⟩ => ⟨a, vs, h1, e _ _ h2, Reps.mono e xs h3⟩
  | .lst xs, _, ⟨a, vs, h1, h2, h3⟩ => ⟨a, vs, h1, e _ _ h2, Reps.mono e xs h3⟩
  | .rtup xs, _, ⟨a, o, vs, h1, h2, h3, h4⟩ => ⟨a, o, vs, h1, e _ _ h2, h3, Reps.mono e xs h4⟩
  | .ride c r, _, ⟨a, dx, vc, vr, vt, h1, h2, h3, h4⟩ => ⟨a, dx, vc, vr, vt, h1, e _ _ h2, Rep.mono e c h3, Rep.mono e r h4⟩
  | .bag, _, h => h
  | .dct _, _, ⟨a, h1, h2⟩ => ⟨a, h1, e _ _ h2⟩
theorem Reps.mono {S S' : Hp} (e : Ex S S') : ∀ (ds : List D) {vs : List V}, Reps CR b S ds vs → Reps CR b S' ds vs
  | [], _, h => h
  | d :: ds, _, ⟨v, r, h1, h2, h3⟩ => ⟨v, r, h1, Rep.mono e d h2, Reps.mono e ds h3⟩
end
theorem Reps.length {S : Hp} : ∀ {ds : List D} {vs : List V}, Reps CR b S ds vs → ds.length = vs.length
  | [], _, h => by
    have h : _ = [] := h
    rw [h]
    rfl
  | d :: ds, _, ⟨v, r, h1, h2, h3⟩ => by
    rw [h1, List.length_cons, List.length_cons, Reps.length h3]
theorem Reps.get {S : Hp} : ∀ {ds : List D} {vs : List V} {i : Nat} {d : D}, Reps CR b S ds vs → ds[i]? = some d → ∃ v, vs[i]? = some v ∧ Rep CR b S d v
  | [], _, i, d, _, e => by simp at e
  | x :: ds, _, 0, d, ⟨v, r, h1, h2, h3⟩, e => by
    have e' : x = d := by simpa using e
    subst e'
    exact ⟨v, by rw [h1]; rfl, h2⟩
  | x :: ds, _, i + 1, d, ⟨v, r, h1, h2, h3⟩, e => by
    obtain ⟨u, q1, q2⟩ := Reps.get (i := i) h3 (by simpa using e)
    exact ⟨u, by rw [h1]; simpa using q1, q2⟩
theorem Reps.getv {S : Hp} : ∀ {ds : List D} {vs : List V} {i : Nat} {v : V}, Reps CR b S ds vs → vs[i]? = some v → ∃ d, ds[i]? = some d ∧ Rep CR b S d v
  | [], _, i, v, h, e => by
    have h : _ = [] := h
    rw [h] at e
    simp at e
  | x :: ds, _, 0, v, ⟨u, r, h1, h2, h3⟩, e => by
    rw [h1] at e
    have e' : u = v := by simpa using e
    subst e'
    exact ⟨x, rfl, h2⟩
  | x :: ds, _, i + 1, v, ⟨u, r, h1, h2, h3⟩, e => by
    rw [h1] at e
    obtain ⟨d, q1, q2⟩ := Reps.getv (i := i) h3 (by simpa using e)
    exact ⟨d, by simpa using q1, q2⟩
theorem Reps.append {S : Hp} : ∀ {xs ys : List D} {us ws : List V}, Reps CR b S xs us → Reps CR b S ys ws → Reps CR b S (xs ++ ys) (us ++ ws)
  | [], _, _, _, h, k => by
    have h : _ = [] := h
    rw [h]
    exact k
  | x :: xs, _, _, _, ⟨v, r, h1, h2, h3⟩, k => ⟨v, r ++ _, by rw [h1]; rfl, h2, Reps.append h3 k⟩
theorem Reps.drop {S : Hp} : ∀ (n : Nat) {xs : List D} {us : List V}, Reps CR b S xs us → Reps CR b S (xs.drop n) (us.drop n)
  | 0, _, _, h => h
  | n + 1, [], _, h => by
    have h : _ = [] := h
    rw [h]
    exact rfl
  | n + 1, x :: xs, _, ⟨v, r, h1, h2, h3⟩ => by
    rw [h1]
    exact Reps.drop n h3
theorem Reps.take {S : Hp} : ∀ (n : Nat) {xs : List D} {us : List V}, Reps CR b S xs us → Reps CR b S (xs.take n) (us.take n)
  | 0, _, _, h => rfl
  | n + 1, [], _, h => by
    have h : _ = [] := h
    rw [h]
    exact rfl
  | n + 1, x :: xs, _, ⟨v, r, h1, h2, h3⟩ => by
    rw [h1]
    exact ⟨v, r.take n, rfl, h2, Reps.take n h3⟩
theorem Reps.set {S : Hp} : ∀ (n : Nat) {xs : List D} {us : List V} {d : D} {v : V}, Reps CR b S xs us → Rep CR b S d v → Reps CR b S (xs.set n d) (us.set n v)
  | _, [], _, d, v, h, k => by
    have h : _ = [] := h
    rw [h]
    exact rfl
  | 0, x :: xs, _, d, v, ⟨u, r, h1, h2, h3⟩, k => by
    rw [h1]
    exact ⟨v, r, rfl, k, h3⟩
  | n + 1, x :: xs, _, d, v, ⟨u, r, h1, h2, h3⟩, k => by
    rw [h1]
    exact ⟨u, r.set n v, rfl, h2, Reps.set n h3 k⟩
theorem Reps.flat {S : Hp} {xs : List D} {us : List V} (h : Reps CR b S xs us) : ∀ n : Nat, Reps CR b S (List.replicate n xs).flatten (List.replicate n us).flatten
  | 0 => rfl
  | n + 1 => by
    rw [List.replicate_succ, List.replicate_succ, List.flatten_cons, List.flatten_cons]
    exact h.append (Reps.flat h n)
end

/-- the bag as it stands -/
def bagO (B : Bg) : HO := .lst [.int B.1, .int B.2.1, .int B.2.2]
/-- what may be a part of the data heap, with the bag and the tables beside -/
structure Bas (T : List (Addr × Str)) (b : Addr) (S H : Hp) (B : Bg) : Prop where
  sub : Ex S H
  bS : S b = none
  bag : H b = some (bagO B)
  tabs : Tabs T H
  noT : ∀ a ps, S a ≠ some (.tbl ps)
/-- what stood stands; what was hidden is hidden -/
structure Gr (b : Addr) (S H S' H' : Hp) : Prop where
  s : Ex S S'
  h : ∀ a o, H a = some o → a ≠ b → (∀ ps, o ≠ .tbl ps) → H' a = some o
  per : ∀ a, H a ≠ none → H' a ≠ none
  hid : ∀ a, H a ≠ none → S a = none → S' a = none
theorem Gr.refl (b : Addr) (S H : Hp) : Gr b S H S H := ⟨fun _ _ h => h, fun _ _ h _ _ => h, fun _ h => h, fun _ _ h => h⟩
theorem Gr.trans {b : Addr} {S H S1 H1 S2 H2 : Hp} (p : Gr b S H S1 H1) (q : Gr b S1 H1 S2 H2) : Gr b S H S2 H2 :=
  ⟨p.s.trans q.s, fun a o h n t => q.h a o (p.h a o h n t) n t, fun a h => q.per a (p.per a h), fun a h n => q.hid a (p.per a h) (p.hid a h n)⟩
theorem Gr.nn {b : Addr} {S H S' H' : Hp} (g : Gr b S H S' H') {a : Addr} (h : H' a = none) : H a = none := by
  cases e : H a with
  | none => rfl
  | some o => exact absurd h (g.per a (by rw [e]; simp))
theorem Bas.noneS {T : List (Addr × Str)} {b : Addr} {S H : Hp} {B : Bg} (x : Bas T b S H B) {a : Addr} (h : H a = none) : S a = none := by
  cases e : S a with
  | none => rfl
  | some o =>
    rw [x.sub a o e] at h
    cases h
theorem Bas.neB {T : List (Addr × Str)} {b : Addr} {S H : Hp} {B : Bg} (x : Bas T b S H B) {a : Addr} (h : H a = none) : a ≠ b := fun e => by
  rw [e, x.bag] at h
  cases h
/-- a new object laid in the data's part -/
theorem Bas.new {T : List (Addr × Str)} {b : Addr} {S H : Hp} {B : Bg} (x : Bas T b S H B) {p : Addr} {o : HO} (h : H p = none) (ht : ∀ ps, o ≠ .tbl ps) : Bas T b (upd S p o) (upd H p o) B where
  sub := fun a u e => by
    by_cases q : a = p
    · subst q
      rw [upd_same] at e ⊢
      exact e
    · rw [upd_ne q] at e ⊢
      exact x.sub a u e
  bS := by rw [upd_ne (x.neB h).symm]; exact x.bS
  bag := by rw [upd_ne (x.neB h).symm]; exact x.bag
  tabs := x.tabs.ext fun a u e => by rw [upd_ne (ne_of_none e h)]; exact e
  noT := fun a ps e => by
    by_cases q : a = p
    · subst q
      rw [upd_same] at e
      exact ht ps (Option.some.inj e)
    · rw [upd_ne q] at e
      exact x.noT a ps e
theorem Gr.new {b : Addr} {S H : Hp} {p : Addr} {o : HO} (sub : Ex S H) (h : H p = none) : Gr b S H (upd S p o) (upd H p o) where
  s := fun a u e => by
    have n : S p = none := by
      cases q : S p with
      | none => rfl
      | some w =>
        rw [sub p w q] at h
        cases h
    rw [upd_ne (ne_of_none e n)]
    exact e
  h := fun a u e _ _ => by rw [upd_ne (ne_of_none e h)]; exact e
  per := fun a q => by
    by_cases e : a = p
    · subst e
      rw [upd_same]
      simp
    · rw [upd_ne e]
      exact q
  hid := fun a q n => by
    have e : a ≠ p := fun z => q (by rw [z]; exact h)
    rw [upd_ne e]
    exact n
/-- a new object laid outside the data's part -/
theorem Bas.newH {T : List (Addr × Str)} {b : Addr} {S H : Hp} {B : Bg} (x : Bas T b S H B) {p : Addr} {o : HO} (h : H p = none) : Bas T b S (upd H p o) B where
  sub := fun a u e => by rw [upd_ne (ne_of_none (x.sub a u e) h)]; exact x.sub a u e
  bS := x.bS
  bag := by rw [upd_ne (x.neB h).symm]; exact x.bag
  tabs := x.tabs.ext fun a u e => by rw [upd_ne (ne_of_none e h)]; exact e
  noT := x.noT
theorem Gr.newH {b : Addr} {S H : Hp} {p : Addr} {o : HO} (h : H p = none) : Gr b S H S (upd H p o) where
  s := Ex.refl S
  h := fun a u e _ _ => by rw [upd_ne (ne_of_none e h)]; exact e
  per := fun a q => by
    by_cases e : a = p
    · subst e
      rw [upd_same]
      simp
    · rw [upd_ne e]
      exact q
  hid := fun a q n => n
/-- a list outside the data's part is written -/
theorem Bas.write {T : List (Addr × Str)} {b : Addr} {S H : Hp} {B : Bg} (x : Bas T b S H B) {p : Addr} {us vs : List V} (hp : H p = some (.lst us)) (hS : S p = none) (hb : p ≠ b) : Bas T b S (upd H p (.lst vs)) B where
  sub := fun a u e => by
    have n : a ≠ p := fun z => by rw [z, hS] at e; cases e
    rw [upd_ne n]
    exact x.sub a u e
  bS := x.bS
  bag := by rw [upd_ne hb.symm]; exact x.bag
  tabs := fun q hq => by
    obtain ⟨ps, h1, h2, h3⟩ := x.tabs q hq
    refine ⟨ps, by rw [upd_ne (fun z => by rw [z, hp] at h1; cases h1)]; exact h1, h2, fun pos cv hc => ?_⟩
    obtain ⟨c, e1, e2⟩ := h3 pos cv hc
    refine ⟨c, e1, ?_⟩
    have n : c ≠ p := fun z => by
      rw [z, hp] at e2
      have e3 := Option.some.inj e2
      unfold CodeO at e3
      cases e3
    rw [upd_ne n]
    exact e2
  noT := x.noT

section
variable (CR : Addr) (T : List (Addr × Str))
/-- a state of a def's frame: its slots by the data they hold -/
structure Stt (b : Addr) (S H : Hp) (σ : L2.St) (env : Env) (B : Bg) : Prop where
  bas : Bas T b S H B
  len : σ.length = env.length
  val : ∀ (i : Nat) (d : D), env[i]? = some (Sl.val d) → ∃ v, σ[i]? = some (some v) ∧ Rep CR b S d v
  own : ∀ (i : Nat) (xs : List D), env[i]? = some (Sl.own xs) → ∃ p vs, σ[i]? = some (some (.ref p)) ∧ S p = none ∧ p ≠ b ∧ H p = some (.lst vs) ∧ Reps CR b S xs vs
  dis : ∀ (i j : Nat) (xs ys : List D) (p : Addr), env[i]? = some (Sl.own xs) → env[j]? = some (Sl.own ys) → σ[i]? = some (some (.ref p)) → σ[j]? = some (some (.ref p)) → i = j
/-- .. behind an entry at S0, H0 -/
structure Ste (b : Addr) (S0 H0 S H : Hp) (σ : L2.St) (env : Env) (B : Bg) : Prop where
  st : Stt CR T b S H σ env B
  gr : Gr b S0 H0 S H
  fr : ∀ (i : Nat) (xs : List D) (p : Addr), env[i]? = some (Sl.own xs) → σ[i]? = some (some (.ref p)) → H0 p = none
end
section
variable {CR : Addr} {T : List (Addr × Str)} {b : Addr} {S H S' H' S0 H0 : Hp} {σ : L2.St} {env : Env} {B B' : Bg}
theorem Stt.mono (x : Stt CR T b S H σ env B) (g : Gr b S H S' H') (y : Bas T b S' H' B') : Stt CR T b S' H' σ env B' where
  bas := y
  len := x.len
  val := fun i d e => by
    obtain ⟨v, h1, h2⟩ := x.val i d e
    exact ⟨v, h1, Rep.mono g.s d h2⟩
  own := fun i xs e => by
    obtain ⟨p, vs, h1, h2, h3, h4, h5⟩ := x.own i xs e
    exact ⟨p, vs, h1, g.hid p (by rw [h4]; simp) h2, h3, g.h p _ h4 h3 (fun ps q => by cases q), Reps.mono g.s xs h5⟩
  dis := x.dis
theorem Ste.mono (x : Ste CR T b S0 H0 S H σ env B) (g : Gr b S H S' H') (y : Bas T b S' H' B') : Ste CR T b S0 H0 S' H' σ env B' := ⟨x.st.mono g y, x.gr.trans g, x.fr⟩
end
end Cab
set_option Elab.async false
set_option linter.all false
set_option maxRecDepth 100000
set_option maxHeartbeats 2000000
/-! enumerate of a tuple; zip of a list and a tuple, either way. -/
namespace CabI
open PySem PySem.Spec PyProof.Rows L2

/-! ### a list (true) or a tuple (false) that is walked -/
def SqK (k : Bool) (K : PySem.W.Frag) (H : Hp) (a : Addr) (xs : List V) : Prop := match k with
  | true => SqL K H a xs
  | false => SqT K H a xs
def InK (k : Bool) (h : Heap) (a : Addr) (its : Array Value) : Prop := match k with
  | true => h.IsList a its
  | false => h.IsTuple a its
def ItK (k : Bool) (h : Heap) (it a : Addr) (i : Nat) : Prop := match k with
  | true => h.IsListIter it a i
  | false => h.IsTupleIter it a i
def obK (k : Bool) (a : Addr) : Obj := match k with
  | true => { cls := .type "list_iterator", data := .fields #[.ref a, .int 0 0] }
  | false => { cls := .type "tuple_iterator", data := .fields #[.ref a, .int 0 0] }
theorem begK (k : Bool) (a : Addr) (its : Array Value) : Begins (.ref a) (obK k a) fun h => InK k h a its := match k with
  | true => begins_list a its
  | false => begins_tuple a its
theorem drK {prog : Program} {w : World} {A : Around} (k : Bool) (hh : A.handled = none) (it a : Addr) (hne : a ≠ it) (its : Array Value) :
    Draws prog w A it [it, a] its.size (fun i v => its[i]? = some v) (fun i h => ItK k h it a i ∧ InK k h a its) := match k with
  | true => Draws.list hh it a hne its
  | false => Draws.tuple hh it a hne its
theorem itK_at {k : Bool} {h h' : Heap} {it a : Addr} {i : Nat} (x : ItK k h it a i) (e : ∀ o, h.get? it = some o → h'.get? it = some o) : ItK k h' it a i := match k, x with
  | true, x => Heap.IsListIter.at x e
  | false, x => Heap.IsTupleIter.at x e
theorem itK_new {k : Bool} {h : Heap} {it a : Addr} (e : h.get? it = some (obK k a)) : ItK k h it a 0 := match k, e with
  | true, e => ⟨_, e, rfl, rfl⟩
  | false, e => ⟨_, e, rfl, rfl⟩
theorem itK_ob {k : Bool} {h : Heap} {it a : Addr} {i : Nat} (x : ItK k h it a i) : ∃ o, h.get? it = some o ∧ ∀ v, o.data ≠ .cell v := match k, x with
  | true, ⟨o, ho, hc, hd⟩ => ⟨o, ho, fun v q => by rw [hd] at q; cases q⟩
  | false, ⟨o, ho, hc, hd⟩ => ⟨o, ho, fun v q => by rw [hd] at q; cases q⟩
section
variable {X : Cx} {pins : List (Addr × Obj)} {σ : L2.St} {H : Hp} {s : Shared} {a : Addr} {xs ys : List V}
theorem inK_of {k : Bool} (I : Inv X pins σ H s) (h : SqK k X.K H a xs) : ∃ its : List Value, Vals xs its ∧ InK k s.heap a its.toArray ∧ a < s.heap.objs.size := match k, h with
  | true, h => by
    obtain ⟨its, r, p, _⟩ := I.list h
    exact ⟨its, r, p.isList, p.lt⟩
  | false, h => by
    obtain ⟨its, r, p, _⟩ := I.tuple h
    exact ⟨its, r, p, p.lt⟩
theorem inK_inj {k : Bool} (I : Inv X pins σ H s) (h : SqK k X.K H a xs) (h' : SqK k X.K H a ys) : xs = ys := match k, h, h' with
  | true, h, h' => I.list_inj h h'
  | false, h, h' => I.tuple_inj h h'
end
/-! ### enumerate -/
set_option maxHeartbeats 4000000 in
theorem meets_enum1 {v : Value} {o : Obj} {H : Heap → Prop} (B : Begins v o H) :
    Meets (Builtin.«enumerate.__new__» ⟨[.type "enumerate", v], []⟩) (fun _ R s => H s.heap ∧
      R (.ok (.ret (.ref (s.heap.push o).objs.size))) { s with heap := (s.heap.push o).push { cls := .type "enumerate", data := .fields #[.none, .bool false, .ref s.heap.objs.size, rawInt 0, .none, .none] } }) :=
  .of_wp fun prog w A R s h => by
    obtain ⟨hp, g, d, tk, os⟩ := s
    obtain ⟨h1, h⟩ := h
    have hsub := sub_enumerate
    have q1 : ∀ {A' : Around} {E : Value → Shared → Prop} {Q : Value → Shared → Prop}, Q (.ref hp.objs.size) ⟨hp.push o, g, d, tk, os⟩ → wpAny (model prog w) A' (pyIter v) Q E ⟨hp, g, d, tk, os⟩ :=
      fun q => B.iter prog w _ _ ⟨hp, g, d, tk, os⟩ _ h1 q
    wp_walk using q1
    refine wpAny_stack_any fun st => wpAny_pure ?_
    split
    · rename_i c _ _ _ _ _
      cases (c == Value.type "enumerate")
      · wp_walk using q1
        exact ⟨_, rfl, h⟩
      · wp_walk using q1
        exact ⟨_, rfl, h⟩
    · wp_walk using q1
      exact ⟨_, rfl, h⟩
theorem enum1_begins {prog : Program} {w : World} {A : Around} {E : Value → Shared → Prop} {s : Shared} {v : Value} {o : Obj} {H : Heap → Prop} {Q : Value → Shared → Prop} (B : Begins v o H) (h1 : H s.heap)
    (h : ∀ h', IsEnum h' (s.heap.objs.size + 1) s.heap.objs.size 0 .none → h'.get? s.heap.objs.size = some o → (∀ b o, s.heap.get? b = some o → h'.get? b = some o) → Q (.ref (s.heap.objs.size + 1)) { s with heap := h' }) :
    wpAny (model prog w) A (call (.type "enumerate") [v]) Q E s := by
  refine callType_new F.called_enumerate (by decide) (F.typeCall_enumerate_1 _) (F.newCall_enumerate_1 _) (fun obj => F.args_object_init_2 obj _) F.entry_enumerate_new (meets_enum1 B) ⟨h1, ?_⟩
  have hz : (s.heap.push o).objs.size = s.heap.objs.size + 1 := Heap.size_push ..
  show _ ∧ _
  rw [hz]
  have he : IsEnum ((s.heap.push o).push { cls := .type "enumerate", data := .fields #[.none, .bool false, .ref s.heap.objs.size, rawInt 0, .none, .none] }) (s.heap.objs.size + 1) s.heap.objs.size 0 .none := by
    have q := Heap.get?_push_size (s.heap.push o) (o := { cls := .type "enumerate", data := .fields #[.none, .bool false, .ref s.heap.objs.size, rawInt 0, .none, .none] }) rfl
    rw [hz] at q
    exact q
  exact ⟨⟨_, he, rfl⟩, h _ he (Heap.get?_push_of_some _ (Heap.get?_push_size _ B.free)) fun b o x => Heap.get?_push_of_some _ (Heap.get?_push_of_some _ x)⟩
def JEn (k : Bool) (K : PySem.W.Frag) (a : Addr) : It :=
  ⟨fun i H => ∃ (xs : List V) (x : V), SqK k K H a xs ∧ xs[i]? = some x, fun i H v H' => ∃ T x, v = .ref T ∧ H T = none ∧ H' = upd H T (.tup [.int (i : Nat), x]) ∧ ∀ xs, SqK k K H a xs → xs[i]? = some x,
    fun i H => ∃ xs : List V, SqK k K H a xs ∧ xs.length = i⟩
/-- a walked thing stands apart from what is not tracked and not written -/
theorem seq_ne {X : Cx} {pins : List (Addr × Obj)} {σ : L2.St} {H : Hp} {s : Shared} {k : Bool} {a c : Addr} {xs : List V} (I : Inv X pins σ H s) (h : SqK k X.K H a xs) (hc : FpOk X pins H c) (ho : X.s_0.heap.objs.size ≤ c ∨ c ∈ X.ex) : a ≠ c := by
  intro z
  subst z
  have no : ∀ o, X.K.lookup a = some o → False := fun o e => by
    have e1 : X.base.get? a = some o := I.ok.mod.kin a o e
    rcases ho with q | q
    · exact absurd (Nat.lt_of_lt_of_le (Heap.lt_size e1) (Nat.le_trans I.ok.bsz q)) (Nat.lt_irrefl _)
    · exact I.ok.noex a o e1 q
  cases k with
  | true =>
    rcases h with h | ⟨o, its, n, e, _⟩
    · rcases h with h | ⟨o, h⟩
      · rw [hc.1] at h; cases h
      · rw [hc.1] at h; cases h
    · exact no o e
  | false =>
    rcases h with h | ⟨o, its, n, e, _⟩
    · rcases h with h | ⟨o, h⟩
      · rw [hc.1] at h; cases h
      · rw [hc.1] at h; cases h
    · exact no o e
theorem seq_ne' {X : Cx} {pins : List (Addr × Obj)} {σ : L2.St} {H : Hp} {s : Shared} {k : Bool} {a c : Addr} {xs : List V} (I : Inv X pins σ H s) (h : SqK k X.K H a xs) (hc : FpOk X pins H c) : a ≠ c :=
  seq_ne I h hc (hc.2.2.2.1.elim .inr .inl)
theorem turn_en {P : Program} {w : World} {K : PySem.W.Frag} {elts : List Expr} {kk : Nat} {tpos : Pos} (k : Bool) (a e it : Addr) :
    Turn P w K (.Tuple elts kk tpos) (JEn k K a) [e, it] e (fun i h => (∃ old, IsEnum h e it ((i : Nat) : Int) old) ∧ ItK k h it a i ∧ e ≠ it) where
  mem := by simp
  obj := fun i h st b hb => by
    obtain ⟨⟨old, he⟩, hi, _⟩ := st
    have e' : b = e ∨ b = it := by simpa using hb
    rcases e' with z | z
    · rw [z]; exact ⟨_, he, fun v q => nomatch q⟩
    · rw [z]; exact itK_ob hi
  keep := fun i h h' st k => let ⟨⟨old, he⟩, hi, hne⟩ := st; ⟨⟨old, k e (by simp) _ he⟩, itK_at hi fun o q => k it (by simp) o q, hne⟩
  item := by
    intro X hP hw hK hc i pins s σ H E I hf st hg
    subst hP hw hK
    obtain ⟨⟨old, he⟩, hit, hne⟩ := st
    obtain ⟨xs, x, hq, hx⟩ := hg
    obtain ⟨its, rv, p, hlt⟩ := inK_of I hq
    obtain ⟨u, hu, ru⟩ := rv.get hx
    have nea : a ≠ e := seq_ne' I hq (hf e (by simp))
    have nei : a ≠ it := seq_ne' I hq (hf it (by simp))
    have W := GoesN.enumFrom (prog := X.prog) (w := X.w) (A := X.A) (elts := elts) (x1 := kk) (pos := tpos) 0 (drK k (show X.A.in1.handled = none from I.ok.hd hc) it a nei its.toArray) e hne (by simp [hne, nea.symm]) (by simp)
    have hz : (0 : Int) + ((i : Nat) : Int) = ((i : Nat) : Int) := Int.zero_add _
    have hz1 : (0 : Int) + ((i + 1 : Nat) : Int) = ((i + 1 : Nat) : Int) := Int.zero_add _
    have hi : i < its.toArray.size := by
      have q := (List.getElem?_eq_some_iff.mp hu).1
      simpa using q
    have hel : e < s.heap.objs.size := Heap.lt_size he
    have hil : it < s.heap.objs.size := by obtain ⟨_, q, _⟩ := itK_ob hit; exact Heap.lt_size q
    refine thn (W.goes i s _ E hi ⟨⟨old, by rw [hz]; exact he⟩, hit, p⟩ fun v h' tk hY st' hk _ => ?_) fun r s1 h1 => h1
    obtain ⟨T', t, z, ev, hsz, hpx, hT⟩ := hY
    subst ev
    have ez : z = u := by
      have e1 : its.toArray[i]? = some u := by simpa using hu
      rw [e1] at hpx
      exact (Option.some.inj hpx).symm
    subst ez
    have new : ObjOk X.prog X.w (upd H T' (.tup [.int (i : Nat), x])) h' T' (.tup [.int (i : Nat), x]) :=
      ⟨by show 2 ≤ sizeLine; decide, [.int ((0 : Int) + (i : Int)) t, z], .cons ⟨_, by rw [hz]⟩ (.cons ru .nil), hT⟩
    have I1 : Inv X pins σ (upd H T' (.tup [.int (i : Nat), x])) { s with heap := h', toks := tk } :=
      I.turnedNew (ch := [e, it]) (fun b o hb q => hk b o hb q) hf hsz new
    obtain ⟨⟨old', he'⟩, hit', _⟩ := st'
    refine ⟨.ref T', _, I1, rfl, ⟨T', x, rfl, I.hok.fresh hsz, rfl, fun ys hy => by rw [inK_inj I hy hq]; exact hx⟩, ⟨⟨old', ?_⟩, hit', hne⟩, fun b hb => ?_⟩
    · rw [hz1] at he'
      exact he'
    · have hb' : b < s.heap.objs.size := by
        have e' : b = e ∨ b = it := by simpa using hb
        rcases e' with z | z
        · rw [z]; exact hel
        · rw [z]; exact hil
      rw [upd_ne (Nat.ne_of_lt (Nat.lt_of_lt_of_le hb' hsz))]
      exact (hf b hb).1
  done := by
    intro X hP hw hK hc i pins s σ H E I hf st hg
    subst hP hw hK
    obtain ⟨⟨old, he⟩, hit, hne⟩ := st
    obtain ⟨xs, hq, hx⟩ := hg
    obtain ⟨its, rv, p, hlt⟩ := inK_of I hq
    have nea : a ≠ e := seq_ne' I hq (hf e (by simp))
    have nei : a ≠ it := seq_ne' I hq (hf it (by simp))
    have hl := rv.length
    have W := GoesN.enumFrom (prog := X.prog) (w := X.w) (A := X.A) (elts := elts) (x1 := kk) (pos := tpos) 0 (drK k (show X.A.in1.handled = none from I.ok.hd hc) it a nei its.toArray) e hne (by simp [hne, nea.symm]) (by simp)
    have hin : its.toArray.size = i := by simp; omega
    refine thn (W.stops s (fun s1 => Inv X pins σ H s1) E ⟨⟨old, by rw [hin, Int.zero_add]; exact he⟩, by rw [hin]; exact hit, p⟩ fun h' tk hk _ => I.turnedL (ch := [e, it]) (fun b o hb q => hk b o hb q) hf) fun r s1 h1 => h1
  self := fun A i s Q E st h => let ⟨⟨_, he⟩, _⟩ := st; wpAny_pyIter_enum he h
def iEn (k : Bool) (K : PySem.W.Frag) (ta : TA) : TI := fun σ H R => ta σ H fun vs H1 => ∃ a xs, vs = [.ref a] ∧ SqK k K H1 a xs ∧ R (JEn k K a) H1
theorem pi_en (k : Bool) {X : Cx} {e : Expr} {ta : TA} {p pos tpos : Pos} {elts : List Expr} {kk : Nat} (hg : Gl X "enumerate") (hm : X.mg "enumerate" = none) (ha : PA X [e] ta) (hs : starEach [e] X.env = [(false, eval e X.env)]) :
    PI X (.Tuple elts kk tpos) (.Call (.Name "enumerate" p) [e] [] pos) (iEn k X.K ta) := by
  refine ⟨fun pins s σ H R I h => ?_⟩
  refine Call_ (ld_blt I hg hm boot_enumerate (PyProof.Rows.callWith_type1 (thn (ha.run pos pins s σ H _ I h) fun us s1 ⟨vs, H1, I1, r1, q1⟩ => ?_) hs rfl))
  obtain ⟨a, xs, ex, hq, q⟩ := q1
  subst ex
  cases r1 with
  | cons r rr =>
    cases rr
    cases r
    obtain ⟨its, rv, p', hlt⟩ := inK_of I1 hq
    refine enum1_begins (begK k a its.toArray) p' fun h' he hit hk => wpAny_pyIter_enum he ?_
    have I2 : Inv X pins σ H1 { s1 with heap := h' } := I1.kept (t' := s1.toks) hk
    refine ⟨s1.heap.objs.size + 1, [s1.heap.objs.size + 1, s1.heap.objs.size], _, _, H1, rfl, I2, turn_en k a (s1.heap.objs.size + 1) s1.heap.objs.size, ⟨⟨.none, he⟩, itK_new hit, Nat.succ_ne_self _⟩, fun b hb => ?_, q⟩
    have e' : b = s1.heap.objs.size + 1 ∨ b = s1.heap.objs.size := by simpa using hb
    have hle : s1.heap.objs.size ≤ b := by
      rcases e' with z | z
      · rw [z]; exact Nat.le_add_right _ _
      · rw [z]; exact Nat.le_refl _
    exact I1.fpOk hle (I1.hok.fresh hle)
/-! ### zip -/
def JZp (k l : Bool) (K : PySem.W.Frag) (a b : Addr) : It :=
  ⟨fun i H => ∃ (xs ys : List V) (x y : V), SqK k K H a xs ∧ SqK l K H b ys ∧ xs[i]? = some x ∧ ys[i]? = some y,
    fun i H v H' => ∃ T x y, v = .ref T ∧ H T = none ∧ H' = upd H T (.tup [x, y]) ∧ (∀ xs, SqK k K H a xs → xs[i]? = some x) ∧ ∀ ys, SqK l K H b ys → ys[i]? = some y,
    fun i H => ∃ xs ys : List V, SqK k K H a xs ∧ SqK l K H b ys ∧ min xs.length ys.length = i⟩
theorem sub5 {z TI TO i1 i2 c : Addr} (h : c ∈ [z, TO, i1, i2]) : c ∈ [z, TI, TO, i1, i2] := by
  rcases List.mem_cons.mp h with q | q
  · simp [q]
  · exact List.mem_cons_of_mem _ (List.mem_cons_of_mem _ q)
theorem turn_zp {P : Program} {w : World} {K : PySem.W.Frag} {elts : List Expr} {kk : Nat} {tpos : Pos} (k l : Bool) {a b z TI TO i1 i2 : Addr} (D : ZipSep2 z TI TO i1 i2 [i1, a] [i2, b]) (ia : a ≠ i1) (ib : b ≠ i2) :
    Turn P w K (.Tuple elts kk tpos) (JZp k l K a b) [z, TI, TO, i1, i2] z (fun i h => IsZip h z TI TO .none ∧ IsTupOf2 h TI (.ref i1) (.ref i2) ∧ (∃ a1 a2, IsTupOf2 h TO a1 a2) ∧ ItK k h i1 a i ∧ ItK l h i2 b i) where
  mem := by simp
  obj := fun i h st c hc => by
    obtain ⟨hz, hTI, ⟨x, y, hTO⟩, h1, h2⟩ := st
    have e' : c = z ∨ c = TI ∨ c = TO ∨ c = i1 ∨ c = i2 := by simpa using hc
    rcases e' with q | q | q | q | q
    · rw [q]; exact ⟨_, hz, fun v q => nomatch q⟩
    · rw [q]; exact ⟨_, hTI, fun v q => nomatch q⟩
    · rw [q]; exact ⟨_, hTO, fun v q => nomatch q⟩
    · rw [q]; exact itK_ob h1
    · rw [q]; exact itK_ob h2
  keep := fun i h h' st kp => by
    obtain ⟨hz, hTI, ⟨x, y, hTO⟩, h1, h2⟩ := st
    exact ⟨kp z (by simp) _ hz, kp TI (by simp) _ hTI, ⟨x, y, kp TO (by simp) _ hTO⟩, itK_at h1 fun o q => kp i1 (by simp) o q, itK_at h2 fun o q => kp i2 (by simp) o q⟩
  item := by
    intro X hP hw hK hc i pins s σ H E I hf st hg
    subst hP hw hK
    obtain ⟨hz, hTI, ⟨x0, y0, hTO⟩, h1, h2⟩ := st
    obtain ⟨xs, ys, x, y, hqx, hqy, hx, hy⟩ := hg
    obtain ⟨its, rv, p, _⟩ := inK_of I hqx
    obtain ⟨its2, rv2, p2, _⟩ := inK_of I hqy
    obtain ⟨u, hu, ru⟩ := rv.get hx
    obtain ⟨u2, hu2, ru2⟩ := rv2.get hy
    have W := GoesN.zip2 (prog := X.prog) (w := X.w) (A := X.A) (elts := elts) (x1 := kk) (pos := tpos) D (drK k (show X.A.in1.handled = none from I.ok.hd hc) i1 a ia its.toArray) (drK l (show X.A.in1.handled = none from I.ok.hd hc) i2 b ib its2.toArray)
    have hi1 : i < its.toArray.size := by simpa using (List.getElem?_eq_some_iff.mp hu).1
    have hi2 : i < its2.toArray.size := by simpa using (List.getElem?_eq_some_iff.mp hu2).1
    refine thn (W.goes i s _ E (by omega) ⟨hz, hTI, ⟨x0, y0, hTO⟩, ⟨h1, p⟩, h2, p2⟩ fun v h' tk hY st' hk _ => ?_) fun r s1 h1 => h1
    obtain ⟨T', q1, q2, ev, hsz, hp1, hp2, hT⟩ := hY
    subst ev
    have e1 : q1 = u := by
      have e1 : its.toArray[i]? = some u := by simpa using hu
      rw [e1] at hp1
      exact (Option.some.inj hp1).symm
    have e2 : q2 = u2 := by
      have e1 : its2.toArray[i]? = some u2 := by simpa using hu2
      rw [e1] at hp2
      exact (Option.some.inj hp2).symm
    subst e1 e2
    have new : ObjOk X.prog X.w (upd H T' (.tup [x, y])) h' T' (.tup [x, y]) := ⟨by show 2 ≤ sizeLine; decide, [q1, q2], .cons ru (.cons ru2 .nil), hT⟩
    have I1 : Inv X pins σ (upd H T' (.tup [x, y])) { s with heap := h', toks := tk } :=
      I.turnedNew (ch := [z, TI, TO, i1, i2]) (fun c o hb q => hk c o (fun z => hb (sub5 z)) q) hf hsz new
    obtain ⟨hz', hTI', hTO', ⟨h1', _⟩, h2', _⟩ := st'
    refine ⟨.ref T', _, I1, rfl, ⟨T', x, y, rfl, I.hok.fresh hsz, rfl, fun ys hy => by rw [inK_inj I hy hqx]; exact hx, fun ys hy' => by rw [inK_inj I hy' hqy]; exact hy⟩, ⟨hz', hTI', hTO', h1', h2'⟩, fun c hcm => ?_⟩
    have hlt : c < s.heap.objs.size := by
      have e' : c = z ∨ c = TI ∨ c = TO ∨ c = i1 ∨ c = i2 := by simpa using hcm
      rcases e' with q | q | q | q | q
      · rw [q]; exact Heap.lt_size hz
      · rw [q]; exact Heap.lt_size hTI
      · rw [q]; exact Heap.lt_size hTO
      · rw [q]; obtain ⟨_, e1, _⟩ := itK_ob h1; exact Heap.lt_size e1
      · rw [q]; obtain ⟨_, e2, _⟩ := itK_ob h2; exact Heap.lt_size e2
    rw [upd_ne (Nat.ne_of_lt (Nat.lt_of_lt_of_le hlt hsz))]
    exact (hf c hcm).1
  done := by
    intro X hP hw hK hc i pins s σ H E I hf st hg
    subst hP hw hK
    obtain ⟨hz, hTI, ⟨x0, y0, hTO⟩, h1, h2⟩ := st
    obtain ⟨xs, ys, hqx, hqy, hx⟩ := hg
    obtain ⟨its, rv, p, _⟩ := inK_of I hqx
    obtain ⟨its2, rv2, p2, _⟩ := inK_of I hqy
    have hl := rv.length
    have hl2 := rv2.length
    have W := GoesN.zip2 (prog := X.prog) (w := X.w) (A := X.A) (elts := elts) (x1 := kk) (pos := tpos) D (drK k (show X.A.in1.handled = none from I.ok.hd hc) i1 a ia its.toArray) (drK l (show X.A.in1.handled = none from I.ok.hd hc) i2 b ib its2.toArray)
    have hin : min its.toArray.size its2.toArray.size = i := by simp; omega
    refine thn (W.stops s (fun s1 => Inv X pins σ H s1) E ⟨hz, hTI, ⟨x0, y0, hTO⟩, ⟨by rw [hin]; exact h1, p⟩, by rw [hin]; exact h2, p2⟩ fun h' tk hk _ => I.turnedL (ch := [z, TI, TO, i1, i2]) (fun c o hb q => hk c o (fun z => hb (sub5 z)) q) hf) fun r s1 h1 => h1
  self := fun A i s Q E st h => wpAny_pyIter_zip st.1 h
def iZp (k l : Bool) (K : PySem.W.Frag) (ta : TA) : TI := fun σ H R => ta σ H fun vs H1 => ∃ a b xs ys, vs = [.ref a, .ref b] ∧ SqK k K H1 a xs ∧ SqK l K H1 b ys ∧ R (JZp k l K a b) H1
theorem pi_zp (k l : Bool) {X : Cx} {e e2 : Expr} {ta : TA} {p pos tpos : Pos} {elts : List Expr} {kk : Nat} (hg : Gl X "zip") (hm : X.mg "zip" = none) (ha : PA X [e, e2] ta)
    (hs : starEach [e, e2] X.env = (false, eval e X.env) :: starEach [e2] X.env) (hpl : (backTo pos (starEach [e2] X.env)).any (·.1) = false) :
    PI X (.Tuple elts kk tpos) (.Call (.Name "zip" p) [e, e2] [] pos) (iZp k l X.K ta) := by
  refine ⟨fun pins s σ H R I h => ?_⟩
  refine Call_ (ld_blt I hg hm PyProof.Rows.boot_zip (PyProof.Rows.callWith_type1 (thn (ha.run pos pins s σ H _ I h) fun us s1 ⟨vs, H1, I1, r1, q1⟩ => ?_) hs hpl))
  obtain ⟨a, b, xs, ys, ex, hqx, hqy, q⟩ := q1
  subst ex
  cases r1 with
  | cons r rr =>
    cases rr with
    | cons r' rr =>
      cases rr
      cases r
      cases r'
      obtain ⟨its, rv, p1, la⟩ := inK_of I1 hqx
      obtain ⟨its2, rv2, p2, lb⟩ := inK_of I1 hqy
      refine zip_begins2 (begK k a its.toArray) (begK l b its2.toArray) p1 p2 fun h' hz hTI hTO h1 h2 hsz hk => wpAny_pyIter_zip hz ?_
      have I2 : Inv X pins σ H1 { s1 with heap := h' } := I1.kept (t' := s1.toks) hk
      refine ⟨s1.heap.objs.size + 4, [s1.heap.objs.size + 4, s1.heap.objs.size + 2, s1.heap.objs.size + 3, s1.heap.objs.size, s1.heap.objs.size + 1], _, _, H1, rfl, I2,
        turn_zp k l (zip_sep2 (fp1 := [a]) (fp2 := [b]) (by simpa using la) (by simpa using lb)) (Nat.ne_of_lt la) (Nat.ne_of_lt (Nat.lt_succ_of_lt lb)), ⟨hz, hTI, ⟨_, _, hTO⟩, itK_new h1, itK_new h2⟩, fun c hcm => ?_, q⟩
      have e' : c = s1.heap.objs.size + 4 ∨ c = s1.heap.objs.size + 2 ∨ c = s1.heap.objs.size + 3 ∨ c = s1.heap.objs.size ∨ c = s1.heap.objs.size + 1 := by simpa using hcm
      have hle : s1.heap.objs.size ≤ c := by
        rcases e' with z | z | z | z | z
        · rw [z]; exact Nat.le_add_right _ _
        · rw [z]; exact Nat.le_add_right _ _
        · rw [z]; exact Nat.le_add_right _ _
        · rw [z]; exact Nat.le_refl _
        · rw [z]; exact Nat.le_add_right _ _
      exact I1.fpOk hle (I1.hok.fresh hle)
/-! ### a list or a tuple, as it comes -/
def JSq (k : Bool) (K : PySem.W.Frag) (a : Addr) : It := match k with
  | true => Itl K a
  | false => Itt K a
theorem walk_sq {k : Bool} {K : PySem.W.Frag} {a : Addr} {xs : List V} : Walk (JSq k K a) xs.length (fun H => SqK k K H a xs) (YAt xs) := match k with
  | true => walk_list
  | false => walk_tup
def iSq (K : PySem.W.Frag) (tl : TE) : TI := fun σ H R => tl σ H fun x H1 => ∃ (k : Bool) (a : Addr), x = .ref a ∧ (∃ xs, SqK k K H1 a xs) ∧ R (JSq k K a) H1
theorem pi_sq {X : Cx} {tg l : Expr} {tl : TE} (hl : PE X l tl) : PI X tg l (iSq X.K tl) := by
  refine ⟨fun pins s σ H R I h => ?_⟩
  refine thn (hl.run pins s σ H _ I h) fun v s1 ⟨x, H1, I1, r1, q1⟩ => ?_
  obtain ⟨k, a, e, ⟨xs, hq⟩, q⟩ := q1
  subst e
  cases r1
  have fin : ∀ b ∈ [s1.heap.objs.size], FpOk X pins H1 b := fun b hb => by
    have e : b = s1.heap.objs.size := by simpa using hb
    subst e
    exact I1.fpOk (Nat.le_refl _) (I1.hok.fresh (Nat.le_refl _))
  cases k with
  | true =>
    obtain ⟨its, rv, p, hz⟩ := I1.list hq
    refine wpAny_pyIter_list p.isList ?_
    exact ⟨s1.heap.objs.size, [s1.heap.objs.size], _, _, H1, rfl, I1.kept (t' := s1.toks) fun b o e => Heap.get?_push_of_some _ e, turn_list a _, ⟨_, Heap.get?_push_size _ rfl, rfl, rfl⟩, fin, q⟩
  | false =>
    obtain ⟨its, rv, p, hz⟩ := I1.tuple hq
    refine wpAny_pyIter_tuple (show s1.heap.IsTuple a its.toArray from p) ?_
    exact ⟨s1.heap.objs.size, [s1.heap.objs.size], _, _, H1, rfl, I1.kept (t' := s1.toks) fun b o e => Heap.get?_push_of_some _ e, turn_tuple a _, ⟨_, Heap.get?_push_size _ rfl, rfl, rfl⟩, fin, q⟩
theorem walk_en {k : Bool} {K : PySem.W.Frag} {a : Addr} {xs : List V} : Walk (JEn k K a) xs.length (fun H => SqK k K H a xs) (YPair (fun i => some (.int (i : Nat))) (fun i => xs[i]?)) := by
  refine ⟨fun i _ hi q => ⟨xs, xs[i], q, by simp [hi]⟩, fun _ q => ⟨xs, q, rfl⟩, fun i H v H' _ q y => ?_⟩
  obtain ⟨T, x, h1, h2, h3, h4⟩ := y
  exact ⟨T, .int (i : Nat), x, h1, h2, h3, rfl, h4 xs q⟩
theorem walk_zp {k l : Bool} {K : PySem.W.Frag} {a b : Addr} {xs ys : List V} : Walk (JZp k l K a b) (min xs.length ys.length) (fun H => SqK k K H a xs ∧ SqK l K H b ys) (YPair (fun i => xs[i]?) (fun i => ys[i]?)) := by
  refine ⟨fun i _ hi q => ?_, fun _ q => ⟨xs, ys, q.1, q.2, rfl⟩, fun i H v H' _ q y => ?_⟩
  · have h1 : i < xs.length := by omega
    have h2 : i < ys.length := by omega
    exact ⟨xs, ys, xs[i], ys[i], q.1, q.2, by simp [h1], by simp [h2]⟩
  · obtain ⟨T, x, z, h1, h2, h3, h4, h5⟩ := y
    exact ⟨T, x, z, h1, h2, h3, h4 xs q.1, h5 ys q.2⟩
end CabI
set_option Elab.async false
set_option linter.all false
set_option maxRecDepth 100000
set_option maxHeartbeats 2000000
/-! The readings of the small language; how a state grows. -/
namespace Cab
open PySem L2 LamX Evl

theorem PE.by {X : Cx} {e : Expr} {t : TE} (h : ∀ σ H Q, t σ H Q → ∃ t', PE X e t' ∧ t' σ H Q) : PE X e t :=
  ⟨fun pins s σ H Q I q => by obtain ⟨t', p, q'⟩ := h σ H Q q; exact p.run pins s σ H Q I q'⟩
theorem PT.by {X : Cx} {e : Expr} {t : TT} (h : ∀ σ H Q, t σ H Q → ∃ t', PT X e t' ∧ t' σ H Q) : PT X e t :=
  ⟨fun pins s σ H Q I q => by obtain ⟨t', p, q'⟩ := h σ H Q q; exact p.run pins s σ H Q I q'⟩
theorem PW.by {X : Cx} {e : Expr} {t : TT} (h : ∀ σ H Q, t σ H Q → ∃ t', PW X e t' ∧ t' σ H Q) : PW X e t :=
  ⟨fun wh pins s σ H Q I q => by obtain ⟨t', p, q'⟩ := h σ H Q q; exact p.run wh pins s σ H Q I q'⟩
theorem PA.by {X : Cx} {e : List Expr} {t : TA} (h : ∀ σ H Q, t σ H Q → ∃ t', PA X e t' ∧ t' σ H Q) : PA X e t :=
  ⟨fun pos pins s σ H Q I q => by obtain ⟨t', p, q'⟩ := h σ H Q q; exact p.run pos pins s σ H Q I q'⟩
theorem PI.by {X : Cx} {tg e : Expr} {t : TI} (h : ∀ σ H Q, t σ H Q → ∃ t', PI X tg e t' ∧ t' σ H Q) : PI X tg e t :=
  ⟨fun pins s σ H Q I q => by obtain ⟨t', p, q'⟩ := h σ H Q q; exact p.run pins s σ H Q I q'⟩
theorem PS.by {X : Cx} {e : Stmt} {t : TS} (h : ∀ D σ H, t D σ H → ∃ t', PS X e t' ∧ t' D σ H) : PS X e t :=
  ⟨fun pins s σ H D I q => by obtain ⟨t', p, q'⟩ := h D σ H q; exact p.run pins s σ H D I q'⟩
theorem PSs.by {X : Cx} {e : List Stmt} {t : TS} (h : ∀ D σ H, t D σ H → ∃ t', PSs X e t' ∧ t' D σ H) : PSs X e t :=
  ⟨fun pins s σ H D I q => by obtain ⟨t', p, q'⟩ := h D σ H q; exact p.run pins s σ H D I q'⟩

section
variable (CR : Addr) (T : List (Addr × Str))
/-- what is walked tells xs: at every later state -/
def WkD (b : Addr) (S : Hp) (J : It) (xs : List D) : Prop := ∀ S1 H1 B1, Ex S S1 → Bas T b S1 H1 B1 →
  J.stop xs.length H1 ∧ ∀ (i : Nat) (d : D), xs[i]? = some d → J.go i H1 ∧ ∀ x H', J.yld i H1 x H' → ∃ S', Gr b S1 H1 S' H' ∧ Bas T b S' H' B1 ∧ Rep CR b S' d x
end
section
variable (k : Call) (CR : Addr) (T : List (Addr × Str))
def tE (e : IE) : TE := fun σ H Q => ∃ (b : Addr) (S : Hp) (env : Env) (B : Bg) (d : D) (B' : Bg), Stt CR T b S H σ env B ∧ evE k e env B = some (d, B') ∧
  ∀ v S' H', Gr b S H S' H' → Bas T b S' H' B' → Rep CR b S' d v → Q v H'
def tT (e : IE) : TT := fun σ H Q => ∃ (b : Addr) (S : Hp) (env : Env) (B : Bg) (c : Bool) (B' : Bg), Stt CR T b S H σ env B ∧ evE k e env B = some (.bl c, B') ∧
  ∀ S' H', Gr b S H S' H' → Bas T b S' H' B' → Q c H'
def tA (e : IE) : TA := fun σ H Q => ∃ (b : Addr) (S : Hp) (env : Env) (B : Bg) (ds : List D) (B' : Bg), Stt CR T b S H σ env B ∧ evEs k e env B = some (ds, B') ∧
  ∀ vs S' H', Gr b S H S' H' → Bas T b S' H' B' → Reps CR b S' ds vs → Q vs H'
def tI (e : IE) : TI := fun σ H R => ∃ (b : Addr) (S : Hp) (env : Env) (B : Bg) (xs : List D) (B' : Bg), Stt CR T b S H σ env B ∧ evIt k e env B = some (xs, B') ∧
  ∀ J S' H', Gr b S H S' H' → Bas T b S' H' B' → WkD CR T b S' J xs → R J H'
/-- a new list, still hidden -/
def tF (e : IE) : TE := fun σ H Q => ∃ (b : Addr) (S : Hp) (env : Env) (B : Bg) (xs : List D) (B' : Bg), Stt CR T b S H σ env B ∧ evE k e env B = some (.lst xs, B') ∧
  ∀ p vs S' H', Gr b S H S' H' → Bas T b S' H' B' → S' p = none → p ≠ b → H p = none → H' p = some (.lst vs) → Reps CR b S' xs vs → Q (.ref p) H'
def OutQ (b : Addr) (S0 H0 S : Hp) (D' : Ends) (B' : Bg) : Out → Prop
  | .nx env' => ∀ σ' S' H', Ste CR T b S0 H0 S' H' σ' env' B' → Ex S S' → D'.nx σ' H'
  | .rt d => ∀ v S' H', Gr b S0 H0 S' H' → Bas T b S' H' B' → Rep CR b S' d v → D'.rt v H'
def tS (s : IS) : TS := fun D' σ H => ∃ (b : Addr) (S0 H0 S : Hp) (env : Env) (B : Bg) (o : Out) (B' : Bg), Ste CR T b S0 H0 S H σ env B ∧ evS k s env B = some (o, B') ∧ OutQ CR T b S0 H0 S D' B' o
end

section
variable {k : Call} {CR : Addr} {T : List (Addr × Str)} {b : Addr} {S H S' H' S0 H0 : Hp} {σ : L2.St} {env : Env} {B B' : Bg}
/-- a hidden new list is laid in the data's part -/
theorem Bas.show (x : Bas T b S H B) {p : Addr} {o : HO} (h : H p = some o) (hb : p ≠ b) (ht : ∀ ps, o ≠ .tbl ps) (hn : S p = none) : Bas T b (upd S p o) H B where
  sub := fun a u e => by
    by_cases q : a = p
    · subst q; rw [upd_same] at e; rw [h]; exact e
    · rw [upd_ne q] at e; exact x.sub a u e
  bS := by rw [upd_ne hb.symm]; exact x.bS
  bag := x.bag
  tabs := x.tabs
  noT := fun a ps e => by
    by_cases q : a = p
    · subst q; rw [upd_same] at e; exact ht ps (Option.some.inj e)
    · rw [upd_ne q] at e; exact x.noT a ps e
theorem Gr.show {p : Addr} {o : HO} (g : Gr b S H S' H') (hp : H p = none) (hn : S' p = none) : Gr b S H (upd S' p o) H' where
  s := g.s.trans fun a u e => by rw [upd_ne (ne_of_none e hn)]; exact e
  h := g.h
  per := g.per
  hid := fun a h n => by
    have q : a ≠ p := fun z => h (by rw [z]; exact hp)
    rw [upd_ne q]; exact g.hid a h n
/-- a fresh list is a value -/
theorem tE_of_tF {X : Cx} {e : Expr} {ie : IE} (hl : ∀ env B d B', evE k ie env B = some (d, B') → ∃ xs, d = .lst xs) (h : PE X e (tF k CR T ie)) : PE X e (tE k CR T ie) := by
  refine PE.by fun σ H Q ⟨b, S, env, B, d, B', st, ev, q⟩ => ⟨_, h, ?_⟩
  obtain ⟨xs, rfl⟩ := hl _ _ _ _ ev
  refine ⟨b, S, env, B, xs, B', st, ev, fun p vs S' H' g bs hp hb hn hv hr => ?_⟩
  exact q (.ref p) (upd S' p (.lst vs)) H' (g.show hn hp) (bs.show hv hb (fun ps z => by cases z) hp) ⟨p, vs, rfl, upd_same .., Reps.mono (fun a u e => by rw [upd_ne (ne_of_none e hp)]; exact e) xs hr⟩
/-- one slot is set -/
theorem get_set {α : Type} (l : List α) (i j : Nat) (a x : α) (h : (l.set i a)[j]? = some x) : (i = j ∧ x = a ∧ i < l.length) ∨ (i ≠ j ∧ l[j]? = some x) := by
  by_cases e : i = j
  · subst e
    by_cases hl : i < l.length
    · rw [List.getElem?_set_self hl] at h
      exact .inl ⟨rfl, (Option.some.inj h).symm, hl⟩
    · rw [List.getElem?_eq_none (by simpa using hl)] at h
      cases h
  · rw [List.getElem?_set_ne e] at h
    exact .inr ⟨e, h⟩
theorem Stt.put (x : Stt CR T b S H σ env B) {i : Nat} {d : D} {v : V} (r : Rep CR b S d v) : Stt CR T b S H (σ.set i (some v)) (env.set i (Sl.val d)) B where
  bas := x.bas
  len := by rw [List.length_set, List.length_set, x.len]
  val := fun j d' e => by
    rcases get_set _ _ _ _ _ e with ⟨e1, e2, e3⟩ | ⟨e1, e2⟩
    · subst e1; cases e2
      exact ⟨v, List.getElem?_set_self (by rw [x.len]; exact e3), r⟩
    · obtain ⟨w, h1, h2⟩ := x.val j d' e2
      exact ⟨w, by rw [List.getElem?_set_ne e1]; exact h1, h2⟩
  own := fun j xs e => by
    rcases get_set _ _ _ _ _ e with ⟨e1, e2, e3⟩ | ⟨e1, e2⟩
    · cases e2
    · obtain ⟨p, vs, h1, h2⟩ := x.own j xs e2
      exact ⟨p, vs, by rw [List.getElem?_set_ne e1]; exact h1, h2⟩
  dis := fun j l xs ys p e f hj hl => by
    rcases get_set _ _ _ _ _ e with ⟨e1, e2, e3⟩ | ⟨e1, e2⟩
    · cases e2
    · rcases get_set _ _ _ _ _ f with ⟨f1, f2, f3⟩ | ⟨f1, f2⟩
      · cases f2
      · rw [List.getElem?_set_ne e1] at hj
        rw [List.getElem?_set_ne f1] at hl
        exact x.dis j l xs ys p e2 f2 hj hl
theorem Ste.put (x : Ste CR T b S0 H0 S H σ env B) {i : Nat} {d : D} {v : V} (r : Rep CR b S d v) : Ste CR T b S0 H0 S H (σ.set i (some v)) (env.set i (Sl.val d)) B :=
  ⟨x.st.put r, x.gr, fun j xs p e hj => by
    rcases get_set _ _ _ _ _ e with ⟨e1, e2, e3⟩ | ⟨e1, e2⟩
    · cases e2
    · rw [List.getElem?_set_ne e1] at hj
      exact x.fr j xs p e2 hj⟩
/-- a slot is forgotten -/
theorem Stt.un (x : Stt CR T b S H σ env B) {i : Nat} : Stt CR T b S H (σ.set i none) (env.set i Sl.un) B where
  bas := x.bas
  len := by rw [List.length_set, List.length_set, x.len]
  val := fun j d' e => by
    rcases get_set _ _ _ _ _ e with ⟨e1, e2, e3⟩ | ⟨e1, e2⟩
    · cases e2
    · obtain ⟨w, h1, h2⟩ := x.val j d' e2
      exact ⟨w, by rw [List.getElem?_set_ne e1]; exact h1, h2⟩
  own := fun j xs e => by
    rcases get_set _ _ _ _ _ e with ⟨e1, e2, e3⟩ | ⟨e1, e2⟩
    · cases e2
    · obtain ⟨p, vs, h1, h2⟩ := x.own j xs e2
      exact ⟨p, vs, by rw [List.getElem?_set_ne e1]; exact h1, h2⟩
  dis := fun j l xs ys p e f hj hl => by
    rcases get_set _ _ _ _ _ e with ⟨e1, e2, e3⟩ | ⟨e1, e2⟩
    · cases e2
    · rcases get_set _ _ _ _ _ f with ⟨f1, f2, f3⟩ | ⟨f1, f2⟩
      · cases f2
      · rw [List.getElem?_set_ne e1] at hj
        rw [List.getElem?_set_ne f1] at hl
        exact x.dis j l xs ys p e2 f2 hj hl
theorem Stt.wipe (x : Stt CR T b S H σ env B) : ∀ vs : List Nat, Stt CR T b S H (L2.wipe σ vs) (wipeE env vs) B
  | [] => x
  | v :: vs => (Stt.wipe x vs).un
/-- a slot gets a list of its own -/
theorem Ste.take (x : Ste CR T b S0 H0 S H σ env B) {i : Nat} {p : Addr} {vs : List V} {xs : List D} (hp : S p = none) (hb : p ≠ b) (h0 : H0 p = none) (hv : H p = some (.lst vs)) (hr : Reps CR b S xs vs)
    (hd : ∀ (j : Nat) (ys : List D), env[j]? = some (Sl.own ys) → σ[j]? = some (some (.ref p)) → j = i) : Ste CR T b S0 H0 S H (σ.set i (some (.ref p))) (env.set i (Sl.own xs)) B where
  st := {
    bas := x.st.bas
    len := by rw [List.length_set, List.length_set, x.st.len]
    val := fun j d' e => by
      rcases get_set _ _ _ _ _ e with ⟨e1, e2, e3⟩ | ⟨e1, e2⟩
      · cases e2
      · obtain ⟨w, h1, h2⟩ := x.st.val j d' e2
        exact ⟨w, by rw [List.getElem?_set_ne e1]; exact h1, h2⟩
    own := fun j ys e => by
      rcases get_set _ _ _ _ _ e with ⟨e1, e2, e3⟩ | ⟨e1, e2⟩
      · subst e1; cases e2
        exact ⟨p, vs, List.getElem?_set_self (by rw [x.st.len]; exact e3), hp, hb, hv, hr⟩
      · obtain ⟨q, us, h1, h2⟩ := x.st.own j ys e2
        exact ⟨q, us, by rw [List.getElem?_set_ne e1]; exact h1, h2⟩
    dis := fun j l ys zs q e f hj hl => by
      rcases get_set _ _ _ _ _ e with ⟨e1, e2, e3⟩ | ⟨e1, e2⟩
      · rcases get_set _ _ _ _ _ f with ⟨f1, f2, f3⟩ | ⟨f1, f2⟩
        · exact e1.symm.trans f1
        · subst e1
          rw [List.getElem?_set_self (by rw [x.st.len]; exact e3)] at hj
          cases hj
          rw [List.getElem?_set_ne f1] at hl
          exact (hd l zs f2 hl).symm
      · rcases get_set _ _ _ _ _ f with ⟨f1, f2, f3⟩ | ⟨f1, f2⟩
        · subst f1
          rw [List.getElem?_set_self (by rw [x.st.len]; exact f3)] at hl
          cases hl
          rw [List.getElem?_set_ne e1] at hj
          exact hd j ys e2 hj
        · rw [List.getElem?_set_ne e1] at hj
          rw [List.getElem?_set_ne f1] at hl
          exact x.st.dis j l ys zs q e2 f2 hj hl }
  gr := x.gr
  fr := fun j ys q e hj => by
    rcases get_set _ _ _ _ _ e with ⟨e1, e2, e3⟩ | ⟨e1, e2⟩
    · subst e1
      rw [List.getElem?_set_self (by rw [x.st.len]; exact e3)] at hj
      cases hj
      exact h0
    · rw [List.getElem?_set_ne e1] at hj
      exact x.fr j ys q e2 hj
/-- a slot's own list is written -/
theorem Gr.write {p : Addr} {us vs : List V} (g : Gr b S0 H0 S H) (h0 : H0 p = none) (hp : H p = some (.lst us)) : Gr b S0 H0 S (upd H p (.lst vs)) where
  s := g.s
  h := fun a o e hb ht => by
    have q : a ≠ p := fun z => by rw [z, h0] at e; cases e
    rw [upd_ne q]; exact g.h a o e hb ht
  per := fun a e => by
    by_cases q : a = p
    · rw [q, upd_same]; simp
    · rw [upd_ne q]; exact g.per a e
  hid := g.hid
theorem Ste.write (x : Ste CR T b S0 H0 S H σ env B) {i : Nat} {p : Addr} {us vs : List V} {ys xs : List D} (hi : env[i]? = some (Sl.own ys)) (hσ : σ[i]? = some (some (.ref p))) (hp : S p = none) (hb : p ≠ b) (hu : H p = some (.lst us)) (hr : Reps CR b S xs vs) :
    Ste CR T b S0 H0 S (upd H p (.lst vs)) σ (env.set i (Sl.own xs)) B where
  st := {
    bas := x.st.bas.write hu hp hb
    len := by rw [List.length_set, x.st.len]
    val := fun j d' e => by
      rcases get_set _ _ _ _ _ e with ⟨e1, e2, e3⟩ | ⟨e1, e2⟩
      · cases e2
      · exact x.st.val j d' e2
    own := fun j ys e => by
      rcases get_set _ _ _ _ _ e with ⟨e1, e2, e3⟩ | ⟨e1, e2⟩
      · subst e1; cases e2
        exact ⟨p, vs, hσ, hp, hb, upd_same .., hr⟩
      · obtain ⟨q, us', h1, h2, h3, h4, h5⟩ := x.st.own j ys e2
        have n : q ≠ p := fun z => by subst z; exact e1 (x.st.dis i j _ _ _ hi e2 hσ h1)
        exact ⟨q, us', h1, h2, h3, by rw [upd_ne n]; exact h4, h5⟩
    dis := fun j l ys zs q e f hj hl => by
      rcases get_set _ _ _ _ _ e with ⟨e1, e2, e3⟩ | ⟨e1, e2⟩
      · subst e1
        rcases get_set _ _ _ _ _ f with ⟨f1, f2, f3⟩ | ⟨f1, f2⟩
        · exact f1
        · exact x.st.dis _ l _ zs q hi f2 hj hl
      · rcases get_set _ _ _ _ _ f with ⟨f1, f2, f3⟩ | ⟨f1, f2⟩
        · subst f1
          exact x.st.dis j _ ys _ q e2 hi hj hl
        · exact x.st.dis j l ys zs q e2 f2 hj hl }
  gr := x.gr.write (x.fr i _ p hi hσ) hu
  fr := fun j ys q e hj => by
    rcases get_set _ _ _ _ _ e with ⟨e1, e2, e3⟩ | ⟨e1, e2⟩
    · subst e1
      exact x.fr _ _ q hi hj
    · exact x.fr j ys q e2 hj
/-- own lists become values -/
theorem Ste.frz (x : Ste CR T b S0 H0 S H σ env B) (P : Nat → Prop) (env' : Env) (hl : env'.length = env.length)
    (he : ∀ i, (P i → env'[i]? = env[i]?.map Sl.frz) ∧ (¬ P i → env'[i]? = env[i]?)) : ∃ S', Ex S S' ∧ Ste CR T b S0 H0 S' H σ env' B := by
  classical
  let c : Addr → Prop := fun a => ∃ i xs, P i ∧ env[i]? = some (Sl.own xs) ∧ σ[i]? = some (some (.ref a))
  let S' : Hp := fun a => if c a then H a else S a
  have yes : ∀ a, c a → S' a = H a := fun a h => if_pos h
  have no : ∀ a, ¬ c a → S' a = S a := fun a h => if_neg h
  have cn : ∀ a, c a → S a = none ∧ a ≠ b ∧ (∃ vs, H a = some (.lst vs)) ∧ H0 a = none := fun a ⟨i, xs, _, h1, h2⟩ => by
    obtain ⟨p, vs, q1, q2, q3, q4, q5⟩ := x.st.own i xs h1
    rw [h2] at q1
    cases q1
    exact ⟨q2, q3, ⟨vs, q4⟩, x.fr i xs a h1 h2⟩
  have ex : Ex S S' := fun a o e => by
    by_cases h : c a
    · rw [(cn a h).1] at e; cases e
    · rw [no a h]; exact e
  have bas : Bas T b S' H B := {
    sub := fun a o e => by
      by_cases h : c a
      · rw [yes a h] at e; exact e
      · rw [no a h] at e; exact x.st.bas.sub a o e
    bS := by
      by_cases h : c b
      · exact absurd rfl (cn b h).2.1
      · rw [no b h]; exact x.st.bas.bS
    bag := x.st.bas.bag
    tabs := x.st.bas.tabs
    noT := fun a ps e => by
      by_cases h : c a
      · obtain ⟨vs, q⟩ := (cn a h).2.2.1
        rw [yes a h, q] at e; cases e
      · rw [no a h] at e; exact x.st.bas.noT a ps e }
  have ev : ∀ i xs, env'[i]? = some (Sl.own xs) → env[i]? = some (Sl.own xs) ∧ ¬ P i := fun i xs e => by
    by_cases h : P i
    · rw [(he i).1 h] at e
      cases q : env[i]? with
      | none => rw [q] at e; cases e
      | some s => rw [q] at e; cases s <;> cases e
    · exact ⟨by rw [← (he i).2 h]; exact e, h⟩
  refine ⟨S', ex, ⟨bas, by rw [hl, x.st.len], fun i d e => ?_, fun i xs e => ?_, fun i j xs ys p e f hi hj => x.st.dis i j xs ys p (ev _ _ e).1 (ev _ _ f).1 hi hj⟩, ⟨x.gr.s.trans ex, x.gr.h, x.gr.per, fun a h n => ?_⟩, fun i xs p e hi => x.fr i xs p (ev _ _ e).1 hi⟩
  · have old : env[i]? = some (Sl.val d) → ∃ v, σ[i]? = some (some v) ∧ Rep CR b S' d v := fun e => by
      obtain ⟨v, h1, h2⟩ := x.st.val i d e
      exact ⟨v, h1, Rep.mono ex d h2⟩
    by_cases h : P i
    · rw [(he i).1 h] at e
      cases q : env[i]? with
      | none => rw [q] at e; cases e
      | some s =>
        rw [q] at e
        cases s with
        | un => cases e
        | val d' =>
          cases e
          exact old q
        | own xs =>
          cases e
          obtain ⟨p, vs, q1, q2, q3, q4, q5⟩ := x.st.own i xs q
          exact ⟨.ref p, q1, p, vs, rfl, by rw [yes p ⟨i, xs, h, q, q1⟩]; exact q4, Reps.mono ex xs q5⟩
    · rw [(he i).2 h] at e
      exact old e
  · obtain ⟨e1, np⟩ := ev i xs e
    obtain ⟨p, vs, q1, q2, q3, q4, q5⟩ := x.st.own i xs e1
    refine ⟨p, vs, q1, ?_, q3, q4, Reps.mono ex xs q5⟩
    have nc : ¬ c p := fun ⟨j, ys, hP, h1, h2⟩ => by
      have e : j = i := x.st.dis j i ys xs p h1 e1 h2 q1
      subst e
      exact np hP
    rw [no p nc]
    exact q2
  · have nc : ¬ c a := fun z => h (cn a z).2.2.2
    rw [no a nc]
    exact x.gr.hid a h n
theorem frzAll_len (env : Env) : (frzAll env).length = env.length := List.length_map ..
theorem frzBut_len (i : Nat) (env : Env) : (frzBut i env).length = env.length := by
  unfold frzBut
  split
  · rw [List.length_set, frzAll_len]
  · exact frzAll_len env
theorem frzAll_get (env : Env) (i : Nat) : (frzAll env)[i]? = env[i]?.map Sl.frz := List.getElem?_map ..
theorem frzBut_get (i : Nat) (env : Env) (j : Nat) : (j ≠ i → (frzBut i env)[j]? = env[j]?.map Sl.frz) ∧ (¬ j ≠ i → (frzBut i env)[j]? = env[j]?) := by
  unfold frzBut
  split
  · rename_i s hs
    refine ⟨fun n => by rw [List.getElem?_set_ne (Ne.symm n), frzAll_get], fun n => ?_⟩
    have e : j = i := Classical.not_not.mp n
    subst e
    rw [List.getElem?_set_self (by rw [frzAll_len]; exact (List.getElem?_eq_some_iff.mp hs).1), hs]
  · rename_i hs
    refine ⟨fun n => frzAll_get env j, fun n => ?_⟩
    have e : j = i := Classical.not_not.mp n
    subst e
    rw [frzAll_get, hs]
    rfl
theorem Ste.frzAll (x : Ste CR T b S0 H0 S H σ env B) : ∃ S', Ex S S' ∧ Ste CR T b S0 H0 S' H σ (frzAll env) B :=
  x.frz (fun _ => True) _ (frzAll_len env) fun i => ⟨fun _ => frzAll_get env i, fun h => absurd trivial h⟩
theorem Ste.frzBut (x : Ste CR T b S0 H0 S H σ env B) (i : Nat) : ∃ S', Ex S S' ∧ Ste CR T b S0 H0 S' H σ (frzBut i env) B :=
  x.frz (fun j => j ≠ i) _ (frzBut_len i env) fun j => frzBut_get i env j
end
end Cab
set_option Elab.async false
set_option linter.all false
set_option maxRecDepth 100000
set_option maxHeartbeats 4000000
/-! Rules that the layer lacks. -/
namespace CabR
open PySem PySem.Spec PyProof.Rows L2

/-! ### tuple * 0, tuple * 1 -/
theorem tuple_mul1 (l : Addr) (items : Array Value) (n : Nat) (dd : Option Addr) (sl : Array (Option Value)) (u : Tok) :
    Meets (Builtin.«tuple.__mul__» ⟨[.ref l, .int 1 u], []⟩) (fun _ R s => s.heap.get? l = some { cls := .type "tuple", dict := dd, data := .seq items n, slots := sl } ∧ R (.ok (.ret (Value.ref l))) s) :=
  .of_wp fun prog w A R s h => by
    obtain ⟨hp, g, d, tk, os⟩ := s
    obtain ⟨hl, h⟩ := h
    have f1 := AutoSeq1.idx_int
    wp_walk using wpAny_loadPart' hl
    repeat (first
      | (refine wpAny_ite_false (by decide) ?_; wp_walk using wpAny_loadPart' hl)
      | (refine wpAny_ite_true (by simp) ?_; wp_walk using wpAny_loadPart' hl))
    exact ⟨_, rfl, h⟩
theorem tuple_mul0 (l : Addr) (items : Array Value) (n : Nat) (dd : Option Addr) (sl : Array (Option Value)) (u : Tok) (hi : items.isEmpty = false) :
    Meets (Builtin.«tuple.__mul__» ⟨[.ref l, .int 0 u], []⟩) (fun _ R s => s.heap.get? l = some { cls := .type "tuple", dict := dd, data := .seq items n, slots := sl } ∧
      R (.ok (.ret (Value.ref s.heap.objs.size))) { s with heap := s.heap.push { cls := Value.type "tuple", data := Data.seq #[] }, toks := s.toks }) :=
  .of_wp fun prog w A R s h => by
    obtain ⟨hp, g, d, tk, os⟩ := s
    obtain ⟨hl, h⟩ := h
    have f1 := AutoSeq1.idx_int
    wp_walk using wpAny_loadPart' hl
    repeat (first
      | (refine wpAny_ite_false (by decide) ?_; wp_walk using wpAny_loadPart' hl)
      | (refine wpAny_ite_false (by simp [hi]) ?_; wp_walk using wpAny_loadPart' hl)
      | (refine wpAny_ite_true (by simp) ?_; wp_walk using wpAny_loadPart' hl))
    exact ⟨_, rfl, h⟩
/-- t * k, t not empty, k from 0 on -/
def rRepA (K : PySem.W.Frag) : R2 := fun x y H Q => ∃ l k xs, x = .ref l ∧ y = .int k ∧ SqT K H l xs ∧ xs ≠ [] ∧ 0 ≤ k ∧ k ≤ 1000 ∧ xs.length ≤ 1000 ∧ (k = 1 → Q (.ref l) H) ∧ (k ≠ 1 → ∀ p, H p = none → Q (.ref p) (upd H p (.tup (List.replicate k.toNat xs).flatten)))
section
variable {X : Cx}
theorem op_repA : OpR X (binaryOp .Mult) (rRepA X.K) := by
  intro pins s σ H x y v u Q I rx ry h
  obtain ⟨l, k, xs, rfl, rfl, hT, hne, h1, h2, hz, q1, q2⟩ := h
  by_cases k2 : 2 ≤ k
  · exact op_repT pins s σ H _ _ v u Q I rx ry ⟨l, k, xs, rfl, rfl, hT, hne, k2, h2, hz, q2 (by omega)⟩
  cases rx
  obtain ⟨t, rfl⟩ := ry
  obtain ⟨its, r, ⟨⟨cls, dd, data, sl⟩, ho, hc, n, hd⟩, hs⟩ := I.tuple hT
  simp only at hc hd
  subst hc hd
  have hn : its ≠ [] := fun e => hne (by
    have hle : its.length = xs.length := r.length.symm
    rw [e] at hle
    exact List.eq_nil_of_length_eq_zero hle.symm)
  have hi : its.toArray.isEmpty = false := by
    cases its with
    | nil => exact absurd rfl hn
    | cons a b => rfl
  have hk : k = 1 ∨ k = 0 := by omega
  rcases hk with hk | hk
  · subst hk
    exact wpAny_binaryOp_repeat_ref (T := "tuple") (U := "int") (by decide) ⟨_, ho, rfl⟩ (fun s' => typeIs_int s' 1 t) noFill_tuple_mul F.fills_int_mul F.slot_int_rmul repeat_tuple F.slot_int_index.lookup
      (call_meets F.slot_int_rmul (typeIs_int s 1 t) F.entry_int_rmul (F.args_int_rmul_2 _ _) (int_rmul_tuple 1 t l its.toArray n dd sl)
        ⟨ho, rfl, ⟨_, ho, rfl⟩, call_meets F.slot_tuple_mul ⟨_, ho, rfl⟩ F.entry_tuple_mul (F.args_tuple_mul_2 _ _) (tuple_mul1 l its.toArray n dd sl t) ⟨ho, ⟨.ref l, H, I, rfl, q1 rfl⟩⟩⟩)
  · subst hk
    refine wpAny_binaryOp_repeat_ref (T := "tuple") (U := "int") (by decide) ⟨_, ho, rfl⟩ (fun s' => typeIs_int s' 0 t) noFill_tuple_mul F.fills_int_mul F.slot_int_rmul repeat_tuple F.slot_int_index.lookup
      (call_meets F.slot_int_rmul (typeIs_int s 0 t) F.entry_int_rmul (F.args_int_rmul_2 _ _) (int_rmul_tuple 0 t l its.toArray n dd sl)
        ⟨ho, rfl, ⟨_, ho, rfl⟩, call_meets F.slot_tuple_mul ⟨_, ho, rfl⟩ F.entry_tuple_mul (F.args_tuple_mul_2 _ _) (tuple_mul0 l its.toArray n dd sl t hi) ⟨ho, ?_⟩⟩)
    refine ⟨.ref s.heap.objs.size, _, I.laid (t' := s.toks) (o := .tup []) (fun b ob q => Heap.get?_push_of_some _ q) (Nat.le_refl _) ?_, rfl, q2 (by decide) _ (I.hok.fresh (Nat.le_refl _))⟩
    exact ⟨Nat.zero_le _, [], .nil, IsTup.new _ _⟩
/-! ### xs[i], by values -/
def rGetL (K : PySem.W.Frag) : V → V → Hp → VK → Prop := fun x y H Q => ∃ p xs i v, x = .ref p ∧ y = .int i ∧ SqL K H p xs ∧ atI xs i = some v ∧ Q v H
theorem get_list : PGet X (rGetL X.K) := by
  intro pins s σ H x y v u Q I rx ry h
  obtain ⟨p, xs, i, z, rfl, rfl, hq, he, q⟩ := h
  cases rx
  obtain ⟨t, rfl⟩ := ry
  obtain ⟨its, r, pl, hz⟩ := I.list hq
  obtain ⟨j, h1, h2, h3, h4, h5⟩ := atI_get he
  obtain ⟨w, ew, rw'⟩ := r.get h2
  have hl := r.length
  have hn := line63
  have fin : EP X pins σ Q w s := ⟨z, H, I, rw', q⟩
  by_cases h0 : 0 ≤ i
  · have hj : i.toNat = j := by
      rw [seqIndex_of h0 h5] at h1
      exact Option.some.inj h1
    exact wpAny_getItem_list pl.isList h0 (by omega) (by rw [hj]; simpa using ew) fin
  · have hj : (i + (its.toArray.size : Int)).toNat = j := by
      rw [seqIndex_neg (by omega) h4] at h1
      rw [List.size_toArray, ← hl]
      exact Option.some.inj h1
    exact wpAny_getItem_list_neg pl.isList (by omega) (by rw [List.size_toArray] <;> omega) (by omega) (by rw [hj]; simpa using ew) fin
/-! ### a op1 b op2 c op3 d -/
def tChain3 (r r' r'' : R2) (ta tb tc td : TE) : TE := fun σ H Q => ta σ H fun x H1 => tb σ H1 fun y H2 => r x y H2 fun z H3 => ∃ k, z = .bl k ∧
  (if k = true then tc σ H3 fun w' H4 => r' y w' H4 fun z' H5 => ∃ k', z' = .bl k' ∧ (if k' = true then td σ H5 fun u' H6 => r'' w' u' H6 Q else Q (.bl false) H5) else Q (.bl false) H3)
variable {a b c d : Expr} {ta tb tc td : TE} {pos : Pos}
theorem pe_chain3 {op op' op'' : CmpOp} {r r' r'' : R2} (ho : OpR X (compareOp op) r) (ho' : OpR X (compareOp op') r') (ho'' : OpR X (compareOp op'') r'') (ha : PE X a ta) (hb : PE X b tb) (hc : PE X c tc) (hd : PE X d td)
    (hm : lastMarks [op, op', op''] [b, c, d] = false) : PE X (.Compare a [op, op', op''] [b, c, d] pos) (tChain3 r r' r'' ta tb tc td) := by
  refine ⟨fun pins s σ H Q I h => ?_⟩
  refine Compare_chain (thn (ha.run pins s σ H _ I h) fun v s1 ⟨x, H1, I1, r1, q1⟩ => chain_link (thn (hb.run pins s1 σ H1 _ I1 q1) fun u s2 ⟨y, H2, I2, r2, q2⟩ =>
    thn (ho pins s2 σ H2 x y v u _ I2 r1 r2 q2) fun d s3 ⟨z, H3, I3, r3, k, e, q3⟩ => ?_)) hm
  subst e
  cases r3
  refine wpAny_truthy_bool ?_
  cases k with
  | false => exact ite_ff ⟨.bl false, H3, I3, rfl, q3⟩
  | true =>
    refine ite_tt (chain_link (thn (hc.run pins s3 σ H3 _ I3 q3) fun w' s4 ⟨z', H4, I4, r4, q4⟩ => thn (ho' pins s4 σ H4 y z' u w' _ I4 r2 r4 q4) fun d2 s5 ⟨z5, H5, I5, r5, k5, e5, q5⟩ => ?_))
    subst e5
    cases r5
    refine wpAny_truthy_bool ?_
    cases k5 with
    | false => exact ite_ff ⟨.bl false, H5, I5, rfl, q5⟩
    | true => exact ite_tt (chain_last (thn (hd.run pins s5 σ H5 _ I5 q5) fun w6 s6 ⟨z6, H6, I6, r6, q6⟩ => ho'' pins s6 σ H6 z' z6 w' w6 Q I6 r4 r6 q6))
theorem pt_chain3 {op op' op'' : CmpOp} {r r' r'' : R2} (ho : OpR X (compareOp op) r) (ho' : OpR X (compareOp op') r') (ho'' : OpR X (compareOp op'') r'') (ha : PE X a ta) (hb : PE X b tb) (hc : PE X c tc) (hd : PE X d td)
    (hm : lastMarks [op, op', op''] [b, c, d] = false) : PT X (.Compare a [op, op', op''] [b, c, d] pos) (tTest (tChain3 r r' r'' ta tb tc td)) := by
  refine ⟨fun pins s σ H Q I h => ?_⟩
  refine isTrue_chain (thn (ha.run pins s σ H _ I h) fun v s1 ⟨x, H1, I1, r1, q1⟩ => test_link (thn (hb.run pins s1 σ H1 _ I1 q1) fun u s2 ⟨y, H2, I2, r2, q2⟩ =>
    thn (ho pins s2 σ H2 x y v u _ I2 r1 r2 q2) fun d s3 ⟨z, H3, I3, r3, k, e, q3⟩ => ?_)) hm
  subst e
  cases r3
  refine wpAny_truthy_bool ?_
  cases k with
  | false =>
    obtain ⟨k', e', q'⟩ := q3
    cases e'
    exact ite_ff ⟨H3, I3, q'⟩
  | true =>
    refine ite_tt (test_link (thn (hc.run pins s3 σ H3 _ I3 q3) fun w' s4 ⟨z', H4, I4, r4, q4⟩ => thn (ho' pins s4 σ H4 y z' u w' _ I4 r2 r4 q4) fun d' s5 ⟨z2, H5, I5, r5, k2, e2, q5⟩ => ?_))
    subst e2
    cases r5
    refine wpAny_truthy_bool ?_
    cases k2 with
    | false =>
      obtain ⟨k', e', q'⟩ := q5
      cases e'
      exact ite_ff ⟨H5, I5, q'⟩
    | true =>
      refine ite_tt (test_last (thn (hd.run pins s5 σ H5 _ I5 q5) fun w6 s6 ⟨z6, H6, I6, r6, q6⟩ => thn (ho'' pins s6 σ H6 z' z6 w' w6 _ I6 r4 r6 q6) fun d7 s7 ⟨z7, H7, I7, r7, k7, e7, q7⟩ => ?_))
      subst e7
      cases r7
      exact wpAny_truthy_bool ⟨H7, I7, q7⟩
/-! ### index of an int in a list, in a tuple -/
theorem ints_are : ∀ {ns : List Int} {us : List Value}, Vals (ns.map V.int) us → IntsAre us ns
  | [], _, .nil => .nil
  | n :: ns, _, .cons r t => by
    obtain ⟨k, rfl⟩ := r
    exact .cons n k (ints_are t)
def rIdxT (K : PySem.W.Frag) : V → List V → Hp → VK → Prop := fun x xs H Q => ∃ p, ∃ ns : List Int, ∃ k : Int, x = .ref p ∧ xs = [.int k] ∧ SqT K H p (ns.map V.int) ∧ k ∈ ns ∧ Q (.int (ns.idxOf k : Nat)) H
theorem mt_idxT : MtR X "tuple.index" (rIdxT X.K) := by
  intro pins s σ H x xs v us Q I rx rs h
  obtain ⟨p, ns, k, rfl, rfl, hq, hk, q⟩ := h
  cases rx
  obtain ⟨u, rfl, t, rfl⟩ := vals1 rs
  obtain ⟨its, r, pl, hz⟩ := I.tuple hq
  exact PySem.SeqAt.tuple_index_ints pl (ints_are r) hk ⟨.int (ns.idxOf k : Nat), H, I.tok _, ⟨_, rfl⟩, q⟩
def rIdxL (K : PySem.W.Frag) : V → List V → Hp → VK → Prop := fun x xs H Q => ∃ p, ∃ ns : List Int, ∃ k : Int, x = .ref p ∧ xs = [.int k] ∧ SqL K H p (ns.map V.int) ∧ k ∈ ns ∧ Q (.int (ns.idxOf k : Nat)) H
theorem mt_idxL : MtR X "list.index" (rIdxL X.K) := by
  intro pins s σ H x xs v us Q I rx rs h
  obtain ⟨p, ns, k, rfl, rfl, hq, hk, q⟩ := h
  cases rx
  obtain ⟨u, rfl, t, rfl⟩ := vals1 rs
  obtain ⟨its, r, pl, hz⟩ := I.list hq
  exact PySem.SeqAt.list_index_ints pl.isList (ints_are r) (by rw [List.length_map] at hz; exact hz) hk ⟨.int (ns.idxOf k : Nat), H, I.tok _, ⟨_, rfl⟩, q⟩
/-- a built-in's method of a tuple whose record is known -/
def tBMT (r : V → List V → Hp → VK → Prop) (to : TE) (t : TA) : TE := fun σ H Q => to σ H fun x H1 => (∃ p o xs, x = .ref p ∧ H1 p = some (.frz o (.tup xs)) ∧ o.dict = none) ∧ t σ H1 fun xs H2 => r x xs H2 Q
theorem pe_bmT {e o : Expr} {es : List Expr} {to : TE} {t : TA} {name : Str} {apos cpos : Pos} {id : String} {r : V → List V → Hp → VK → Prop} (pa : PlainAttrs "tuple") (slot : Slot "tuple" name id) (hty : typeOf (.builtin id) = pure (.type "method_descriptor")) (hm : MtR X id r) (ho : PE X o to) (ha : PA X (e :: es) t)
    (hbase : attributeBase o name X.env (eval o X.env) = eval o X.env)
    (hfew : ((backTo cpos (starEach (e :: es) X.env)).all (fun x => !x.1) && (backToKw cpos (keywordEach [] X.env)).all (fun x => x.1.isSome)
      && decide ((e :: es).length + ([] : List Keyword).length + (if ([] : List Keyword).isEmpty then 0 else 1) < 30)) = true)
    (hline : (apos.endLine == cpos.line) = true) (hs : starEach (e :: es) X.env = (false, eval e X.env) :: starEach es X.env) (hplain : (backTo cpos (starEach es X.env)).any (·.1) = false) :
    PE X (.Call (.Attribute o name apos) (e :: es) [] cpos) (tBMT r to t) := by
  refine ⟨fun pins s σ H Q I h => ?_⟩
  refine wpAny_Call_method_late hbase hfew hline rfl (thn (ho.run pins s σ H _ I h) fun v s1 ⟨x, H1, I1, r1, ty, q1⟩ => ?_)
  obtain ⟨p, ob, xs, rfl, hp, hd⟩ := ty
  cases r1
  obtain ⟨hg, hl, its, rv, pl⟩ := I1.hok p _ hp
  have h1 : s1.TypeIs (.ref p) "tuple" := pl.typeIs
  have h2 : ∀ a, Value.ref p = .ref a → ∃ ob, s1.heap.get? a = some ob ∧ ob.dict = none := fun a e => by
    cases e
    exact ⟨ob, hg, hd⟩
  refine ⟨"tuple", id, pa, slot, hty, h1, h2, ?_⟩
  have hA := ha.run cpos pins s1 σ H1 _ I1 q1
  rw [hs] at hA ⊢
  refine Calls.callWith_builtin (by show (false || (backTo cpos (starEach es X.env)).any (·.1)) = false; rw [hplain] <;> rfl) (Calls.evalArgs_plain ?_)
  exact thn hA fun us s2 ⟨vs, H2, I2, r2, q2⟩ => hm pins s2 σ H2 (.ref p) vs _ us Q I2 rfl r2 q2
end
end CabR
set_option Elab.async false
set_option linter.all false
set_option maxRecDepth 100000
set_option maxHeartbeats 4000000
/-! len(x) of an instance whose class has a __len__ of its own. -/
namespace CabR
open PySem PySem.Spec PyProof.Rows L2
section
variable {prog : Program} {w : World} {A : Around} {E : Value → Shared → Prop} {s : Shared} {K : PySem.W.Frag} {x C f : Addr} {ox : Obj} {odd : Option Obj}
theorem len_own {Q : Value → Shared → Prop} (X : K.In s.heap) (I : PySem.W.InstAt s.heap x ox C odd) (hs : PySem.W.findIn K (.ref C) "__len__" = some (some (.ref f))) (hf : PySem.W.isFn K (.ref f) = true)
    (h : wpAny (model prog w) A.in1 (call (.ref f) [.ref x]) (fun r s₁ => ∃ (n : Nat) (u : Tok), r = Value.int n u ∧ (n : Int) < 2 ^ 63 ∧ Q (.int n s₁.toks) { s₁ with toks := s₁.toks + 1 }) E s) :
    wpAny (model prog w) A (call (.builtin "len") [.ref x]) Q E s := by
  refine Calls.call_function_entry kind_len plain_len entry_len (args_len1 _) ?_
  unfold Builtin.«len»
  refine wpAny_bind (m := oneArg "len" _) (wpAny_pure ?_)
  refine wpAny_bind (m := callSpecial? (.ref x) (PySem.Str.ofString "__len__")) (PySem.W.special_fn X I hs (beq_iff_eq.mp hf) (wpAny_mono h (fun r s' hr => ?_) fun _ _ y => y))
  obtain ⟨n, u, rfl, hn, hq⟩ := hr
  refine wpAny_bind (wpAny_holding (wpAny_of_eq (a := (n : Int)) rfl ?_))
  refine wpAny_bind (wpAny_letGo ?_)
  show wpAny _ _ (if ((n : Nat) : Int) < 0 then _ else _) _ _ _
  rw [if_neg (by omega)]
  show wpAny _ _ (if ((n : Nat) : Int) ≥ 2 ^ 63 then _ else _) _ _ _
  rw [if_neg (by omega)]
  exact wpAny_bind (wpAny_mkInt (wpAny_pure ⟨_, rfl, hq⟩))
end
section
variable {X : Cx} {C g : Addr} {sp : Sp} {E : XK} {n : Nat} {CX : CXT}
def rLenO (C : Addr) (sp : Sp) (E : XK) : List V → Hp → VK → Prop := fun xs H Q => ∃ a dx fs, xs = [V.ref a] ∧ H a = some (.ins C dx fs) ∧ sp [.ref a] H (fun z H' => ∃ m : Nat, z = .int m ∧ (m : Int) < 2 ^ 63 ∧ Q (.int m) H') E
theorem call_lenO (hs : PySem.W.findIn X.K (.ref C) "__len__" = some (some (.ref g))) (hf : PySem.W.isFn X.K (.ref g) = true) (F : FnR X.prog X.w X.K X.mg X.base CX n g sp) (hr : Room (n + 1) X.A) (hx : Passes CX X E) : CallR X (.builtin "len") (rLenO C sp E) := by
  intro pins s σ H xs us Q I r h
  obtain ⟨a, dx, fs, rfl, ha, q⟩ := h
  obtain ⟨u, rfl, ru⟩ := vals1 r
  cases (show u = Value.ref a from ru)
  obtain ⟨mA, O, _⟩ := ins_get I.hok ha
  obtain ⟨od, J, _⟩ := O.look
  refine len_own I.kIn J hs hf (wpAny_mono (wpAny_call (SlX.run_at (us := [.ref a]) (ws := [.ref a]) F hr.in1 I.env0.in1 hx I (.cons rfl .nil) q)) (fun w s' z => ?_) fun _ _ x => x)
  obtain ⟨z', H', I', rz, m, ei, hm, qz⟩ := z
  subst ei
  obtain ⟨t, e⟩ := (show ∃ t, w = Value.int m t from rz)
  cases e
  exact ⟨m, t, rfl, hm, .int m, H', I'.tok _, ⟨_, rfl⟩, qz⟩
end
end CabR
set_option Elab.async false
set_option linter.all false
set_option maxRecDepth 100000
set_option maxHeartbeats 2000000
/-! The operations of the small language, each by the layer's rule. -/
namespace Cab
open PySem L2 LamX Evl CabR

section
variable {CR : Addr} {T : List (Addr × Str)} {b : Addr} {S H : Hp} {B : Bg}
/-- what is wanted of a value that tells d -/
abbrev Wn (CR : Addr) (T : List (Addr × Str)) (b : Addr) (S H : Hp) (B : Bg) (d : D) (Q : VK) : Prop := ∀ v S' H', Gr b S H S' H' → Bas T b S' H' B → Rep CR b S' d v → Q v H'
theorem Wn.here {d : D} {Q : VK} {v : V} (q : Wn CR T b S H B d Q) (bs : Bas T b S H B) (r : Rep CR b S d v) : Q v H := q v S H (Gr.refl b S H) bs r
theorem new_ex (bs : Bas T b S H B) {p : Addr} {o : HO} (hp : H p = none) : Ex S (upd S p o) := fun a u e => by rw [upd_ne (ne_of_none e (bs.noneS hp))]; exact e
theorem Wn.tup {xs : List D} {vs : List V} {Q : VK} (q : Wn CR T b S H B (.tup xs) Q) (bs : Bas T b S H B) (r : Reps CR b S xs vs) : ∀ p, H p = none → Q (.ref p) (upd H p (.tup vs)) := fun p hp =>
  q (.ref p) (upd S p (.tup vs)) _ (Gr.new bs.sub hp) (bs.new hp (fun ps z => by cases z)) ⟨p, vs, rfl, upd_same .., Reps.mono (new_ex bs hp) xs r⟩
theorem Wn.lst {xs : List D} {vs : List V} {Q : VK} (q : Wn CR T b S H B (.lst xs) Q) (bs : Bas T b S H B) (r : Reps CR b S xs vs) : ∀ p, H p = none → Q (.ref p) (upd H p (.lst vs)) := fun p hp =>
  q (.ref p) (upd S p (.lst vs)) _ (Gr.new bs.sub hp) (bs.new hp (fun ps z => by cases z)) ⟨p, vs, rfl, upd_same .., Reps.mono (new_ex bs hp) xs r⟩
/-- what stands in the data's part -/
theorem Bas.sqT {K : PySem.W.Frag} (bs : Bas T b S H B) {a : Addr} {vs : List V} (h : S a = some (.tup vs)) : SqT K H a vs := .inl (.inl (bs.sub a _ h))
theorem Bas.sqL {K : PySem.W.Frag} (bs : Bas T b S H B) {a : Addr} {vs : List V} (h : S a = some (.lst vs)) : SqL K H a vs := .inl (.inl (bs.sub a _ h))
/-- a list or a tuple as data: as it is walked, read -/
theorem seq_of {K : PySem.W.Frag} (bs : Bas T b S H B) {d : D} {xs : List D} {v : V} (h : seqOf d = some xs) (r : Rep CR b S d v) : ∃ (k : Bool) (a : Addr) (vs : List V), v = .ref a ∧ Reps CR b S xs vs ∧ ∀ S1 H1 B1, Ex S S1 → Bas T b S1 H1 B1 → CabI.SqK k K H1 a vs := by
  cases d with
  | tup ys =>
    cases h
    obtain ⟨a, vs, h1, h2, h3⟩ := r
    exact ⟨false, a, vs, h1, h3, fun S1 H1 B1 e bs1 => bs1.sqT (e _ _ h2)⟩
  | lst ys =>
    cases h
    obtain ⟨a, vs, h1, h2, h3⟩ := r
    exact ⟨true, a, vs, h1, h3, fun S1 H1 B1 e bs1 => bs1.sqL (e _ _ h2)⟩
  | rtup ys =>
    cases h
    obtain ⟨a, o, vs, h1, h2, h3, h4⟩ := r
    exact ⟨false, a, vs, h1, h4, fun S1 H1 B1 e bs1 => .inl (.inr ⟨o, bs1.sub _ _ (e _ _ h2)⟩)⟩
  | _ => cases h
theorem sq_or {K : PySem.W.Frag} {k : Bool} {a : Addr} {vs : List V} (h : CabI.SqK k K H a vs) : SqL K H a vs ∨ SqT K H a vs := by
  cases k with
  | true => exact .inl h
  | false => exact .inr h
theorem Reps.nil_iff {xs : List D} {vs : List V} (r : Reps CR b S xs vs) : xs = [] ↔ vs = [] := by
  have h := Reps.length r
  constructor
  · intro e
    rw [e] at h
    exact List.eq_nil_of_length_eq_zero h.symm
  · intro e
    rw [e] at h
    exact List.eq_nil_of_length_eq_zero h
end

def opOf : Bop → Operator
  | .add => .Add
  | .sub => .Sub
  | .mul => .Mult
  | .fdiv => .FloorDiv
  | .mod => .Mod
  | .pow => .Pow
def cpOf : Cop → CmpOp
  | .lt => .Lt
  | .le => .LtE
  | .gt => .Gt
  | .ge => .GtE
  | .eq => .Eq
  | .ne => .NotEq
theorem bopOf_eq {op : Operator} {o : Bop} (h : bopOf op = some o) : op = opOf o := by
  cases op <;> first | (cases h; rfl) | cases h
theorem copOf_eq {op : CmpOp} {o : Cop} (h : copOf op = some o) : op = cpOf o := by
  cases op <;> first | (cases h; rfl) | cases h
theorem sline : (1000 : Nat) ≤ sizeLine := by rw [sizeLine_eq]; decide
theorem small_of {i : Int} (h : smallM i = true) : -(2 ^ 64) < i ∧ i < 2 ^ 64 := by
  unfold smallM at h
  rw [Bool.and_eq_true] at h
  exact ⟨of_decide_eq_true h.1, of_decide_eq_true h.2⟩

section
variable {X : Cx} {CR : Addr} {T : List (Addr × Str)}
/-- an operator's rule for these data -/
def OpOk (CR : Addr) (T : List (Addr × Str)) (r : R2) (x y z : D) : Prop := ∀ (b : Addr) (S H : Hp) (B : Bg) (v w : V) (Q : VK), Bas T b S H B → Rep CR b S x v → Rep CR b S y w → Wn CR T b S H B z Q → r v w H Q
theorem opB_ok {op : Bop} {x y z : D} (h : opB op x y = some z) : ∃ r, OpR X (binaryOp (opOf op)) r ∧ OpOk CR T r x y z := by
  unfold opB at h
  split at h
  · cases h
    refine ⟨_, op_add, ?_⟩
    rintro b S H B _ _ Q bs rfl rfl q
    exact ⟨_, _, rfl, rfl, q.here bs rfl⟩
  · split at h
    · cases h
      rename_i hl
      refine ⟨_, op_catA, ?_⟩
      rintro b S H B _ _ Q bs ⟨a, us, rfl, h1, r1⟩ ⟨a', ws, rfl, h2, r2⟩ q
      have l1 := Reps.length r1
      have l2 := Reps.length r2
      have hs := sline
      refine ⟨a, a', us, ws, rfl, rfl, bs.sqT h1, bs.sqT h2, by omega, fun e => ?_, fun n e => ?_, fun n m => ?_⟩
      · rw [r1.nil_iff.mpr e] at q
        exact q.here bs ⟨a', ws, rfl, h2, r2⟩
      · rw [r2.nil_iff.mpr e, List.append_nil] at q
        exact q.here bs ⟨a, us, rfl, h1, r1⟩
      · exact q.tup bs (r1.append r2)
    · cases h
  · split at h
    · cases h
      rename_i hl
      refine ⟨_, op_cat, ?_⟩
      rintro b S H B _ _ Q bs ⟨a, us, rfl, h1, r1⟩ ⟨a', ws, rfl, h2, r2⟩ q
      have l1 := Reps.length r1
      have l2 := Reps.length r2
      have hs := sline
      exact ⟨a, a', us, ws, rfl, rfl, bs.sub _ _ h1, bs.sub _ _ h2, by omega, q.lst bs (r1.append r2)⟩
    · cases h
  · cases h
    refine ⟨_, op_sub, ?_⟩
    rintro b S H B _ _ Q bs rfl rfl q
    exact ⟨_, _, rfl, rfl, q.here bs rfl⟩
  · split at h
    · cases h
      rename_i hm
      refine ⟨_, op_mul, ?_⟩
      rintro b S H B _ _ Q bs rfl rfl q
      refine ⟨_, _, rfl, rfl, ?_, q.here bs rfl⟩
      rcases Bool.or_eq_true _ _ ▸ hm with hm | hm
      · exact .inl (small_of hm)
      · exact .inr (small_of hm)
    · cases h
  · split at h
    · cases h
      rename_i hl
      refine ⟨_, op_repA, ?_⟩
      rintro b S H B _ _ Q bs ⟨a, us, rfl, h1, r1⟩ rfl q
      have l1 := Reps.length r1
      refine ⟨a, _, us, rfl, rfl, bs.sqT h1, fun e => hl.2.2.2 (r1.nil_iff.mpr e), hl.1, hl.2.1, by omega, fun e => ?_, fun n => q.tup bs (r1.flat _)⟩
      rw [e] at q
      have e2 : ∀ (zs : List D), (List.replicate (1 : Int).toNat zs).flatten = zs := fun zs => by simp
      rw [e2] at q
      exact q.here bs ⟨a, us, rfl, h1, r1⟩
    · cases h
  · split at h
    · cases h
      rename_i a k hl
      refine ⟨_, op_rep, ?_⟩
      rintro b S H B _ _ Q bs ⟨p, us, rfl, h1, r1⟩ rfl q
      have l1 := Reps.length r1
      have hs := sizeLine_eq
      have hz : us.length * k.toNat ≤ 1000 * 1000 := Nat.mul_le_mul (by omega) (by omega)
      exact ⟨p, k, us, rfl, rfl, bs.sub _ _ h1, by omega, by omega, by omega, q.lst bs (r1.flat _)⟩
    · cases h
  · split at h
    · cases h
      rename_i hj
      refine ⟨_, op_fdiv, ?_⟩
      rintro b S H B _ _ Q bs rfl rfl q
      exact ⟨_, _, rfl, rfl, ⟨hj.1, by omega⟩, q.here bs rfl⟩
    · cases h
  · split at h
    · cases h
      rename_i hj
      refine ⟨_, op_mod, ?_⟩
      rintro b S H B _ _ Q bs rfl rfl q
      exact ⟨_, _, rfl, rfl, hj, q.here bs rfl⟩
    · cases h
  · split at h
    · cases h
      rename_i hj
      refine ⟨_, op_pow, ?_⟩
      rintro b S H B _ _ Q bs rfl rfl q
      exact ⟨_, _, rfl, rfl, ⟨hj.1, by omega, hj.2.2⟩, q.here bs rfl⟩
    · cases h
  · cases h
/-! ### comparisons -/
/-- a comparison's rule for these data: nothing is made -/
def CpOk (CR : Addr) (T : List (Addr × Str)) (r : R2) (x y : D) (z : Bool) : Prop := ∀ (b : Addr) (S H : Hp) (B : Bg) (v w : V) (Q : VK), Bas T b S H B → Rep CR b S x v → Rep CR b S y w → Q (.bl z) H → r v w H Q
mutual
theorem dp_of {K : PySem.W.Frag} {b : Addr} {S H : Hp} {B : Bg} (bs : Bas T b S H B) : ∀ (d : D) {p : PyData} {v : V}, toPy d = some p → Rep CR b S d v → Dp K H v p
  | .non, _, _, h, r => by cases h; cases r; exact .non
  | .bl x, _, _, h, r => by cases h; cases r; exact .bl x
  | .int x, _, _, h, r => by cases h; cases r; exact .int x
  | .str x, _, _, h, r => by cases h; cases r; exact .str x
  | .tup xs, p, v, h, r => by
    obtain ⟨ys, h1, h2⟩ := ob_inv h
    cases h2
    obtain ⟨a, vs, rfl, h3, h4⟩ := r
    exact .tup (bs.sqT h3) (dps_of bs xs h1 h4)
  | .lst xs, p, v, h, r => by
    obtain ⟨ys, h1, h2⟩ := ob_inv h
    cases h2
    obtain ⟨a, vs, rfl, h3, h4⟩ := r
    exact .lst (bs.sqL h3) (dps_of bs xs h1 h4)
  | .rtup _, _, _, h, _ => by cases h
  | .ride _ _, _, _, h, _ => by cases h
  | .bag, _, _, h, _ => by cases h
  | .dct _, _, _, h, _ => by cases h
theorem dps_of {K : PySem.W.Frag} {b : Addr} {S H : Hp} {B : Bg} (bs : Bas T b S H B) : ∀ (ds : List D) {ps : List PyData} {vs : List V}, toPys ds = some ps → Reps CR b S ds vs → DpAll K H vs ps
  | [], _, _, h, r => by
    cases h
    have r : _ = [] := r
    rw [r]
    exact .nil
  | d :: ds, _, _, h, ⟨v, us, h1, h2, h3⟩ => by
    obtain ⟨y, e1, h⟩ := ob_inv h
    obtain ⟨ys, e2, h⟩ := ob_inv h
    cases h
    rw [h1]
    exact .cons (dp_of bs d e1 h2) (dps_of bs ds e2 h3)
end
theorem eqD_ok (hu : X.A.units + 64 < cLine) {x y : D} {z : Bool} (h : eqD x y = some z) : (∃ r, OpR X (compareOp .Eq) r ∧ CpOk CR T r x y z) ∧ ∃ r, OpR X (compareOp .NotEq) r ∧ CpOk CR T r x y (!z) := by
  unfold eqD at h
  split at h
  · cases h
    rename_i i j
    have e : decide (V.int i = V.int j) = decide (i = j) := by
      by_cases q : i = j
      · subst q; simp
      · simp [q]
    refine ⟨⟨_, op_eq, ?_⟩, ⟨_, op_ne, ?_⟩⟩
    · rintro b S H B _ _ Q bs rfl rfl q
      exact ⟨rfl, by rw [e]; exact q⟩
    · rintro b S H B _ _ Q bs rfl rfl q
      exact ⟨rfl, by rw [e]; exact q⟩
  · cases h
    rename_i i j
    have e : decide (V.str i = V.str j) = decide (i = j) := by
      by_cases q : i = j
      · subst q; simp
      · simp [q]
    refine ⟨⟨_, op_eq, ?_⟩, ⟨_, op_ne, ?_⟩⟩
    · rintro b S H B _ _ Q bs rfl rfl q
      exact ⟨rfl, by rw [e]; exact q⟩
    · rintro b S H B _ _ Q bs rfl rfl q
      exact ⟨rfl, by rw [e]; exact q⟩
  · obtain ⟨p1, e1, h⟩ := ob_inv h
    obtain ⟨p2, e2, h⟩ := ob_inv h
    by_cases hs : SeqAt.shaped p1 = true ∧ SeqAt.shaped p2 = true
    · rw [if_pos hs] at h
      cases h
      refine ⟨⟨_, op_eqD hu, ?_⟩, ⟨_, op_neD hu, ?_⟩⟩
      · intro b S H B v w Q bs r1 r2 q
        exact ⟨p1, p2, dp_of bs _ e1 r1, dp_of bs _ e2 r2, hs.1, hs.2, q⟩
      · intro b S H B v w Q bs r1 r2 q
        exact ⟨p1, p2, dp_of bs _ e1 r1, dp_of bs _ e2 r2, hs.1, hs.2, q⟩
    · rw [if_neg hs] at h
      cases h
  · obtain ⟨p1, e1, h⟩ := ob_inv h
    obtain ⟨p2, e2, h⟩ := ob_inv h
    by_cases hs : SeqAt.shaped p1 = true ∧ SeqAt.shaped p2 = true
    · rw [if_pos hs] at h
      cases h
      refine ⟨⟨_, op_eqD hu, ?_⟩, ⟨_, op_neD hu, ?_⟩⟩
      · intro b S H B v w Q bs r1 r2 q
        exact ⟨p1, p2, dp_of bs _ e1 r1, dp_of bs _ e2 r2, hs.1, hs.2, q⟩
      · intro b S H B v w Q bs r1 r2 q
        exact ⟨p1, p2, dp_of bs _ e1 r1, dp_of bs _ e2 r2, hs.1, hs.2, q⟩
    · rw [if_neg hs] at h
      cases h
  · cases h
theorem opC_ok (hu : X.A.units + 64 < cLine) {op : Cop} {x y : D} {z : Bool} (h : opC op x y = some z) : ∃ r, OpR X (compareOp (cpOf op)) r ∧ CpOk CR T r x y z := by
  unfold opC at h
  split at h
  · cases h
    refine ⟨_, op_lt, ?_⟩
    rintro b S H B _ _ Q bs rfl rfl q
    exact ⟨_, _, rfl, rfl, q⟩
  · cases h
    refine ⟨_, op_le, ?_⟩
    rintro b S H B _ _ Q bs rfl rfl q
    exact ⟨_, _, rfl, rfl, q⟩
  · cases h
    refine ⟨_, op_gt, ?_⟩
    rintro b S H B _ _ Q bs rfl rfl q
    exact ⟨_, _, rfl, rfl, q⟩
  · cases h
    refine ⟨_, op_ge, ?_⟩
    rintro b S H B _ _ Q bs rfl rfl q
    exact ⟨_, _, rfl, rfl, q⟩
  · exact (eqD_ok hu h).1
  · obtain ⟨c, e, h⟩ := ob_inv h
    cases h
    exact (eqD_ok hu e).2
  · cases h
/-! ### x in xs -/
theorem flat_rep {b : Addr} {S : Hp} {d : D} {v : V} (h : isFlat d = true) (r : Rep CR b S d v) : flatV v = true := by
  cases d <;> first | (cases h; done) | (cases r; rfl)
theorem eqF_rep {b : Addr} {S : Hp} {d e : D} {v w : V} (h : isFlat d = true) (h' : isFlat e = true) (r : Rep CR b S d v) (r' : Rep CR b S e w) : eqV v w = eqF d e := by
  cases d <;> first
    | (cases h; done)
    | (cases r; cases e <;> first
        | (cases h'; done)
        | (cases r'; rfl))
theorem flats_rep {b : Addr} {S : Hp} : ∀ {ds : List D} {vs : List V}, ds.all isFlat = true → Reps CR b S ds vs → vs.all flatV = true
  | [], _, _, r => by
    have r : _ = [] := r
    rw [r]; rfl
  | d :: ds, _, h, ⟨v, us, h1, h2, h3⟩ => by
    rw [List.all_cons, Bool.and_eq_true] at h
    rw [h1, List.all_cons, flat_rep h.1 h2, flats_rep h.2 h3]; rfl
theorem inV_rep {b : Addr} {S : Hp} {x : D} {v : V} (hx : isFlat x = true) (rx : Rep CR b S x v) : ∀ {ds : List D} {vs : List V}, ds.all isFlat = true → Reps CR b S ds vs → inV v vs = ds.any fun z => eqF z x
  | [], _, _, r => by
    have r : _ = [] := r
    rw [r]; rfl
  | d :: ds, _, h, ⟨w, us, h1, h2, h3⟩ => by
    rw [List.all_cons, Bool.and_eq_true] at h
    have ih := inV_rep hx rx h.2 h3
    unfold inV at ih ⊢
    rw [h1, List.any_cons, List.any_cons, eqF_rep h.1 hx h2 rx, ih]
theorem in_ok {ng : Bool} {x y : D} {z : Bool} (h : inDt x y = some z) : ∃ r, OpR X (compareOp (if ng = true then .NotIn else .In)) r ∧ CpOk CR T r x y (if ng = true then !z else z) := by
  unfold inDt at h
  obtain ⟨xs, e, h⟩ := ob_inv h
  split at h
  · cases h
    rename_i hf
    have go : CpOk CR T (rIn X.K ng) x y (if ng = true then !(xs.any fun z => eqF z x) else xs.any fun z => eqF z x) := by
      intro b S H B v w Q bs r1 r2 q
      obtain ⟨k, a, vs, rfl, hr, hq⟩ := seq_of bs e r2
      refine ⟨a, vs, rfl, sq_or (hq S H B (Ex.refl S) bs), flat_rep hf.1 r1, flats_rep hf.2 hr, ?_⟩
      rw [inV_rep hf.1 r1 hf.2 hr]
      exact q
    cases ng with
    | true => exact ⟨_, op_notIn_seq, go⟩
    | false => exact ⟨_, op_in_seq, go⟩
  · cases h
/-! ### subscripts, slices -/
theorem atI_rep {b : Addr} {S : Hp} {xs : List D} {vs : List V} {i : Int} {z : D} (r : Reps CR b S xs vs) (h : atI xs i = some z) : ∃ v, atI vs i = some v ∧ Rep CR b S z v := by
  unfold atI at h ⊢
  cases e : ixN xs.length i with
  | none => rw [e] at h; cases h
  | some j =>
    rw [e] at h
    rw [← Reps.length r, e]
    exact Reps.get r h
theorem ix_ok {x y z : D} (h : atD x y = some z) : ∃ r, IxR X r ∧ OpOk CR T r x y z := by
  unfold atD at h
  obtain ⟨xs, e, h⟩ := ob_inv h
  cases y with
  | int i =>
    have go : ∀ k : Bool, (∀ (b : Addr) (S : Hp) (v : V), Rep CR b S x v → ∃ a vs, v = .ref a ∧ Reps CR b S xs vs ∧ ∀ H B, Bas T b S H B → CabI.SqK k X.K H a vs) → ∃ r, IxR X r ∧ OpOk CR T r x (.int i) z := by
      intro k hk
      cases k with
      | true =>
        refine ⟨_, ix_list, ?_⟩
        rintro b S H B v _ Q bs r1 rfl q
        obtain ⟨a, vs, rfl, hr, hq⟩ := hk b S v r1
        obtain ⟨w, h1, h2⟩ := atI_rep hr h
        exact ⟨a, vs, i, w, rfl, rfl, hq H B bs, h1, q.here bs h2⟩
      | false =>
        refine ⟨_, ix_tup, ?_⟩
        rintro b S H B v _ Q bs r1 rfl q
        obtain ⟨a, vs, rfl, hr, hq⟩ := hk b S v r1
        obtain ⟨w, h1, h2⟩ := atI_rep hr h
        exact ⟨a, vs, i, w, rfl, rfl, hq H B bs, h1, q.here bs h2⟩
    cases x with
    | tup ys =>
      cases e
      exact go false fun b S v ⟨a, vs, h1, h2, h3⟩ => ⟨a, vs, h1, h3, fun H B bs => bs.sqT h2⟩
    | lst ys =>
      cases e
      exact go true fun b S v ⟨a, vs, h1, h2, h3⟩ => ⟨a, vs, h1, h3, fun H B bs => bs.sqL h2⟩
    | rtup ys =>
      cases e
      exact go false fun b S v ⟨a, o, vs, h1, h2, h3, h4⟩ => ⟨a, vs, h1, h4, fun H B bs => .inl (.inr ⟨o, bs.sub _ _ h2⟩)⟩
    | _ => cases e
  | _ => cases h
theorem cut_rep {b : Addr} {S : Hp} {xs : List D} {vs : List V} {lo hi : Option Int} (r : Reps CR b S xs vs) : Reps CR b S (cutD xs lo hi) (cutV vs lo hi) := by
  unfold cutD cutV
  rw [← Reps.length r]
  exact Reps.take _ (Reps.drop _ r)
theorem cut_all {α : Type} (xs : List α) {lo hi : Option Int} (h1 : HT.sIx xs.length 0 lo = 0) (h2 : HT.sIx xs.length xs.length hi = xs.length) : (xs.drop (HT.sIx xs.length 0 lo)).take (HT.sIx xs.length xs.length hi - HT.sIx xs.length 0 lo) = xs := by
  rw [h1, h2, List.drop_zero, Nat.sub_zero, List.take_length]
def SlOk (CR : Addr) (T : List (Addr × Str)) (r : V → Option Int → Option Int → Hp → VK → Prop) (x : D) (lo hi : Option Int) (z : D) : Prop := ∀ (b : Addr) (S H : Hp) (B : Bg) (v : V) (Q : VK), Bas T b S H B → Rep CR b S x v → Wn CR T b S H B z Q → r v lo hi H Q
theorem sl_ok {x z : D} {lo hi : Option Int} (h : (match x with
    | .tup xs => some (D.tup (cutD xs lo hi))
    | .lst xs => some (.lst (cutD xs lo hi))
    | _ => none) = some z) : ∃ r, SlR X r ∧ SlOk CR T r x lo hi z := by
  cases x with
  | tup xs =>
    cases h
    refine ⟨_, sl_tupA, ?_⟩
    rintro b S H B _ Q bs ⟨a, vs, rfl, h1, r1⟩ q
    refine ⟨a, vs, rfl, bs.sqT h1, fun e => ?_, fun _ => q.tup bs (cut_rep r1)⟩
    have l := Reps.length r1
    have e2 : cutD xs lo hi = xs := by
      unfold cutD
      exact cut_all xs (by rw [l]; exact e.1) (by rw [l]; exact e.2)
    rw [e2] at q
    exact q.here bs ⟨a, vs, rfl, h1, r1⟩
  | lst xs =>
    cases h
    refine ⟨_, sl_list, ?_⟩
    rintro b S H B _ Q bs ⟨a, vs, rfl, h1, r1⟩ q
    exact ⟨a, vs, rfl, bs.sqL h1, q.lst bs (cut_rep r1)⟩
  | _ => cases h
end
end Cab
set_option Elab.async false
set_option linter.all false
set_option maxRecDepth 100000
set_option maxHeartbeats 2000000
/-! The built-in functions of the small language, isinstance, index, sorted. -/
namespace Cab
open PySem L2 LamX Evl CabR

/-! ### sorting pairs -/
theorem insP_perm (p : Int × Int) : ∀ l, (insP p l).Perm (p :: l)
  | [] => List.Perm.refl _
  | q :: r => by
    unfold insP
    split
    · exact List.Perm.refl _
    · exact ((insP_perm p r).cons q).trans (List.Perm.swap p q r)
theorem sortP_perm : ∀ l, (sortP l).Perm l
  | [] => List.Perm.refl _
  | p :: r => (insP_perm p (sortP r)).trans ((sortP_perm r).cons p)
def LeP (p q : Int × Int) : Prop := p.1 < q.1 ∨ (p.1 = q.1 ∧ p.2 ≤ q.2)
theorem leP_iff {p q : Int × Int} : leP p q = true ↔ LeP p q := by
  unfold leP LeP
  simp
theorem LeP.total {p q : Int × Int} (h : ¬ LeP p q) : LeP q p := by
  unfold LeP at h ⊢
  omega
theorem LeP.trans {p q r : Int × Int} (h : LeP p q) (h' : LeP q r) : LeP p r := by
  unfold LeP at h h' ⊢
  omega
theorem LeP.antisymm {p q : Int × Int} (h : LeP p q) (h' : LeP q p) : p = q := by
  obtain ⟨a, b⟩ := p
  obtain ⟨c, d⟩ := q
  unfold LeP at h h'
  simp only at h h'
  have h1 : a = c := by omega
  have h2 : b = d := by omega
  rw [h1, h2]
theorem insP_sorted (p : Int × Int) : ∀ l : List (Int × Int), l.Pairwise LeP → (insP p l).Pairwise LeP
  | [], _ => List.pairwise_singleton _ _
  | q :: r, h => by
    unfold insP
    have hc := List.pairwise_cons.mp h
    split
    · rename_i hl
      have hl := leP_iff.mp hl
      refine List.pairwise_cons.mpr ⟨fun x hx => ?_, h⟩
      rcases List.mem_cons.mp hx with e | e
      · rw [e]; exact hl
      · exact hl.trans (hc.1 x e)
    · rename_i hl
      have hl : LeP q p := LeP.total fun z => hl (leP_iff.mpr z)
      refine List.pairwise_cons.mpr ⟨fun x hx => ?_, insP_sorted p r hc.2⟩
      rcases List.mem_cons.mp ((insP_perm p r).mem_iff.mp hx) with e | e
      · rw [e]; exact hl
      · exact hc.1 x e
theorem sortP_sorted : ∀ l : List (Int × Int), (sortP l).Pairwise LeP
  | [] => List.Pairwise.nil
  | p :: r => insP_sorted p _ (sortP_sorted r)
theorem sorted_uniq : ∀ {l m : List (Int × Int)}, l.Perm m → l.Pairwise LeP → m.Pairwise LeP → l = m
  | [], m, h, _, _ => (List.nil_perm.mp h).symm ▸ rfl
  | a :: l, [], h, _, _ => absurd h.length_eq (by simp)
  | a :: l, b :: m, h, h1, h2 => by
    have c1 := List.pairwise_cons.mp h1
    have c2 := List.pairwise_cons.mp h2
    have e : a = b := by
      have ha : a ∈ b :: m := h.mem_iff.mp List.mem_cons_self
      have hb : b ∈ a :: l := h.mem_iff.mpr List.mem_cons_self
      rcases List.mem_cons.mp ha with e | e
      · exact e
      rcases List.mem_cons.mp hb with e' | e'
      · exact e'.symm
      exact (c1.1 b e').antisymm (c2.1 a e)
    subst e
    rw [sorted_uniq (List.perm_cons _ |>.mp h) c1.2 c2.2]

section
variable {X : Cx} {CR : Addr} {T : List (Addr × Str)}
/-- the pair at a value -/
def prAt (S : Hp) : V → Int × Int
  | .ref a => (match S a with
    | some (.tup [.int i, .int j]) => (i, j)
    | _ => (0, 0))
  | _ => (0, 0)
theorem prs_rep {b : Addr} {S : Hp} : ∀ {xs : List D} {ps : List (Int × Int)} {vs : List V}, prsOf xs = some ps → Reps CR b S xs vs → vs.map (prAt S) = ps ∧ ∀ x ∈ vs, ∃ t, x = V.ref t ∧ S t = some (.tup [.int (prAt S x).1, .int (prAt S x).2])
  | [], _, _, h, r => by
    cases h
    have r : _ = [] := r
    rw [r]
    exact ⟨rfl, fun x hx => by cases hx⟩
  | d :: xs, ps, _, h, ⟨v, us, h1, h2, h3⟩ => by
    unfold prsOf at h
    split at h
    · rename_i he
      cases he
    · rename_i i j r he
      cases he
      obtain ⟨ns, e, h⟩ := ob_inv h
      cases h
      obtain ⟨a, ws, rfl, k1, w1, ws1, rfl, k2, w2, ws2, rfl, k3, k4⟩ := h2
      cases k2
      cases k3
      have k4 : ws2 = [] := k4
      subst k4
      obtain ⟨q1, q2⟩ := prs_rep e h3
      have e1 : prAt S (.ref a) = (i, j) := by unfold prAt; simp only; rw [k1]
      subst h1
      refine ⟨by rw [List.map_cons, e1, q1], fun x hx => ?_⟩
      rcases List.mem_cons.mp hx with z | z
      · subst z
        exact ⟨a, rfl, by rw [e1]; exact k1⟩
      · exact q2 x z
    · cases h
theorem reps_prs {b : Addr} {S : Hp} : ∀ {ys : List V}, (∀ x ∈ ys, ∃ t, x = V.ref t ∧ S t = some (.tup [.int (prAt S x).1, .int (prAt S x).2])) → Reps CR b S ((ys.map (prAt S)).map prD) ys
  | [], _ => rfl
  | y :: ys, h => by
    obtain ⟨t, e, ht⟩ := h y List.mem_cons_self
    refine ⟨y, ys, rfl, ⟨t, _, e, ht, _, _, rfl, rfl, _, _, rfl, rfl, rfl⟩, reps_prs fun x hx => h x (List.mem_cons_of_mem _ hx)⟩
theorem srt_leP {S : Hp} : ∀ {ys : List V}, SrtO.Srtd (ltP (prAt S)) ys → (ys.map (prAt S)).Pairwise LeP
  | [], _ => List.Pairwise.nil
  | y :: ys, h => by
    have c := List.pairwise_cons.mp h
    rw [List.map_cons]
    refine List.pairwise_cons.mpr ⟨fun p hp => ?_, srt_leP c.2⟩
    obtain ⟨z, hz, e⟩ := List.mem_map.mp hp
    subst e
    have q : SrtO.lexB (prAt S z) (prAt S y) = false := c.1 z hz
    have n : ¬ ((prAt S z).1 < (prAt S y).1 ∨ ((prAt S z).1 = (prAt S y).1 ∧ (prAt S z).2 < (prAt S y).2)) := fun k => by
      rw [SrtO.lexB_iff.mpr k] at q
      cases q
    unfold LeP
    omega
def CaOk (CR : Addr) (T : List (Addr × Str)) (r : List V → Hp → VK → Prop) (xs : List D) (z : D) : Prop := ∀ (b : Addr) (S H : Hp) (B : Bg) (vs : List V) (Q : VK), Bas T b S H B → Reps CR b S xs vs → Wn CR T b S H B z Q → r vs H Q
def biNm : Bi → Str
  | .len => "len" | .abs => "abs" | .all => "all" | .any => "any" | .sum => "sum" | .maxl => "max" | .max2 => "max" | .min2 => "min" | .tuple => "tuple" | .list => "list" | .int => "int" | .sorted => "sorted"
def biVl : Bi → Value
  | .len => .builtin "len" | .abs => .builtin "abs" | .all => .builtin "all" | .any => .builtin "any" | .sum => .builtin "sum" | .maxl => .builtin "max" | .max2 => .builtin "max" | .min2 => .builtin "min"
  | .tuple => .type "tuple" | .list => .type "list" | .int => .type "int" | .sorted => .builtin "sorted"
theorem biOf_eq {x : Str} {n : Nat} {f : Bi} (h : biOf x n = some f) : x = biNm f := by
  unfold biOf at h
  split at h
  · repeat (split at h; · cases h; assumption)
    cases h
  · split at h
    · repeat (split at h; · cases h; assumption)
      cases h
    · cases h
theorem one_rep {b : Addr} {S : Hp} {d : D} {vs : List V} (r : Reps CR b S [d] vs) : ∃ v, vs = [v] ∧ Rep CR b S d v := by
  obtain ⟨v, us, h1, h2, h3⟩ := r
  have h3 : us = [] := h3
  subst h3
  exact ⟨v, h1, h2⟩
theorem two_rep {b : Addr} {S : Hp} {d e : D} {vs : List V} (r : Reps CR b S [d, e] vs) : ∃ v w, vs = [v, w] ∧ Rep CR b S d v ∧ Rep CR b S e w := by
  obtain ⟨v, us, h1, h2, h3⟩ := r
  obtain ⟨w, e, h4⟩ := one_rep h3
  subst e
  exact ⟨v, w, h1, h2, h4⟩
theorem bls_rep {b : Addr} {S : Hp} : ∀ {xs : List D} {bs : List Bool} {vs : List V}, blsOf xs = some bs → Reps CR b S xs vs → vs = bs.map V.bl
  | [], _, _, h, r => by cases h; exact r
  | d :: xs, _, _, h, ⟨v, us, h1, h2, h3⟩ => by
    cases d with
    | bl c =>
      obtain ⟨bs, e, h⟩ := ob_inv h
      cases h
      cases h2
      rw [h1, bls_rep e h3]; rfl
    | _ => cases h
theorem ints_rep {b : Addr} {S : Hp} : ∀ {xs : List D} {ns : List Int} {vs : List V}, intsOf xs = some ns → Reps CR b S xs vs → vs = ns.map V.int
  | [], _, _, h, r => by cases h; exact r
  | d :: xs, _, _, h, ⟨v, us, h1, h2, h3⟩ => by
    cases d with
    | int c =>
      obtain ⟨bs, e, h⟩ := ob_inv h
      cases h
      cases h2
      rw [h1, ints_rep e h3]; rfl
    | _ => cases h
theorem foldl_max : ∀ (r : List Int) (a : Int), (r.foldl max a = a ∨ r.foldl max a ∈ r) ∧ a ≤ r.foldl max a ∧ ∀ y ∈ r, y ≤ r.foldl max a
  | [], a => ⟨.inl rfl, Int.le_refl _, fun y h => by cases h⟩
  | x :: r, a => by
    obtain ⟨h1, h2, h3⟩ := foldl_max r (max a x)
    rw [List.foldl_cons]
    refine ⟨?_, by omega, fun y hy => ?_⟩
    · rcases h1 with e | e
      · rw [e]
        by_cases q : a ≤ x
        · exact .inr (by rw [Int.max_eq_right q]; exact List.mem_cons_self)
        · exact .inl (Int.max_eq_left (by omega))
      · exact .inr (List.mem_cons_of_mem _ e)
    · rcases List.mem_cons.mp hy with e | e
      · rw [e]; omega
      · exact h3 y e
theorem maxI_eq {ns : List Int} {m m' : Int} (h : maxI ns = some m) (h1 : m' ∈ ns) (h2 : ∀ y, y ∈ ns → y ≤ m') : m' = m := by
  cases ns with
  | nil => cases h
  | cons a r =>
    cases h
    obtain ⟨q1, q2, q3⟩ := foldl_max r a
    have k1 : r.foldl max a ≤ m' := by
      rcases q1 with e | e
      · rw [e]; exact h2 a List.mem_cons_self
      · exact h2 _ (List.mem_cons_of_mem _ e)
    have k2 : m' ≤ r.foldl max a := by
      rcases List.mem_cons.mp h1 with e | e
      · rw [e]; exact q2
      · exact q3 _ e
    omega
/-- sum(xs) of a tuple of ints -/
def rSumT (K : PySem.W.Frag) : List V → Hp → VK → Prop := fun vs H Q => ∃ (a : Addr) (ns : List Int), vs = [V.ref a] ∧ SqT K H a (ns.map V.int) ∧ Q (.int ns.sum) H
theorem cr_sumT {X : Cx} (hc : X.calm = true) : CallR X (.builtin "sum") (rSumT X.K) := by
  intro pins s σ H vs us Q I r h
  obtain ⟨a, ns, rfl, hs, q⟩ := h
  obtain ⟨its, rv, ht, _⟩ := I.tuple hs
  rw [Vals.ref1 r]
  have hi := rv.ints
  obtain ⟨xs, e⟩ := hi.allInts.items
  have hn : numsOf (intItems xs).toList = ns := by rw [← e]; exact hi.numsOf
  rw [nums_intItems] at hn
  rw [e] at ht
  refine PySem.W.ktm_sumG (I.ok.hd hc) ht fun h' tk t' hk => ?_
  rw [preSum_eq, List.take_of_length_le (by simp), hn]
  exact ⟨.int _, H, I.kept hk, ⟨_, rfl⟩, q⟩
/-- what len(x) of an instance asks of the class -/
structure LenO (X : Cx) (CR : Addr) (n : Nat) : Prop where
  ex : ∃ g fd, PySem.W.findIn X.K (.ref CR) "__len__" = some (some (.ref g)) ∧ PySem.W.isFn X.K (.ref g) = true ∧ Binds X.K fd ["self"] [] ∧
    FnOk X.prog X.w X.K X.mg X.base CX0 n g fd ["self"] (fun vs H Q _ => ∃ a dx vc vr vt xs, vs = [V.ref a] ∧ H a = some (.ins CR dx [(("costs" : Str), vc), (("riders" : Str), .ref vr), (("told" : Str), vt)]) ∧ SqT X.K H vr xs ∧ Q (.int xs.length) H)
theorem bi_ok {n : Nat} (hc : X.calm = true) (hl : LenO X CR n) (hr : Room (n + 1) X.A) {f : Bi} {ds : List D} {z : D} (h : biF f ds = some z) : ∃ r, CallR X (biVl f) r ∧ CaOk CR T r ds z := by
  have hs := sline
  unfold biF at h
  split at h
  · cases h
    refine ⟨_, call_len_seq, fun b S H B vs Q bs r q => ?_⟩
    obtain ⟨v, rfl, a, us, rfl, h1, h2⟩ := one_rep r
    exact ⟨a, us, rfl, .inr (bs.sqT h1), q.here bs (by rw [Reps.length h2]; rfl)⟩
  · cases h
    refine ⟨_, call_len_seq, fun b S H B vs Q bs r q => ?_⟩
    obtain ⟨v, rfl, a, us, rfl, h1, h2⟩ := one_rep r
    exact ⟨a, us, rfl, .inl (bs.sqL h1), q.here bs (by rw [Reps.length h2]; rfl)⟩
  · cases h
    refine ⟨_, call_len_seq, fun b S H B vs Q bs r q => ?_⟩
    obtain ⟨v, rfl, a, o, us, rfl, h1, h2, h3⟩ := one_rep r
    exact ⟨a, us, rfl, .inr (.inl (.inr ⟨o, bs.sub _ _ h1⟩)), q.here bs (by rw [Reps.length h3]; rfl)⟩
  · split at h
    · cases h
      rename_i hz
      obtain ⟨g, fd, h1, h2, h3, F⟩ := hl.ex
      refine ⟨_, call_lenO h1 h2 (F.raw h3 .nil) hr pass0, fun b S H B vs Q bs r q => ?_⟩
      obtain ⟨v, rfl, a, dx, vc, vr, vt, rfl, k1, k2, c, us, rfl, k4, k5⟩ := one_rep r
      have l := Reps.length k5
      exact ⟨a, dx, _, rfl, bs.sub _ _ k1, a, dx, vc, c, vt, us, rfl, bs.sub _ _ k1, bs.sqT k4, us.length, rfl, by omega, q.here bs (by rw [l]; rfl)⟩
    · cases h
  · cases h
    refine ⟨_, call_abs, fun b S H B vs Q bs r q => ?_⟩
    obtain ⟨v, rfl, r1⟩ := one_rep r
    cases r1
    exact ⟨_, rfl, q.here bs rfl⟩
  · obtain ⟨bs', e, h⟩ := ob_inv h
    cases h
    refine ⟨_, cr_all hc, fun b S H B vs Q bs r q => ?_⟩
    obtain ⟨v, rfl, a, us, rfl, h1, h2⟩ := one_rep r
    exact ⟨a, bs', rfl, by rw [← bls_rep e h2]; exact bs.sqL h1, q.here bs rfl⟩
  · obtain ⟨bs', e, h⟩ := ob_inv h
    cases h
    refine ⟨_, cr_any hc, fun b S H B vs Q bs r q => ?_⟩
    obtain ⟨v, rfl, a, us, rfl, h1, h2⟩ := one_rep r
    exact ⟨a, bs', rfl, by rw [← bls_rep e h2]; exact bs.sqL h1, q.here bs rfl⟩
  · obtain ⟨ns, e, h⟩ := ob_inv h
    cases h
    refine ⟨_, cr_sum hc, fun b S H B vs Q bs r q => ?_⟩
    obtain ⟨v, rfl, a, us, rfl, h1, h2⟩ := one_rep r
    exact ⟨a, ns, rfl, by rw [← ints_rep e h2]; exact bs.sqL h1, q.here bs rfl⟩
  · obtain ⟨ns, e, h⟩ := ob_inv h
    cases h
    refine ⟨_, cr_sumT hc, fun b S H B vs Q bs r q => ?_⟩
    obtain ⟨v, rfl, a, us, rfl, h1, h2⟩ := one_rep r
    exact ⟨a, ns, rfl, by rw [← ints_rep e h2]; exact bs.sqT h1, q.here bs rfl⟩
  · obtain ⟨ns, e, h⟩ := ob_inv h
    obtain ⟨m, e', h⟩ := ob_inv h
    cases h
    refine ⟨_, cr_max hc, fun b S H B vs Q bs r q => ?_⟩
    obtain ⟨v, rfl, a, us, rfl, h1, h2⟩ := one_rep r
    refine ⟨a, ns, rfl, by rw [← ints_rep e h2]; exact bs.sqL h1, ?_, fun m' k1 k2 => ?_⟩
    · cases ns with
      | nil => cases e'
      | cons _ _ => exact Nat.succ_pos _
    · rw [maxI_eq e' k1 k2]
      exact q.here bs rfl
  · cases h
    refine ⟨_, call_max2 hc, fun b S H B vs Q bs r q => ?_⟩
    obtain ⟨v, w, rfl, r1, r2⟩ := two_rep r
    cases r1
    cases r2
    exact ⟨_, _, rfl, q.here bs rfl⟩
  · cases h
    refine ⟨_, call_min2 hc, fun b S H B vs Q bs r q => ?_⟩
    obtain ⟨v, w, rfl, r1, r2⟩ := two_rep r
    cases r1
    cases r2
    exact ⟨_, _, rfl, q.here bs rfl⟩
  · cases h
    refine ⟨_, call_tuple_of, fun b S H B vs Q bs r q => ?_⟩
    obtain ⟨v, rfl, a, us, rfl, h1, h2⟩ := one_rep r
    exact ⟨a, us, rfl, .inl ⟨bs.sqL h1, q.tup bs h2⟩⟩
  · cases h
    refine ⟨_, call_tuple_of, fun b S H B vs Q bs r q => ?_⟩
    obtain ⟨v, rfl, a, us, rfl, h1, h2⟩ := one_rep r
    exact ⟨a, us, rfl, .inr ⟨bs.sqT h1, q.here bs ⟨a, us, rfl, h1, h2⟩⟩⟩
  · cases h
    refine ⟨_, call_list_of, fun b S H B vs Q bs r q => ?_⟩
    obtain ⟨v, rfl, a, us, rfl, h1, h2⟩ := one_rep r
    exact ⟨a, us, rfl, .inr (bs.sqT h1), q.lst bs h2⟩
  · cases h
    refine ⟨_, call_list_of, fun b S H B vs Q bs r q => ?_⟩
    obtain ⟨v, rfl, a, us, rfl, h1, h2⟩ := one_rep r
    exact ⟨a, us, rfl, .inl (bs.sqL h1), q.lst bs h2⟩
  · cases h
    refine ⟨_, call_int1, fun b S H B vs Q bs r q => ?_⟩
    obtain ⟨v, rfl, r1⟩ := one_rep r
    cases r1
    exact .inl ⟨_, rfl, q.here bs rfl⟩
  · obtain ⟨ps, e, h⟩ := ob_inv h
    cases h
    refine ⟨_, cr_sortedPO, fun b S H B vs Q bs r q => ?_⟩
    obtain ⟨v, rfl, a, us, rfl, h1, h2⟩ := one_rep r
    obtain ⟨q1, q2⟩ := prs_rep e h2
    refine ⟨a, us, prAt S, rfl, bs.sqL h1, fun x hx => ?_, fun ys p hs hb hp => ?_⟩
    · obtain ⟨t, k1, k2⟩ := q2 x hx
      exact ⟨t, k1, bs.sub _ _ k2⟩
    · have e2 : ys.map (prAt S) = sortP ps := by
        refine sorted_uniq ?_ (srt_leP hs) (sortP_sorted ps)
        rw [← q1]
        exact (hb.perm.map _).trans (sortP_perm _).symm
      refine q.lst bs ?_ p hp
      rw [← e2]
      exact reps_prs fun x hx => q2 x (hb.perm.mem_iff.mp hx)
  · cases h
end
end Cab
set_option Elab.async false
set_option linter.all false
set_option maxRecDepth 100000
set_option maxHeartbeats 2000000
/-! A def's promise where (gu) no builtin of those that watch themselves is under way: a list's own text asks for it. -/
namespace Cab
open PySem L2 PyProof.Rows PySem.Spec
structure FnG (gu : Bool) (P : Program) (w : World) (K : PySem.W.Frag) (mg : Str → Option Value) (base : Heap) (CX : CXT) (k : Nat) (f : Addr) (fd : FuncData) (ps : List Str) (sp : Sp) : Prop where
  len : ∀ vs H Q E, sp vs H Q E → vs.length = ps.length
  run : ∀ (A : Around) (outer : List PySem.Env) (s : Shared) (H : Hp) (args : Args) (us : List Value) (vs : List V) (Q : VK) (E : XK), (gu = true → A.guards = some []) → Room k A → Env0 P w K mg base A outer s H → BindsTo s fd args (ps.zip us) → Vals vs us → sp vs H Q E →
    codeAny (model P w) A (.call (.ref f) args) (L2.CR CX outer P w H s Q E) s
section
variable {gu : Bool} {P : Program} {w : World} {K : PySem.W.Frag} {mg : Str → Option Value} {base : Heap} {CX : CXT} {k j : Nat} {f : Addr} {fd : FuncData} {ps : List Str} {sp sp' : Sp}
theorem FnG.of (F : FnOk P w K mg base CX k f fd ps sp) : FnG gu P w K mg base CX k f fd ps sp := ⟨F.len, fun A outer s H args us vs Q E _ => F.run A outer s H args us vs Q E⟩
theorem FnG.ok (F : FnG false P w K mg base CX k f fd ps sp) : FnOk P w K mg base CX k f fd ps sp := ⟨F.len, fun A outer s H args us vs Q E => F.run A outer s H args us vs Q E fun z => nomatch z⟩
theorem FnG.up (F : FnG false P w K mg base CX k f fd ps sp) : FnG gu P w K mg base CX k f fd ps sp := .of F.ok
theorem FnG.mono (F : FnG gu P w K mg base CX j f fd ps sp) (h : j ≤ k) : FnG gu P w K mg base CX k f fd ps sp :=
  ⟨F.len, fun A outer s H args us vs Q E hg hr => F.run A outer s H args us vs Q E hg (hr.mono h)⟩
theorem FnG.imp (F : FnG gu P w K mg base CX k f fd ps sp) (h : ∀ vs H Q E, sp' vs H Q E → sp vs H Q E) : FnG gu P w K mg base CX k f fd ps sp' :=
  ⟨fun vs H Q E q => F.len vs H Q E (h _ _ _ _ q), fun A outer s H args us vs Q E hg hr he hb hv hs => F.run A outer s H args us vs Q E hg hr he hb hv (h _ _ _ _ hs)⟩
theorem okG {x qual : Str} {params : Arguments} {body : List Stmt} {scope : Scope} {dvs : List V} {kws : List (Str × V)} {N : List Str} (F : FunD K x qual params body scope dvs kws f fd) (S : FnScope N ps scope) (len : ∀ vs H Q E, sp vs H Q E → vs.length = ps.length)
    (hbody : ∀ (cdv : Value) (A : Around) (outer : List PySem.Env) (s : Shared) (H : Hp) (vs : List V) (Q : VK) (E : XK), (gu = true → A.guards = some []) → Room k (A.deeper (envOfC qual scope s.heap.objs.size f cdv)) → sp vs H Q E →
      ∃ t, PSs (cxOf CX P w K mg base N qual scope f cdv A outer s H E) body t ∧ t { nx := fun _ H' => Q .non H', rt := Q } (L2.start N vs) H) : FnG gu P w K mg base CX (k + 1) f fd ps sp := by
  obtain ⟨oc, od, dV, kV, doc, pm, an, cdv, ct, osl, rfl, lk, hcd, _, _⟩ := F.ex
  refine ⟨len, fun A outer s H args us vs Q E hgd hr e0 hb r hsp => ?_⟩
  have KX : K.In s.heap := e0.mod.kin.keeps fun b o e => (e0.bs b o e).1
  have lim : s.heap.NoLimit := e0.mod.nolimit.keeps fun b o e => (e0.bs b o e).1
  refine codeAny_call_function hr.depth (KX _ _ lk) rfl S.co S.gen rfl (PySem.W.codeRec_of KX hcd) (hb _ _ _ _ (wpAny_newFunctionEnv_cells S.kind (fun ⟨n, v⟩ hy => (S.par n (List.of_mem_zip hy).1).imp id fun q => ⟨q, PySem.W.cellsFrom_some _ _ _ (.inl q)⟩) fun env he s1 x => ?_))
  subst he
  obtain ⟨t, ht, hq⟩ := hbody cdv A outer s H vs Q E hgd (hr.deeper _) hsp
  refine ⟨lim.keeps x.toInCall.keep, codeAny_func (wpAny_mono (ht.run [] s1 (L2.start N vs) H _ (inv_start S hr.hd e0 (len _ _ _ _ hsp) r x) hq) (fun fl s' hs => ?_) fun e s' hs => hs)⟩
  cases fl with
  | ret u =>
    obtain ⟨v, σ', H', J, rv, q⟩ := hs
    exact ⟨v, H', J.os, J.bare, J.base, J.hok, rv, q⟩
  | next =>
    obtain ⟨σ', H', J, q⟩ := hs
    exact ⟨V.non, H', J.os, J.bare, J.base, J.hok, rfl, q⟩
  | brk => exact hs.elim fun _ h => h.elim fun _ h => h.2.elim
  | cont => exact hs.elim fun _ h => h.elim fun _ h => h.2.elim
end
section
variable {gu : Bool} {X : Cx} {CX : CXT} {k : Nat} {f : Addr} {fd : FuncData} {ps : List Str} {sp : Sp} {dvs : List V} {ds : List Value} {E : XK} {x : Str} {p pos : Pos} {e : Expr} {es : List Expr} {t : TA}
theorem runG {pins : List (Addr × Obj)} {σ : L2.St} {H : Hp} {s : Shared} {Q : VK} {us : List Value} {vs : List V} (F : FnG gu X.prog X.w X.K X.mg X.base CX k f fd ps sp) (hgd : gu = true → X.A.guards = some []) (hr : Room k X.A) (hb : Binds X.K fd ps ds) (hd : Vals dvs ds) (hx : Passes CX X E)
    (I : Inv X pins σ H s) (r : Vals vs us) (h : sp (vs ++ dvs) H Q E) : wpAny (model X.prog X.w) X.A (call (.ref f) us) (EP X pins σ Q) X.xe s := by
  have r2 : Vals (vs ++ dvs) (us ++ ds) := r.append hd
  have hl : (us ++ ds).length = ps.length := by rw [← r2.length]; exact F.len _ _ _ _ h
  refine wpAny_call (codeAny_mono (F.run X.A X.stack s H ⟨us, []⟩ (us ++ ds) (vs ++ dvs) Q E hgd hr I.env0 (hb s us I.kIn hl) r2 h) fun r s' hq => ?_)
  cases r with
  | error e => exact hx pins σ H s e s' I hq
  | ok fl =>
    cases fl with
    | ret u => exact I.after hq
    | next => exact False.elim hq
    | brk => exact False.elim hq
    | cont => exact False.elim hq
theorem pe_callG (F : FnG gu X.prog X.w X.K X.mg X.base CX k f fd ps sp) (hgd : gu = true → X.A.guards = some []) (hr : Room k X.A) (hg : Gl X x) (hm : X.mg x = some (.ref f)) (hk : PySem.W.keepIn X.K (.ref f) = true) (hb : Binds X.K fd ps ds) (hd : Vals dvs ds) (hx : Passes CX X E)
    (ha : PA X (e :: es) t) (hdb : (x == ("__debug__" : Str)) = false) (he : starEach (e :: es) X.env = (false, eval e X.env) :: starEach es X.env) (hpl : (backTo pos (starEach es X.env)).any (·.1) = false) :
    PE X (.Call (.Name x p) (e :: es) [] pos) (tCall sp dvs E t) := ⟨fun pins s σ H Q I h =>
  wpAny_Call_Name_kw (ld_glob I hg hm (PySem.W.callWith_K (h₀ := X.base) I.ok.mod.kin hk (thn (ha.run pos pins s σ H _ I h) fun us s1 ⟨vs, H1, I1, r, q⟩ => ⟨I1.kIn, runG F hgd hr hb hd hx I1 r q⟩) he hpl) hdb)⟩
theorem pe_callG0 (F : FnG gu X.prog X.w X.K X.mg X.base CX k f fd ps sp) (hgd : gu = true → X.A.guards = some []) (hr : Room k X.A) (hg : Gl X x) (hm : X.mg x = some (.ref f)) (hk : PySem.W.keepIn X.K (.ref f) = true) (hb : Binds X.K fd ps ds) (hd : Vals dvs ds) (hx : Passes CX X E)
    (hdb : (x == ("__debug__" : Str)) = false) : PE X (.Call (.Name x p) [] [] pos) (tCall sp dvs E tNil) := ⟨fun pins s σ H Q I h =>
  wpAny_Call_Name_kw (ld_glob I hg hm (PySem.W.callWith_K0 I.kIn hk (runG (us := []) F hgd hr hb hd hx I .nil h)) hdb)⟩
end
end Cab
set_option Elab.async false
set_option linter.all false
set_option maxRecDepth 100000
set_option maxHeartbeats 2000000
/-! What an expression of the small language says is what its text does: the single constructs. -/
namespace Cab
open PySem L2 LamX Evl CabR

theorem itT {p q : Prop} (h : p) : if true = true then p else q := by rw [if_pos rfl]; exact h
theorem itF {p q : Prop} (h : q) : if false = true then p else q := by rw [if_neg Bool.false_ne_true]; exact h
/-- a def's promise by the interpreter -/
def spC (k : Call) (CR : Addr) (T : List (Addr × Str)) (f : Str) (m : Nat) : Sp := fun vs H Q _ => ∃ (b : Addr) (S : Hp) (B : Bg) (ds : List D) (d : D) (B' : Bg),
  ds.length = m ∧ Bas T b S H B ∧ Reps CR b S ds vs ∧ k f ds B = some (d, B') ∧ ∀ v S' H', Gr b S H S' H' → Bas T b S' H' B' → Rep CR b S' d v → Q v H'
def blts : List Str := ["len", "abs", "all", "any", "sum", "max", "min", "tuple", "list", "int", "sorted", "isinstance", "range", "enumerate", "zip", "bool", "str"]
/-- what the module's names are, and what its defs promise at level r -/
structure WF (gu : Bool) (G : GW) (k : Call) (CR : Addr) (T : List (Addr × Str)) (r : Nat) (P : Program) (w : World) (K : PySem.W.Frag) (mg : Str → Option Value) (base : Heap) : Prop where
  glob : ∀ x i, G.glob x = some i → ∃ t, mg x = some (.int i t)
  gdic : ∀ x kvs, G.gdic x = some kvs → ∃ d es n, mg x = some (.ref d) ∧ KDict K w d es n ∧ ∀ z, (∀ i, lkD kvs z = some i → ∃ t, PySem.W.nsIn K d z = some (some (.int i t))) ∧ (lkD kvs z = none → PySem.W.nsIn K d z = some none)
  gtup : ∀ x ws, G.gtup x = some ws → ∃ a, mg x = some (.ref a) ∧ ∀ H, SqT K H a (ws.map V.str)
  fns : ∀ f m, G.fns f = some m → ∃ a fd ps, mg f = some (.ref a) ∧ PySem.W.keepIn K (.ref a) = true ∧ ps.length = m ∧ Binds K fd ps [] ∧ FnG gu P w K mg base CX0 r a fd ps (spC k CR T f m)
  gdb1 : ∀ x i, G.glob x = some i → (x == ("__debug__" : Str)) = false
  gdb2 : ∀ x i, G.gdic x = some i → (x == ("__debug__" : Str)) = false
  gdb3 : ∀ x i, G.gtup x = some i → (x == ("__debug__" : Str)) = false
  fdb : ∀ f m, G.fns f = some m → (f == ("__debug__" : Str)) = false
  blt : ∀ x ∈ blts, mg x = none
  rcls : mg "Ride" = some (.ref CR)
  cls : Cls K CR
  fc : NoAttr K CR "costs"
  fr : NoAttr K CR "riders"
  ia : PySem.W.findIn K (.ref CR) "__class__" = some (some (.builtin "object.__class__"))
  ib : PySem.W.specialIn K (.builtin "object.__class__") "__get__" = some (some (.builtin "getset_descriptor.__get__"))
  ic : PySem.W.takesIn K (.builtin "object.__class__") = some true
  id : PySem.W.mroIn K CR (.type "object") = some true
  irr : PySem.W.kitOne K (.ref CR) (.ref CR) = some true
  inr : PySem.W.kitOne K (.type "NoneType") (.ref CR) = some false
  len : ∃ g fd, PySem.W.findIn K (.ref CR) "__len__" = some (some (.ref g)) ∧ PySem.W.isFn K (.ref g) = true ∧ Binds K fd ["self"] [] ∧
    FnOk P w K mg base CX0 r g fd ["self"] (fun vs H Q _ => ∃ a dx vc vr vt xs, vs = [V.ref a] ∧ H a = some (.ins CR dx [(("costs" : Str), vc), (("riders" : Str), .ref vr), (("told" : Str), vt)]) ∧ SqT K H vr xs ∧ Q (.int xs.length) H)
/-- where a text of C stands -/
structure GX (gu : Bool) (r : Nat) (C : CC) (X : Cx) : Prop where
  N : X.N = C.N
  nd : C.N.Nodup
  nm : ∀ x ∈ C.N, (x == ("__debug__" : Str)) = false ∧ (x == ("__classdict__" : Str)) = false
  calm : X.calm = true
  xe : X.xe = fun _ _ => False
  room : Room (r + 1) X.A
  gd : gu = true → X.A.guards = some []
  vis : ∀ x, visB C.sc x = true → Vis X.env.scope x
  loc : ∀ x, locB C.sc x = true → Loc X.env.scope x ∧ (X.fn x = true ∨ X.env.scope.names.lookup x = some .local)
  glo : ∀ x, gloB C.sc x = true → Gl X x
  fre : ∀ x, (C.sc.names.lookup x = some .cell ∨ C.sc.names.lookup x = some .free) → X.env.scope.names.lookup x = some .cell ∨ X.env.scope.names.lookup x = some .free

section
variable {X : Cx} {k : Call} {CR : Addr} {T : List (Addr × Str)} {b : Addr} {S H : Hp} {σ : L2.St} {env : Env} {B B' B1 B2 B3 : Bg}
theorem tE1 {a : IE} {x : D} {R : VK} (st : Stt CR T b S H σ env B) (ea : evE k a env B = some (x, B1)) (h : ∀ v S1 H1, Gr b S H S1 H1 → Bas T b S1 H1 B1 → Rep CR b S1 x v → R v H1) : tE k CR T a σ H R :=
  ⟨b, S, env, B, x, B1, st, ea, h⟩
theorem tE2 {a c : IE} {x y : D} {R : V → V → Hp → Prop} (st : Stt CR T b S H σ env B) (ea : evE k a env B = some (x, B1)) (ec : evE k c env B1 = some (y, B2))
    (h : ∀ v w S2 H2, Gr b S H S2 H2 → Bas T b S2 H2 B2 → Rep CR b S2 x v → Rep CR b S2 y w → R v w H2) : tE k CR T a σ H fun v H1 => tE k CR T c σ H1 fun w H2 => R v w H2 :=
  tE1 st ea fun v S1 H1 g1 bs1 r1 => tE1 (st.mono g1 bs1) ec fun w S2 H2 g2 bs2 r2 => h v w S2 H2 (g1.trans g2) bs2 (Rep.mono g2.s x r1) r2
theorem Wn.mono {d : D} {Q : VK} {S1 H1 : Hp} (q : Wn CR T b S H B d Q) (g : Gr b S H S1 H1) : Wn CR T b S1 H1 B d Q := fun v S' H' g' => q v S' H' (g.trans g')
/-- an operation of two values -/
theorem so_op {a c : IE} {x y z : D} {r : R2} {Q : VK} (st : Stt CR T b S H σ env B) (ea : evE k a env B = some (x, B1)) (ec : evE k c env B1 = some (y, B2)) (h : OpOk CR T r x y z) (q : Wn CR T b S H B2 z Q) : tOp r (tE k CR T a) (tE k CR T c) σ H Q :=
  tE2 st ea ec fun v w S2 H2 g bs r1 r2 => h b S2 H2 B2 v w Q bs r1 r2 (q.mono g)
theorem so_cp {a c : IE} {x y : D} {z : Bool} {r : R2} {Q : VK} (st : Stt CR T b S H σ env B) (ea : evE k a env B = some (x, B1)) (ec : evE k c env B1 = some (y, B2)) (h : CpOk CR T r x y z) (q : Wn CR T b S H B2 (.bl z) Q) : tOp r (tE k CR T a) (tE k CR T c) σ H Q :=
  tE2 st ea ec fun v w S2 H2 g bs r1 r2 => h b S2 H2 B2 v w Q bs r1 r2 ((q.mono g).here bs rfl)
/-- a test by its value -/
theorem tT_tE {a : IE} {R : Bool → Hp → Prop} (h : tT k CR T a σ H R) : tE k CR T a σ H fun x H1 => ∃ c, x = .bl c ∧ R c H1 := by
  obtain ⟨b, S, env, B, c, B', st, ev, q⟩ := h
  exact tE1 st ev fun v S1 H1 g bs r => ⟨c, r, q S1 H1 g bs⟩
theorem pt_of {e : Expr} {ie : IE} (h : PE X e (tE k CR T ie)) (he : ∀ whole, isTrue e X.env whole = (do let v ← whole; standAt e.pos; holding [v] (truthy v))) : PT X e (tT k CR T ie) :=
  PT.by fun σ H Q q => ⟨_, pt_val h he, tT_tE q⟩
abbrev PB (k : Call) (CR : Addr) (T : List (Addr × Str)) (X : Cx) (e : Expr) (ie : IE) : Prop := PE X e (tE k CR T ie) ∧ PT X e (tT k CR T ie)
theorem both {e : Expr} {ie : IE} (h : PE X e (tE k CR T ie)) (he : ∀ whole, isTrue e X.env whole = (do let v ← whole; standAt e.pos; holding [v] (truthy v))) : PB k CR T X e ie := ⟨h, pt_of h he⟩
/-- constants -/
theorem so_c {e : Expr} {v : V} {d : D} (h : PE X e (tC v)) (r : ∀ b S, Rep CR b S d v) : PE X e (tE k CR T (.c d)) := by
  refine PE.by fun σ H Q ⟨b, S, env, B, x, B', st, ev, q⟩ => ⟨_, h, ?_⟩
  cases ev
  exact Wn.here q st.bas (r b S)
theorem so_v {i : Nat} {x : Str} {pos : Pos} (hN : X.N[i]? = some x) (hv : Vis X.env.scope x) (hd : (x == ("__debug__" : Str)) = false) (hcd : (x == ("__classdict__" : Str)) = false) : PE X (.Name x pos) (tE k CR T (.v i)) := by
  refine PE.by fun σ H Q ⟨b, S, env, B, d, B', st, ev, q⟩ => ⟨_, pe_var hN hv hd hcd, ?_⟩
  obtain ⟨d', e1, ev⟩ := ob_inv ev
  cases ev
  unfold getV at e1
  split at e1
  · rename_i he
    cases e1
    obtain ⟨v, h1, h2⟩ := st.val i d he
    exact ⟨v, h1, Wn.here q st.bas h2⟩
  · cases e1
theorem so_bin {a c : Expr} {ia ic : IE} {o : Bop} {pos : Pos} (ha : PE X a (tE k CR T ia)) (hc : PE X c (tE k CR T ic)) : PE X (.BinOp a (opOf o) c pos) (tE k CR T (.bin o ia ic)) := by
  refine PE.by fun σ H Q ⟨b, S, env, B, d, B', st, ev, q⟩ => ?_
  obtain ⟨x, B1, e1, ev⟩ := bd_inv ev
  obtain ⟨y, B2, e2, ev⟩ := bd_inv ev
  obtain ⟨z, e3, ev⟩ := ob_inv ev
  cases ev
  obtain ⟨r, h1, h2⟩ := opB_ok (X := X) (CR := CR) (T := T) e3
  exact ⟨_, pe_op h1 ha hc, so_op st e1 e2 h2 q⟩
theorem so_neg {a : Expr} {ia : IE} {pos : Pos} (ha : PE X a (tE k CR T ia)) : PE X (.UnaryOp .USub a pos) (tE k CR T (.neg ia)) := by
  refine PE.by fun σ H Q ⟨b, S, env, B, d, B', st, ev, q⟩ => ⟨_, pe_un un_neg ha, ?_⟩
  obtain ⟨x, B1, e1, ev⟩ := bd_inv ev
  cases x with
  | int i =>
    cases ev
    exact tE1 st e1 fun v S1 H1 g bs r => ⟨i, r, (Wn.mono q g).here bs rfl⟩
  | _ => cases ev
theorem so_not {a : Expr} {ia : IE} {pos : Pos} (ha : PB k CR T X a ia) : PB k CR T X (.UnaryOp .Not a pos) (.nt ia) := by
  constructor
  · refine PE.by fun σ H Q ⟨b, S, env, B, d, B', st, ev, q⟩ => ⟨_, pe_not ha.1, ?_⟩
    obtain ⟨x, B1, e1, ev⟩ := bd_inv ev
    cases x with
    | bl i =>
      cases ev
      exact tE1 st e1 fun v S1 H1 g bs r => ⟨i, r, (Wn.mono q g).here bs rfl⟩
    | _ => cases ev
  · refine PT.by fun σ H Q ⟨b, S, env, B, d, B', st, ev, q⟩ => ⟨_, pt_not ha.2, ?_⟩
    obtain ⟨x, B1, e1, ev⟩ := bd_inv ev
    cases x with
    | bl i =>
      cases ev
      exact ⟨b, S, env, B, i, _, st, e1, fun S' H' g bs => q S' H' g bs⟩
    | _ => cases ev
theorem so_and {a c : Expr} {rest : List Expr} {ia ic : IE} {pos : Pos} (ha : PB k CR T X a ia) (h1 : PE X (.BoolOp .And (c :: rest) pos) (tE k CR T ic)) (h2 : PW X (.BoolOp .And (c :: rest) pos) (tT k CR T ic)) :
    PE X (.BoolOp .And (a :: c :: rest) pos) (tE k CR T (.and_ ia ic)) ∧ PW X (.BoolOp .And (a :: c :: rest) pos) (tT k CR T (.and_ ia ic)) := by
  constructor
  · refine PE.by fun σ H Q ⟨b, S, env, B, d, B', st, ev, q⟩ => ⟨_, pe_and ha.1 h1, ?_⟩
    obtain ⟨x, B1, e1, ev⟩ := bd_inv ev
    cases x with
    | bl i =>
      cases i with
      | true => exact tE1 st e1 fun v S1 H1 g bs r => ⟨true, r, itT (tE1 (st.mono g bs) ev fun w S2 H2 g2 bs2 r2 => q w S2 H2 (g.trans g2) bs2 r2)⟩
      | false =>
        cases ev
        exact tE1 st e1 fun v S1 H1 g bs r => ⟨false, r, itF ((Wn.mono q g).here bs rfl)⟩
    | _ => cases ev
  · refine PW.by fun σ H Q ⟨b, S, env, B, d, B', st, ev, q⟩ => ⟨_, pw_and ha.2 h2, ?_⟩
    obtain ⟨x, B1, e1, ev⟩ := bd_inv ev
    cases x with
    | bl i =>
      cases i with
      | true => exact ⟨b, S, env, B, true, B1, st, e1, fun S1 H1 g bs => itT (⟨b, S1, env, B1, d, B', st.mono g bs, ev, fun S2 H2 g2 bs2 => q S2 H2 (g.trans g2) bs2⟩)⟩
      | false =>
        cases ev
        exact ⟨b, S, env, B, false, _, st, e1, fun S1 H1 g bs => itF (q S1 H1 g bs)⟩
    | _ => cases ev
theorem so_or {a c : Expr} {rest : List Expr} {ia ic : IE} {pos : Pos} (ha : PB k CR T X a ia) (h1 : PE X (.BoolOp .Or (c :: rest) pos) (tE k CR T ic)) (h2 : PW X (.BoolOp .Or (c :: rest) pos) (tT k CR T ic)) :
    PE X (.BoolOp .Or (a :: c :: rest) pos) (tE k CR T (.or_ ia ic)) ∧ PW X (.BoolOp .Or (a :: c :: rest) pos) (tT k CR T (.or_ ia ic)) := by
  constructor
  · refine PE.by fun σ H Q ⟨b, S, env, B, d, B', st, ev, q⟩ => ⟨_, pe_or ha.1 h1, ?_⟩
    obtain ⟨x, B1, e1, ev⟩ := bd_inv ev
    cases x with
    | bl i =>
      cases i with
      | false => exact tE1 st e1 fun v S1 H1 g bs r => ⟨false, r, itF (tE1 (st.mono g bs) ev fun w S2 H2 g2 bs2 r2 => q w S2 H2 (g.trans g2) bs2 r2)⟩
      | true =>
        cases ev
        exact tE1 st e1 fun v S1 H1 g bs r => ⟨true, r, itT ((Wn.mono q g).here bs rfl)⟩
    | _ => cases ev
  · refine PW.by fun σ H Q ⟨b, S, env, B, d, B', st, ev, q⟩ => ⟨_, pw_or ha.2 h2, ?_⟩
    obtain ⟨x, B1, e1, ev⟩ := bd_inv ev
    cases x with
    | bl i =>
      cases i with
      | false => exact ⟨b, S, env, B, false, B1, st, e1, fun S1 H1 g bs => itF (⟨b, S1, env, B1, d, B', st.mono g bs, ev, fun S2 H2 g2 bs2 => q S2 H2 (g.trans g2) bs2⟩)⟩
      | true =>
        cases ev
        exact ⟨b, S, env, B, true, _, st, e1, fun S1 H1 g bs => itT (q S1 H1 g bs)⟩
    | _ => cases ev
theorem so_ite {t a c : Expr} {it ia ic : IE} {pos : Pos} (ht : PB k CR T X t it) (ha : PB k CR T X a ia) (hc : PB k CR T X c ic) : PB k CR T X (.IfExp t a c pos) (.ite it ia ic) := by
  constructor
  · refine PE.by fun σ H Q ⟨b, S, env, B, d, B', st, ev, q⟩ => ⟨_, pe_ifExp ht.2 ha.1 hc.1, ?_⟩
    obtain ⟨x, B1, e1, ev⟩ := bd_inv ev
    cases x with
    | bl i =>
      refine ⟨b, S, env, B, i, B1, st, e1, fun S1 H1 g bs => ?_⟩
      cases i with
      | true => exact itT (tE1 (st.mono g bs) ev fun w S2 H2 g2 bs2 r2 => q w S2 H2 (g.trans g2) bs2 r2)
      | false => exact itF (tE1 (st.mono g bs) ev fun w S2 H2 g2 bs2 r2 => q w S2 H2 (g.trans g2) bs2 r2)
    | _ => cases ev
  · refine PT.by fun σ H Q ⟨b, S, env, B, d, B', st, ev, q⟩ => ⟨_, show PT X (.IfExp t a c pos) (fun σ H Q => tT k CR T it σ H fun c H1 => if c = true then tT k CR T ia σ H1 Q else tT k CR T ic σ H1 Q) from ⟨fun pins s σ H Q I h => ?_⟩, ?_⟩
    · show wpAny _ _ (do if ← isTrue t X.env (eval t X.env) then isTrue a X.env (eval a X.env) else isTrue c X.env (eval c X.env)) _ _ s
      refine wpAny_bind (thn (ht.2.run pins s σ H _ I h) fun v s1 ⟨H1, I1, q1⟩ => ?_)
      cases v with
      | true => exact ha.2.run pins s1 σ H1 Q I1 q1
      | false => exact hc.2.run pins s1 σ H1 Q I1 q1
    · obtain ⟨x, B1, e1, ev⟩ := bd_inv ev
      cases x with
      | bl i =>
        refine ⟨b, S, env, B, i, B1, st, e1, fun S1 H1 g bs => ?_⟩
        cases i with
        | true => exact itT (⟨b, S1, env, B1, d, B', st.mono g bs, ev, fun S2 H2 g2 bs2 => q S2 H2 (g.trans g2) bs2⟩)
        | false => exact itF (⟨b, S1, env, B1, d, B', st.mono g bs, ev, fun S2 H2 g2 bs2 => q S2 H2 (g.trans g2) bs2⟩)
      | _ => cases ev
/-! ### comparisons -/
theorem so_cmpR {a c : Expr} {ia ic ie : IE} {op : CmpOp} {pos : Pos} (ha : PE X a (tE k CR T ia)) (hc : PE X c (tE k CR T ic)) (hm : behindInMarks op c = false)
    (h : ∀ env B d B', evE k ie env B = some (d, B') → ∃ x B1 y z, evE k ia env B = some (x, B1) ∧ evE k ic env B1 = some (y, B') ∧ d = .bl z ∧ ∃ r, OpR X (compareOp op) r ∧ CpOk CR T r x y z) : PB k CR T X (.Compare a [op] [c] pos) ie := by
  constructor
  · refine PE.by fun σ H Q ⟨b, S, env, B, d, B', st, ev, q⟩ => ?_
    obtain ⟨x, B1, y, z, e1, e2, rfl, r, h1, h2⟩ := h env B d B' ev
    exact ⟨_, pe_cmpR h1 ha hc hm, so_cp st e1 e2 h2 q⟩
  · refine PT.by fun σ H Q ⟨b, S, env, B, d, B', st, ev, q⟩ => ?_
    obtain ⟨x, B1, y, z, e1, e2, e, r, h1, h2⟩ := h env B _ B' ev
    cases e
    refine ⟨_, pt_cmpR h1 ha hc hm, ?_⟩
    exact so_cp (Q := fun x H' => ∃ k, x = .bl k ∧ Q k H') st e1 e2 h2 fun v S' H' g bs r => ⟨d, r, q S' H' g bs⟩
theorem so_isN {a : Expr} {ia : IE} {j : Nat} {p pos : Pos} (ng : Bool) (ha : PE X a (tE k CR T ia)) (hm : behindInMarks (if ng = true then .IsNot else .Is) (.Constant .none j p) = false) : PB k CR T X (.Compare a [if ng = true then .IsNot else .Is] [.Constant .none j p] pos) (.isN ng ia) := by
  have dec : ∀ (d : D) (S : Hp) (b : Addr) (v : V), Rep CR b S d v → decide (v = V.non) = isNon d := fun d S b v r => by
    cases d with
    | non => cases r; rfl
    | bl _ => cases r; rfl
    | int _ => cases r; rfl
    | str _ => cases r; rfl
    | tup _ => obtain ⟨a, _, rfl, _⟩ := r; rfl
    | lst _ => obtain ⟨a, _, rfl, _⟩ := r; rfl
    | rtup _ => obtain ⟨a, _, _, rfl, _⟩ := r; rfl
    | ride _ _ => obtain ⟨a, _, _, _, _, rfl, _⟩ := r; rfl
    | bag => cases r; rfl
    | dct _ => obtain ⟨a, rfl, _⟩ := r; rfl
  have key : ∀ σ H Q, tE k CR T (.isN ng ia) σ H Q → tE k CR T ia σ H fun v H1 => Q (.bl (if ng = true then !decide (v = V.non) else decide (v = V.non))) H1 := fun σ H Q ⟨b, S, env, B, d, B', st, ev, q⟩ => by
    obtain ⟨x, B1, e1, ev⟩ := bd_inv ev
    cases ev
    refine tE1 st e1 fun v S1 H1 g bs r => ?_
    rw [dec x S1 b v r]
    exact (Wn.mono q g).here bs rfl
  cases ng with
  | true =>
    have pc := pc_notN (j := j) (pos' := p) ha
    refine ⟨PE.by fun σ H Q q => ⟨_, pe_cmp pc hm, key σ H Q q⟩, PT.by fun σ H Q q => ⟨_, pt_cmp pc hm, key σ H _ (tT_tE q)⟩⟩
  | false =>
    have pc := pc_isN (j := j) (pos' := p) ha
    refine ⟨PE.by fun σ H Q q => ⟨_, pe_cmp pc hm, key σ H Q q⟩, PT.by fun σ H Q q => ⟨_, pt_cmp pc hm, key σ H _ (tT_tE q)⟩⟩
end
end Cab
set_option Elab.async false
set_option linter.all false
set_option maxRecDepth 100000
set_option maxHeartbeats 2000000
/-! More single constructs: chains, displays, subscripts, calls, dicts. -/
namespace Cab
open PySem L2 LamX Evl CabR

theorem star1 {e : Expr} {es : List Expr} {env : PySem.Env} (h : isStar e = false) : starEach (e :: es) env = (false, eval e env) :: starEach es env := by
  cases e <;> first | rfl | cases h
theorem starN {env : PySem.Env} {pos : Pos} : ∀ {es : List Expr}, es.all (fun e => !isStar e) = true → (backTo pos (starEach es env)).any (·.1) = false
  | [], _ => rfl
  | e :: es, h => by
    rw [List.all_cons, Bool.and_eq_true] at h
    rw [star1 (by simpa using h.1)]
    show (false || (backTo pos (starEach es env)).any (·.1)) = false
    rw [Bool.false_or]
    exact starN h.2
section
variable {X : Cx} {k : Call} {CR : Addr} {T : List (Addr × Str)} {b : Addr} {S H : Hp} {σ : L2.St} {env : Env} {B B' B1 B2 B3 : Bg}
theorem opFalse {f : Value → Value → Sem Value} : OpR X f (fun _ _ _ _ => False) := fun _ _ _ _ _ _ _ _ _ _ _ _ h => h.elim
theorem so_in {a c : Expr} {ia ic : IE} {pos : Pos} (ng : Bool) (ha : PE X a (tE k CR T ia)) (hc : PE X c (tE k CR T ic)) (hm : behindInMarks (if ng = true then .NotIn else .In) c = false) : PB k CR T X (.Compare a [if ng = true then .NotIn else .In] [c] pos) (.inn ng ia ic) :=
  so_cmpR ha hc hm fun env B d B' ev => by
    obtain ⟨x, B1, e1, ev⟩ := bd_inv ev
    obtain ⟨y, B2, e2, ev⟩ := bd_inv ev
    obtain ⟨z, e3, ev⟩ := ob_inv ev
    cases ev
    refine ⟨x, B1, y, _, e1, e2, rfl, ?_⟩
    obtain ⟨r, h1, h2⟩ := in_ok (X := X) (CR := CR) (T := T) (ng := ng) e3
    refine ⟨r, h1, ?_⟩
    cases ng <;> exact h2
theorem so_cmp {a c : Expr} {ia ic : IE} {o : Cop} {pos : Pos} (hu : X.A.units + 64 < cLine) (ha : PE X a (tE k CR T ia)) (hc : PE X c (tE k CR T ic)) (hm : behindInMarks (cpOf o) c = false) : PB k CR T X (.Compare a [cpOf o] [c] pos) (.cmp o ia ic) :=
  so_cmpR ha hc hm fun env B d B' ev => by
    obtain ⟨x, B1, e1, ev⟩ := bd_inv ev
    obtain ⟨y, B2, e2, ev⟩ := bd_inv ev
    obtain ⟨z, e3, ev⟩ := ob_inv ev
    cases ev
    exact ⟨x, B1, y, z, e1, e2, rfl, opC_ok hu e3⟩
theorem so_chain {a c d : Expr} {ia ic id : IE} {o1 o2 : Cop} {pos : Pos} (hu : X.A.units + 64 < cLine) (ha : PE X a (tE k CR T ia)) (hc : PE X c (tE k CR T ic)) (hd : PE X d (tE k CR T id)) (hm : lastMarks [cpOf o1, cpOf o2] [c, d] = false) :
    PB k CR T X (.Compare a [cpOf o1, cpOf o2] [c, d] pos) (.ch o1 o2 ia ic id) := by
  have key : ∀ σ H Q, tE k CR T (.ch o1 o2 ia ic id) σ H Q → ∃ r r', OpR X (compareOp (cpOf o1)) r ∧ OpR X (compareOp (cpOf o2)) r' ∧ tChain r r' (tE k CR T ia) (tE k CR T ic) (tE k CR T id) σ H Q := fun σ H Q ⟨b, S, env, B, x, B', st, ev, q⟩ => by
    obtain ⟨x, B1, e1, ev⟩ := bd_inv ev
    obtain ⟨y, B2, e2, ev⟩ := bd_inv ev
    obtain ⟨z, e3, ev⟩ := ob_inv ev
    obtain ⟨r, h1, h2⟩ := opC_ok (X := X) (CR := CR) (T := T) hu e3
    cases z with
    | false =>
      cases ev
      exact ⟨r, _, h1, opFalse, tE2 st e1 e2 fun v w S2 H2 g bs r1 r2 => h2 b S2 H2 B' v w _ bs r1 r2 ⟨false, rfl, itF ((Wn.mono q g).here bs rfl)⟩⟩
    | true =>
      obtain ⟨w, B3, e4, ev⟩ := bd_inv ev
      obtain ⟨z2, e5, ev⟩ := ob_inv ev
      cases ev
      obtain ⟨r', h1', h2'⟩ := opC_ok (X := X) (CR := CR) (T := T) hu e5
      exact ⟨r, r', h1, h1', tE2 st e1 e2 fun v w S2 H2 g bs r1 r2 => h2 b S2 H2 B2 v w _ bs r1 r2 ⟨true, rfl, itT (tE1 (st.mono g bs) e4 fun u S3 H3 g3 bs3 r3 =>
        h2' b S3 H3 _ w u Q bs3 (Rep.mono g3.s _ r2) r3 ((Wn.mono q (g.trans g3)).here bs3 rfl))⟩⟩
  refine ⟨PE.by fun σ H Q q => ?_, PT.by fun σ H Q q => ?_⟩
  · obtain ⟨r, r', h1, h2, h3⟩ := key σ H Q q
    exact ⟨_, pe_chain h1 h2 ha hc hd hm, h3⟩
  · obtain ⟨r, r', h1, h2, h3⟩ := key σ H _ (tT_tE q)
    exact ⟨_, pt_chain h1 h2 ha hc hd hm, h3⟩
theorem so_chain3 {a c d e : Expr} {ia ic id ie : IE} {o1 o2 o3 : Cop} {pos : Pos} (hu : X.A.units + 64 < cLine) (ha : PE X a (tE k CR T ia)) (hc : PE X c (tE k CR T ic)) (hd : PE X d (tE k CR T id)) (he : PE X e (tE k CR T ie)) (hm : lastMarks [cpOf o1, cpOf o2, cpOf o3] [c, d, e] = false) :
    PB k CR T X (.Compare a [cpOf o1, cpOf o2, cpOf o3] [c, d, e] pos) (.ch3 o1 o2 o3 ia ic id ie) := by
  have key : ∀ σ H Q, tE k CR T (.ch3 o1 o2 o3 ia ic id ie) σ H Q → ∃ r r' r'', OpR X (compareOp (cpOf o1)) r ∧ OpR X (compareOp (cpOf o2)) r' ∧ OpR X (compareOp (cpOf o3)) r'' ∧ tChain3 r r' r'' (tE k CR T ia) (tE k CR T ic) (tE k CR T id) (tE k CR T ie) σ H Q := fun σ H Q ⟨b, S, env, B, x, B', st, ev, q⟩ => by
    obtain ⟨x, B1, e1, ev⟩ := bd_inv ev
    obtain ⟨y, B2, e2, ev⟩ := bd_inv ev
    obtain ⟨z, e3, ev⟩ := ob_inv ev
    obtain ⟨r, h1, h2⟩ := opC_ok (X := X) (CR := CR) (T := T) hu e3
    cases z with
    | false =>
      cases ev
      exact ⟨r, _, _, h1, opFalse, opFalse, tE2 st e1 e2 fun v w S2 H2 g bs r1 r2 => h2 b S2 H2 B' v w _ bs r1 r2 ⟨false, rfl, itF ((Wn.mono q g).here bs rfl)⟩⟩
    | true =>
      obtain ⟨w, B3, e4, ev⟩ := bd_inv ev
      obtain ⟨z2, e5, ev⟩ := ob_inv ev
      obtain ⟨r', h1', h2'⟩ := opC_ok (X := X) (CR := CR) (T := T) hu e5
      cases z2 with
      | false =>
        cases ev
        exact ⟨r, r', _, h1, h1', opFalse, tE2 st e1 e2 fun v w S2 H2 g bs r1 r2 => h2 b S2 H2 B2 v w _ bs r1 r2 ⟨true, rfl, itT (tE1 (st.mono g bs) e4 fun u S3 H3 g3 bs3 r3 =>
          h2' b S3 H3 _ w u _ bs3 (Rep.mono g3.s _ r2) r3 ⟨false, rfl, itF ((Wn.mono q (g.trans g3)).here bs3 rfl)⟩)⟩⟩
      | true =>
        obtain ⟨u', B4, e6, ev⟩ := bd_inv ev
        obtain ⟨z3, e7, ev⟩ := ob_inv ev
        cases ev
        obtain ⟨r'', h1'', h2''⟩ := opC_ok (X := X) (CR := CR) (T := T) hu e7
        exact ⟨r, r', r'', h1, h1', h1'', tE2 st e1 e2 fun v w S2 H2 g bs r1 r2 => h2 b S2 H2 B2 v w _ bs r1 r2 ⟨true, rfl, itT (tE1 (st.mono g bs) e4 fun u S3 H3 g3 bs3 r3 =>
          h2' b S3 H3 _ w u _ bs3 (Rep.mono g3.s _ r2) r3 ⟨true, rfl, itT (tE1 (st.mono (g.trans g3) bs3) e6 fun u4 S4 H4 g4 bs4 r4 =>
            h2'' b S4 H4 _ u u4 Q bs4 (Rep.mono g4.s _ r3) r4 ((Wn.mono q ((g.trans g3).trans g4)).here bs4 rfl))⟩)⟩⟩
  refine ⟨PE.by fun σ H Q q => ?_, PT.by fun σ H Q q => ?_⟩
  · obtain ⟨r, r', r'', h1, h2, h3, h4⟩ := key σ H Q q
    exact ⟨_, pe_chain3 h1 h2 h3 ha hc hd he hm, h4⟩
  · obtain ⟨r, r', r'', h1, h2, h3, h4⟩ := key σ H _ (tT_tE q)
    exact ⟨_, pt_chain3 h1 h2 h3 ha hc hd he hm, h4⟩
/-! ### lists of expressions, displays -/
theorem so_nil : PA X [] (tA k CR T .enil) := PA.by fun σ H Q ⟨b, S, env, B, ds, B', st, ev, q⟩ => ⟨_, pa_nil, by
  cases ev
  exact q [] S H (Gr.refl b S H) st.bas rfl⟩
theorem so_cons {e : Expr} {es : List Expr} {ie is : IE} (hs : isStar e = false) (he : PE X e (tE k CR T ie)) (h : PA X es (tA k CR T is)) : PA X (e :: es) (tA k CR T (.econs ie is)) :=
  PA.by fun σ H Q ⟨b, S, env, B, ds, B', st, ev, q⟩ => ⟨_, pa_cons he h (star1 hs), by
    obtain ⟨x, B1, e1, ev⟩ := bd_inv ev
    obtain ⟨ys, B2, e2, ev⟩ := bd_inv ev
    cases ev
    exact tE1 st e1 fun v S1 H1 g bs r => ⟨b, S1, env, B1, ys, B', st.mono g bs, e2, fun vs S2 H2 g2 bs2 r2 => q (v :: vs) S2 H2 (g.trans g2) bs2 ⟨v, vs, rfl, Rep.mono g2.s x r, r2⟩⟩⟩
theorem so_tup {es : List Expr} {is : IE} {j : Nat} {pos : Pos} (h : PA X es (tA k CR T is)) : PE X (.Tuple es j pos) (tE k CR T (.tup is)) := by
  refine PE.by fun σ H Q ⟨b, S, env, B, d, B', st, ev, q⟩ => ⟨_, pe_tup h, ?_⟩
  obtain ⟨ys, B2, e2, ev⟩ := bd_inv ev
  split at ev
  · cases ev
    rename_i hl
    have hs := sline
    exact ⟨b, S, env, B, ys, _, st, e2, fun vs S2 H2 g2 bs2 r2 => ⟨by rw [← Reps.length r2]; omega, (Wn.mono q g2).tup bs2 r2⟩⟩
  · cases ev
theorem sf_lst {es : List Expr} {is : IE} {pos : Pos} (h : PA X es (tA k CR T is)) : PE X (.List es pos) (tF k CR T (.lst is)) := by
  refine PE.by fun σ H Q ⟨b, S, env, B, xs, B', st, ev, q⟩ => ⟨_, pe_lst h, ?_⟩
  obtain ⟨ys, B2, e2, ev⟩ := bd_inv ev
  split at ev
  · cases ev
    rename_i hl
    have hs := sline
    exact ⟨b, S, env, B, _, _, st, e2, fun vs S2 H2 g2 bs2 r2 => ⟨by rw [← Reps.length r2]; omega, fun p hp => q p vs S2 _ (g2.trans (Gr.newH hp)) (bs2.newH hp) (bs2.noneS hp) (bs2.neB hp) (g2.nn hp) (upd_same ..) r2⟩⟩
  · cases ev
theorem so_lst {es : List Expr} {is : IE} {pos : Pos} (h : PA X es (tA k CR T is)) : PE X (.List es pos) (tE k CR T (.lst is)) := tE_of_tF (fun env B d B' ev => by
  obtain ⟨ys, B2, e2, ev⟩ := bd_inv ev
  split at ev
  · cases ev; exact ⟨_, rfl⟩
  · cases ev) (sf_lst h)
/-- [..] * e -/
theorem sf_rep {a : Expr} {ia ic : IE} {c : Expr} {pos : Pos} (ha : PE X a (tE k CR T ia)) (hl : ∀ env B d B', evE k ia env B = some (d, B') → ∃ xs, d = .lst xs) (hc : PE X c (tE k CR T ic)) : PE X (.BinOp a .Mult c pos) (tF k CR T (.bin .mul ia ic)) := by
  refine PE.by fun σ H Q ⟨b, S, env, B, xs, B', st, ev, q⟩ => ⟨_, pe_op op_rep ha hc, ?_⟩
  obtain ⟨x, B1, e1, ev⟩ := bd_inv ev
  obtain ⟨y, B2, e2, ev⟩ := bd_inv ev
  obtain ⟨z, e3, ev⟩ := ob_inv ev
  cases ev
  have hx : ∃ ys, x = .lst ys := hl _ _ _ _ e1
  obtain ⟨ys, rfl⟩ := hx
  cases y with
  | int i =>
    have e3 : (if 0 ≤ i ∧ i ≤ 1000 ∧ ys.length ≤ 1000 then some (D.lst (List.replicate i.toNat ys).flatten) else none) = some (.lst xs) := e3
    split at e3
    · cases e3
      rename_i hl
      refine tE2 st e1 e2 ?_
      rintro v _ S2 H2 g2 bs2 ⟨p, us, rfl, k1, r1⟩ rfl
      have l1 := Reps.length r1
      have hs := sizeLine_eq
      have hz : us.length * i.toNat ≤ 1000 * 1000 := Nat.mul_le_mul (by omega) (by omega)
      exact ⟨p, i, us, rfl, rfl, bs2.sub _ _ k1, by omega, by omega, by omega, fun p hp => q p _ S2 _ (g2.trans (Gr.newH hp)) (bs2.newH hp) (bs2.noneS hp) (bs2.neB hp) (g2.nn hp) (upd_same ..) (r1.flat _)⟩
    · cases e3
  | _ => cases e3
/-! ### subscripts -/
theorem plainIx_of {c : Expr} (h : plainIxB c = true) : PlainIx c := fun o i => by
  cases c <;> first | rfl | cases h
theorem so_ix {a c : Expr} {ia ic : IE} {pos : Pos} (hp : plainIxB c = true) (ha : PE X a (tE k CR T ia)) (hc : PE X c (tE k CR T ic)) : PE X (.Subscript a c pos) (tE k CR T (.ix ia ic)) := by
  refine PE.by fun σ H Q ⟨b, S, env, B, d, B', st, ev, q⟩ => ?_
  obtain ⟨x, B1, e1, ev⟩ := bd_inv ev
  obtain ⟨y, B2, e2, ev⟩ := bd_inv ev
  obtain ⟨z, e3, ev⟩ := ob_inv ev
  cases ev
  obtain ⟨r, h1, h2⟩ := ix_ok (X := X) (CR := CR) (T := T) e3
  exact ⟨_, pe_ix h1 ha hc (plainIx_of hp), so_op st e1 e2 h2 q⟩
theorem own_at {i : Nat} {xs : List D} (st : Stt CR T b S H σ env B) (e : getO env i = some xs) : ∃ p vs, σ[i]? = some (some (.ref p)) ∧ S p = none ∧ p ≠ b ∧ H p = some (.lst vs) ∧ Reps CR b S xs vs := by
  unfold getO at e
  split at e
  · rename_i ys he
    cases e
    exact st.own i _ he
  · cases e
theorem so_ownIx {c : Expr} {ic : IE} {i : Nat} {x : Str} {p pos : Pos} (hN : X.N[i]? = some x) (hv : Vis X.env.scope x) (hd : (x == ("__debug__" : Str)) = false) (hcd : (x == ("__classdict__" : Str)) = false) (hp : plainIxB c = true) (hc : PE X c (tE k CR T ic)) :
    PE X (.Subscript (.Name x p) c pos) (tE k CR T (.ownIx i ic)) := by
  refine PE.by fun σ H Q ⟨b, S, env, B, d, B', st, ev, q⟩ => ⟨_, pe_ix ix_list (pe_var hN hv hd hcd) hc (plainIx_of hp), ?_⟩
  obtain ⟨y, B1, e1, ev⟩ := bd_inv ev
  obtain ⟨xs, e2, ev⟩ := ob_inv ev
  obtain ⟨z, e3, ev⟩ := ob_inv ev
  cases ev
  obtain ⟨a, vs, h1, h2, h3, h4, h5⟩ := own_at st e2
  refine ⟨.ref a, h1, tE1 st e1 fun w S1 H1 g bs r => ?_⟩
  cases y with
  | int j =>
    cases r
    obtain ⟨u, k1, k2⟩ := atI_rep (Reps.mono g.s xs h5) (show atI xs j = some d from e3)
    exact ⟨a, vs, j, u, rfl, rfl, .inl (.inl (g.h a _ h4 h3 (fun ps z => by cases z))), k1, (Wn.mono q g).here bs k2⟩
  | _ => cases e3
theorem so_ownCat {c : Expr} {ic : IE} {i : Nat} {x : Str} {p pos : Pos} (hN : X.N[i]? = some x) (hv : Vis X.env.scope x) (hd : (x == ("__debug__" : Str)) = false) (hcd : (x == ("__classdict__" : Str)) = false) (hc : PE X c (tE k CR T ic)) :
    PE X (.BinOp (.Name x p) .Add c pos) (tE k CR T (.ownCat i ic)) := by
  refine PE.by fun σ H Q ⟨b, S, env, B, d, B', st, ev, q⟩ => ⟨_, pe_op op_cat (pe_var hN hv hd hcd) hc, ?_⟩
  obtain ⟨y, B1, e1, ev⟩ := bd_inv ev
  obtain ⟨xs, e2, ev⟩ := ob_inv ev
  obtain ⟨z, e3, ev⟩ := ob_inv ev
  cases ev
  obtain ⟨a, vs, h1, h2, h3, h4, h5⟩ := own_at st e2
  refine ⟨.ref a, h1, tE1 st e1 fun w S1 H1 g bs r => ?_⟩
  cases y with
  | lst ys =>
    have e3 : (if xs.length + ys.length ≤ 1000 then some (D.lst (xs ++ ys)) else none) = some d := e3
    split at e3
    · cases e3
      rename_i hl
      obtain ⟨a2, ws, rfl, k1, k2⟩ := r
      have l1 := Reps.length h5
      have l2 := Reps.length k2
      have hs := sline
      exact ⟨a, a2, vs, ws, rfl, rfl, g.h a _ h4 h3 (fun ps z => by cases z), bs.sub _ _ k1, by omega, (Wn.mono q g).lst bs ((Reps.mono g.s xs h5).append k2)⟩
    · cases e3
  | _ => cases e3
/-! ### slices -/
def tO (k : Call) (CR : Addr) (T : List (Addr × Str)) (ie : IE) : TO := fun σ H Q => ∃ (b : Addr) (S : Hp) (env : Env) (B : Bg) (d : D) (o : Option Int) (B' : Bg), Stt CR T b S H σ env B ∧ evE k ie env B = some (d, B') ∧ bndOf d = some o ∧ ∀ S' H', Gr b S H S' H' → Bas T b S' H' B' → Q o H'
theorem PO.by {X : Cx} {e : Option Expr} {t : TO} (h : ∀ σ H Q, t σ H Q → ∃ t', PO X e t' ∧ t' σ H Q) : PO X e t :=
  ⟨fun pins s σ H Q I q => by obtain ⟨t', p, q'⟩ := h σ H Q q; exact p.run pins s σ H Q I q'⟩
theorem so_none : PO X none (tO k CR T .nop) := PO.by fun σ H Q ⟨b, S, env, B, d, o, B', st, ev, e, q⟩ => ⟨_, po_none, by
  cases ev
  cases e
  exact q S H (Gr.refl b S H) st.bas⟩
theorem so_some {e : Expr} {ie : IE} (h : PE X e (tE k CR T ie)) : PO X (some e) (tO k CR T (.si ie)) := PO.by fun σ H Q ⟨b, S, env, B, d, o, B', st, ev, e, q⟩ => ⟨_, po_some h, by
  obtain ⟨x, B1, e1, ev⟩ := bd_inv ev
  cases x with
  | int i =>
    cases ev
    cases e
    exact tE1 st e1 fun v S1 H1 g bs r => ⟨i, r, q S1 H1 g bs⟩
  | _ => cases ev⟩
theorem so_sl {a : Expr} {lo hi : Option Expr} {ia il ih : IE} {p pos : Pos} (ha : PE X a (tE k CR T ia)) (hl : PO X lo (tO k CR T il)) (hh : PO X hi (tO k CR T ih)) : PE X (.Subscript a (.Slice lo hi none p) pos) (tE k CR T (.sl ia il ih)) := by
  refine PE.by fun σ H Q ⟨b, S, env, B, d, B', st, ev, q⟩ => ?_
  obtain ⟨x, B1, e1, ev⟩ := bd_inv ev
  obtain ⟨l, B2, e2, ev⟩ := bd_inv ev
  obtain ⟨u, B3, e3, ev⟩ := bd_inv ev
  obtain ⟨z, e4, ev⟩ := ob_inv ev
  cases ev
  unfold slD at e4
  obtain ⟨lo', e5, e4⟩ := ob_inv e4
  obtain ⟨hi', e6, e4⟩ := ob_inv e4
  obtain ⟨r, h1, h2⟩ := sl_ok (X := X) (CR := CR) (T := T) e4
  refine ⟨_, pe_slice h1 ha hl hh, tE1 st e1 fun v S1 H1 g bs r1 => ⟨b, S1, env, B1, l, lo', B2, st.mono g bs, e2, e5, fun S2 H2 g2 bs2 => ⟨b, S2, env, B2, u, hi', _, (st.mono g bs).mono g2 bs2, e3, e6, fun S3 H3 g3 bs3 => ?_⟩⟩⟩
  exact h2 b S3 H3 _ v Q bs3 (Rep.mono (g2.trans g3).s x r1) (Wn.mono q ((g.trans g2).trans g3))
end
end Cab
set_option Elab.async false
set_option linter.all false
set_option maxRecDepth 100000
set_option maxHeartbeats 2000000
/-! Calls, fields, dicts, what is walked. -/
namespace Cab
open PySem L2 LamX Evl CabR

section
variable {X : Cx} {G : GW} {k : Call} {CR : Addr} {T : List (Addr × Str)} {r : Nat} {b : Addr} {S H : Hp} {σ : L2.St} {env : Env} {B B' B1 B2 B3 : Bg}
/-- a built-in function or class, called -/
theorem so_bi (W : WF gu G k CR T r X.prog X.w X.K X.mg X.base) (hc : X.calm = true) (hr : Room (r + 1) X.A) {f : Bi} {e : Expr} {es : List Expr} {is : IE} {p pos : Pos} (hg : Gl X (biNm f)) (hs : (e :: es).all (fun e => !isStar e) = true) (ha : PA X (e :: es) (tA k CR T is)) :
    PE X (.Call (.Name (biNm f) p) (e :: es) [] pos) (tE k CR T (.bi f is)) := by
  have hm : X.mg (biNm f) = none := W.blt _ (by cases f <;> decide)
  refine PE.by fun σ H Q ⟨b, S, env, B, d, B', st, ev, q⟩ => ?_
  obtain ⟨ds, B1, e1, ev⟩ := bd_inv ev
  obtain ⟨z, e2, ev⟩ := ob_inv ev
  cases ev
  obtain ⟨rr, h1, h2⟩ := bi_ok (X := X) (CR := CR) (T := T) hc ⟨W.len⟩ hr e2
  have rd : tCB rr (tA k CR T is) σ H Q := ⟨b, S, env, B, ds, _, st, e1, fun vs S1 H1 g bs r1 => h2 b S1 H1 _ vs Q bs r1 (Wn.mono q g)⟩
  rw [List.all_cons, Bool.and_eq_true] at hs
  have a1 : starEach (e :: es) X.env = (false, eval e X.env) :: starEach es X.env := star1 (by simpa using hs.1)
  have a2 : (backTo pos (starEach es X.env)).any (·.1) = false := starN hs.2
  cases f <;> first
    | exact ⟨_, pe_callB h1 hg hm (by decide +kernel) ha (by decide) (by decide) a1 a2, rd⟩
    | exact ⟨_, pe_callTy h1 hg hm (by decide +kernel) ha (by decide) (by decide) a1 a2, rd⟩
/-! ### isinstance -/
def tyNm : Ty → Str
  | .int => "int" | .bool => "bool" | .tuple => "tuple" | .str => "str" | .ride => "Ride"
theorem tyOf_eq {t : Str} {U : Ty} (h : tyOf t = some U) : t = tyNm U := by
  unfold tyOf at h
  repeat (split at h; · cases h; assumption)
  cases h
theorem isi_ok (W : WF gu G k CR T r X.prog X.w X.K X.mg X.base) {U : Ty} {d : D} {z : Bool} (hg : Gl X (tyNm U)) (h : isiD U d = some z) {pt : Pos} : ∃ c u, PE X (.Name (tyNm U) pt) (tC c) ∧ ClsV c u ∧ ∀ (b : Addr) (S H : Hp) (B : Bg) (v : V), Bas T b S H B → Rep CR b S d v → ∃ t, TyX X.K H v t ∧ PySem.W.kitOne X.K t u = some z := by
  have bt : ∀ (n : String) (w : Str), w = Str.ofString n → w ∈ blts → Gl X w → bootBuiltins w = some (.type n) → w ≠ "__name__" → (w == ("__debug__" : Str)) = false → PE X (.Name w pt) (tC (.ty n)) := fun n w _ h1 h2 h3 h4 h5 => pe_bltn h2 (W.blt _ h1) h3 rfl h4 h5
  cases U with
  | ride =>
    refine ⟨.ref CR, .ref CR, pe_glob hg W.rcls rfl (by decide), .own CR, fun b S H B v bs rv => ?_⟩
    cases d with
    | ride c rd =>
      cases h
      obtain ⟨a, dx, vc, vr, vt, rfl, h1, _⟩ := rv
      exact ⟨_, .base (.ins (bs.sub _ _ h1) W.cls W.ia W.ib W.ic W.id), W.irr⟩
    | non => cases h; cases rv; exact ⟨_, .base .non, W.inr⟩
    | _ => cases h
  | int =>
    refine ⟨.ty "int", .type "int", bt "int" _ rfl (by decide) hg (by decide +kernel) (by decide) (by decide), .ty _, fun b S H B v bs rv => ?_⟩
    cases d with
    | non => cases h; cases rv; exact ⟨_, .base .non, kit_ty (by decide +kernel)⟩
    | bl x => cases h; cases rv; exact ⟨_, .base (.bl x), kit_ty (by decide +kernel)⟩
    | int x => cases h; cases rv; exact ⟨_, .base (.int x), kit_ty (by decide +kernel)⟩
    | str x => cases h; cases rv; exact ⟨_, .base (.str x), kit_ty (by decide +kernel)⟩
    | tup x => cases h; obtain ⟨a, vs, rfl, h1, _⟩ := rv; exact ⟨_, .base (.tup (bs.sub _ _ h1)), kit_ty (by decide +kernel)⟩
    | _ => cases h
  | bool =>
    refine ⟨.ty "bool", .type "bool", bt "bool" _ rfl (by decide) hg (by decide +kernel) (by decide) (by decide), .ty _, fun b S H B v bs rv => ?_⟩
    cases d with
    | non => cases h; cases rv; exact ⟨_, .base .non, kit_ty (by decide +kernel)⟩
    | bl x => cases h; cases rv; exact ⟨_, .base (.bl x), kit_ty (by decide +kernel)⟩
    | int x => cases h; cases rv; exact ⟨_, .base (.int x), kit_ty (by decide +kernel)⟩
    | str x => cases h; cases rv; exact ⟨_, .base (.str x), kit_ty (by decide +kernel)⟩
    | tup x => cases h; obtain ⟨a, vs, rfl, h1, _⟩ := rv; exact ⟨_, .base (.tup (bs.sub _ _ h1)), kit_ty (by decide +kernel)⟩
    | _ => cases h
  | tuple =>
    refine ⟨.ty "tuple", .type "tuple", bt "tuple" _ rfl (by decide) hg (by decide +kernel) (by decide) (by decide), .ty _, fun b S H B v bs rv => ?_⟩
    cases d with
    | non => cases h; cases rv; exact ⟨_, .base .non, kit_ty (by decide +kernel)⟩
    | bl x => cases h; cases rv; exact ⟨_, .base (.bl x), kit_ty (by decide +kernel)⟩
    | int x => cases h; cases rv; exact ⟨_, .base (.int x), kit_ty (by decide +kernel)⟩
    | str x => cases h; cases rv; exact ⟨_, .base (.str x), kit_ty (by decide +kernel)⟩
    | tup x => cases h; obtain ⟨a, vs, rfl, h1, _⟩ := rv; exact ⟨_, .base (.tup (bs.sub _ _ h1)), kit_ty (by decide +kernel)⟩
    | _ => cases h
  | str =>
    refine ⟨.ty "str", .type "str", bt "str" _ rfl (by decide) hg (by decide +kernel) (by decide) (by decide), .ty _, fun b S H B v bs rv => ?_⟩
    cases d with
    | non => cases h; cases rv; exact ⟨_, .base .non, kit_ty (by decide +kernel)⟩
    | bl x => cases h; cases rv; exact ⟨_, .base (.bl x), kit_ty (by decide +kernel)⟩
    | int x => cases h; cases rv; exact ⟨_, .base (.int x), kit_ty (by decide +kernel)⟩
    | str x => cases h; cases rv; exact ⟨_, .base (.str x), kit_ty (by decide +kernel)⟩
    | tup x => cases h; obtain ⟨a, vs, rfl, h1, _⟩ := rv; exact ⟨_, .base (.tup (bs.sub _ _ h1)), kit_ty (by decide +kernel)⟩
    | _ => cases h
theorem isStar_ok {e : Expr} {ie : IE} {n : Nat} {C : CC} (h : cE G n C e = some ie) : isStar e = false := by
  cases n with
  | zero => cases h
  | succ n => cases e <;> first | rfl | cases h
theorem so_isi (W : WF gu G k CR T r X.prog X.w X.K X.mg X.base) {a : Expr} {ia : IE} {U : Ty} {p pt pos : Pos} (hs : isStar a = false) (hg : Gl X "isinstance") (hg2 : Gl X (tyNm U)) (ha : PE X a (tE k CR T ia)) :
    PE X (.Call (.Name "isinstance" p) [a, .Name (tyNm U) pt] [] pos) (tE k CR T (.isi ia U)) := by
  refine PE.by fun σ H Q ⟨b, S, env, B, d, B', st, ev, q⟩ => ?_
  obtain ⟨x, B1, e1, ev⟩ := bd_inv ev
  obtain ⟨z, e2, ev⟩ := ob_inv ev
  cases ev
  obtain ⟨c, u, h1, h2, h3⟩ := isi_ok W hg2 e2 (pt := pt)
  refine ⟨_, pe_callB call_isi hg (W.blt _ (by decide)) (by decide +kernel) (pa_cons ha (pa_cons h1 pa_nil rfl) (star1 hs)) (by decide) (by decide) (star1 hs) rfl, ?_⟩
  refine tE1 st e1 fun v S1 H1 g bs rv => ?_
  obtain ⟨t, k1, k2⟩ := h3 b S1 H1 _ v bs rv
  exact ⟨v, c, t, u, z, rfl, h2, k1, k2, (Wn.mono q g).here bs rfl⟩
/-! ### a def, called -/
theorem so_call (W : WF gu G k CR T r X.prog X.w X.K X.mg X.base) (gd : gu = true → X.A.guards = some []) (hr : Room r X.A) {f : Str} {m : Nat} (hf : G.fns f = some m) {e : Expr} {es : List Expr} {is : IE} {p pos : Pos} (hg : Gl X f) (hs : (e :: es).all (fun e => !isStar e) = true) (hl : ∀ env B ds B', evEs k is env B = some (ds, B') → ds.length = m) (ha : PA X (e :: es) (tA k CR T is)) :
    PE X (.Call (.Name f p) (e :: es) [] pos) (tE k CR T (.call f is)) := by
  obtain ⟨a, fd, ps, h1, h2, h3, h4, F⟩ := W.fns f m hf
  rw [List.all_cons, Bool.and_eq_true] at hs
  have a1 : starEach (e :: es) X.env = (false, eval e X.env) :: starEach es X.env := star1 (by simpa using hs.1)
  refine PE.by fun σ H Q ⟨b, S, env, B, d, B', st, ev, q⟩ => ⟨_, pe_callG F gd hr hg h1 h2 h4 .nil pass0 ha (W.fdb f m hf) a1 (starN hs.2), ?_⟩
  obtain ⟨ds, B1, e1, ev⟩ := bd_inv ev
  refine ⟨b, S, env, B, ds, B1, st, e1, fun vs S1 H1 g bs r1 => ?_⟩
  show spC k CR T f m (vs ++ []) H1 Q E0
  rw [List.append_nil]
  exact ⟨b, S1, B1, ds, d, B', hl _ _ _ _ e1, bs, r1, ev, fun v S2 H2 g2 bs2 r2 => q v S2 H2 (g.trans g2) bs2 r2⟩
theorem so_call0 (W : WF gu G k CR T r X.prog X.w X.K X.mg X.base) (gd : gu = true → X.A.guards = some []) (hr : Room r X.A) {f : Str} (hf : G.fns f = some 0) {p pos : Pos} (hg : Gl X f) : PE X (.Call (.Name f p) [] [] pos) (tE k CR T (.call f .enil)) := by
  obtain ⟨a, fd, ps, h1, h2, h3, h4, F⟩ := W.fns f 0 hf
  refine PE.by fun σ H Q ⟨b, S, env, B, d, B', st, ev, q⟩ => ⟨_, pe_callG0 F gd hr hg h1 h2 h4 .nil pass0 (W.fdb f 0 hf), ?_⟩
  obtain ⟨ds, B1, e1, ev⟩ := bd_inv ev
  cases e1
  exact ⟨b, S, B, [], d, B', rfl, st.bas, rfl, ev, q⟩
/-! ### fields -/
def flNm : Fl → Str
  | .costs => "costs" | .riders => "riders"
theorem flOf_eq {t : Str} {U : Fl} (h : flOf t = some U) : t = flNm U := by
  unfold flOf at h
  repeat (split at h; · cases h; assumption)
  cases h
theorem so_fld (W : WF gu G k CR T r X.prog X.w X.K X.mg X.base) {f : Fl} {o : Str} {p pos : Pos} {io : IE} (ho : PE X (.Name o p) (tE k CR T io)) : PE X (.Attribute (.Name o p) (flNm f) pos) (tE k CR T (.fld io f)) := by
  refine PE.by fun σ H Q ⟨b, S, env, B, d, B', st, ev, q⟩ => ⟨_, pe_fld ho rfl, ?_⟩
  obtain ⟨x, B1, e1, ev⟩ := bd_inv ev
  obtain ⟨z, e2, ev⟩ := ob_inv ev
  cases ev
  refine tE1 st e1 fun v S1 H1 g bs rv => ?_
  cases x with
  | ride c rd =>
    obtain ⟨a, dx, vc, vr, vt, rfl, h1, h2, h3⟩ := rv
    cases f with
    | costs => cases e2; exact ⟨a, CR, dx, _, vc, rfl, bs.sub _ _ h1, W.cls, W.fc, rfl, (Wn.mono q g).here bs h2⟩
    | riders => cases e2; exact ⟨a, CR, dx, _, vr, rfl, bs.sub _ _ h1, W.cls, W.fr, rfl, (Wn.mono q g).here bs h3⟩
  | _ => cases f <;> cases e2
/-! ### index -/
theorem idxI_eq {j : Int} : ∀ {ns : List Int} {m : Nat}, idxI j ns = some m → j ∈ ns ∧ ns.idxOf j = m
  | [], _, h => by cases h
  | a :: ns, m, h => by
    unfold idxI at h
    split at h
    · rename_i e
      cases h
      subst e
      exact ⟨List.mem_cons_self, by simp⟩
    · rename_i e
      obtain ⟨m', h1, h2⟩ := ob_inv h
      cases h2
      obtain ⟨q1, q2⟩ := idxI_eq h1
      refine ⟨List.mem_cons_of_mem _ q1, ?_⟩
      have e' : (a == j) = false := by simpa using e
      rw [List.idxOf_cons, e', q2]
      rfl
theorem few1 {a : Expr} {env : PySem.Env} {cpos : Pos} (hs : isStar a = false) : ((backTo cpos (starEach [a] env)).all (fun x => !x.1) && (backToKw cpos (keywordEach [] env)).all (fun x => x.1.isSome)
      && decide ([a].length + ([] : List Keyword).length + (if ([] : List Keyword).isEmpty then 0 else 1) < 30)) = true := by rw [star1 hs]; rfl
theorem so_mIx {a : Expr} {ia io : IE} {o : Str} {op apos cpos : Pos} (hs : isStar a = false) (hline : (apos.endLine == cpos.line) = true) (ho : PE X (.Name o op) (tE k CR T io)) (ha : PE X a (tE k CR T ia)) :
    PE X (.Call (.Attribute (.Name o op) "index" apos) [a] [] cpos) (tE k CR T (.mIx io ia)) := by
  refine PE.by fun σ H Q ⟨b, S, env, B, d, B', st, ev, q⟩ => ?_
  obtain ⟨x, B1, e1, ev⟩ := bd_inv ev
  obtain ⟨y, B2, e2, ev⟩ := bd_inv ev
  obtain ⟨z, e3, ev⟩ := ob_inv ev
  cases ev
  unfold idxD at e3
  obtain ⟨xs, e4, e3⟩ := ob_inv e3
  obtain ⟨ns, e5, e3⟩ := ob_inv e3
  cases y with
  | int j =>
    obtain ⟨m, e6, e3⟩ := ob_inv e3
    cases e3
    obtain ⟨k1, k2⟩ := idxI_eq e6
    have pa : PA X [a] (tCons (tE k CR T ia) tNil) := pa_cons ha pa_nil (star1 hs)
    cases x with
    | lst ys =>
      cases e4
      refine ⟨_, pe_bm PySem.F.plainAttrs_list PySem.F.slot_list_index PySem.F.type_list_index mt_idxL ho pa rfl (few1 hs) hline (star1 hs) rfl, ?_⟩
      refine tE1 st e1 ?_
      rintro v S1 H1 g bs ⟨p, vs, rfl, h1, h2⟩
      refine ⟨.inl ⟨rfl, vs, bs.sqL h1⟩, tE1 (st.mono g bs) e2 ?_⟩
      rintro v S2 H2 g2 bs2 rfl
      refine ⟨p, ns, j, rfl, rfl, ?_, k1, (Wn.mono q (g.trans g2)).here bs2 (by rw [k2]; rfl)⟩
      rw [← ints_rep e5 h2]
      exact bs2.sqL (g2.s _ _ h1)
    | rtup ys =>
      cases e4
      refine ⟨_, pe_bmT PySem.F.plainAttrs_tuple PySem.F.slot_tuple_index PySem.F.type_tuple_index mt_idxT ho pa rfl (few1 hs) hline (star1 hs) rfl, ?_⟩
      refine tE1 st e1 ?_
      rintro v S1 H1 g bs ⟨p, ob, vs, rfl, h1, h0, h2⟩
      refine ⟨⟨p, ob, vs, rfl, bs.sub _ _ h1, h0⟩, tE1 (st.mono g bs) e2 ?_⟩
      rintro v S2 H2 g2 bs2 rfl
      refine ⟨p, ns, j, rfl, rfl, ?_, k1, (Wn.mono q (g.trans g2)).here bs2 (by rw [k2]; rfl)⟩
      rw [← ints_rep e5 h2]
      exact .inl (.inr ⟨ob, bs2.sub _ _ (g2.s _ _ h1)⟩)
    | _ => cases e4
  | _ => cases e3
/-! ### the module's dicts and tuples -/
theorem so_inG (W : WF gu G k CR T r X.prog X.w X.K X.mg X.base) {a : Expr} {ia : IE} {g : Str} {kvs : List (Str × Int)} {p pos : Pos} (hg : Gl X g) (hd : (g == ("__debug__" : Str)) = false) (hk : G.gdic g = some kvs) (ha : PE X a (tE k CR T ia)) :
    PB k CR T X (.Compare a [.NotIn] [.Name g p] pos) (.inG true ia g kvs) := by
  obtain ⟨d, es, n, h1, K1, h3⟩ := W.gdic g kvs hk
  have key : ∀ σ H Q, tE k CR T (.inG true ia g kvs) σ H Q → tOp (fun x y H Q => ∃ (z : Str) (r : Option Value), x = .str z ∧ y = .ref d ∧ PySem.W.nsIn X.K d z = some r ∧ Q (.bl (!r.isSome)) H) (tE k CR T ia) (tC (.ref d)) σ H Q := fun σ H Q ⟨b, S, env, B, x, B', st, ev, q⟩ => by
    obtain ⟨x, B1, e1, ev⟩ := bd_inv ev
    cases x with
    | str z =>
      cases ev
      refine tE1 st e1 ?_
      rintro v S1 H1 g bs rfl
      cases e : lkD kvs z with
      | none =>
        refine ⟨z, none, rfl, rfl, (h3 z).2 e, (Wn.mono q g).here bs ?_⟩
        rw [e]; rfl
      | some i =>
        obtain ⟨t, h4⟩ := (h3 z).1 i e
        refine ⟨z, _, rfl, rfl, h4, (Wn.mono q g).here bs ?_⟩
        rw [e]; rfl
    | _ => cases ev
  refine ⟨PE.by fun σ H Q q => ⟨_, pe_cmpR (op_notIn_kd K1) ha (pe_glob (v := V.ref d) hg h1 rfl hd) rfl, key σ H Q q⟩, PT.by fun σ H Q q => ⟨_, pt_cmpR (op_notIn_kd K1) ha (pe_glob (v := V.ref d) hg h1 rfl hd) rfl, key σ H _ (tT_tE q)⟩⟩
theorem inV_strs {s : Str} : ∀ ws : List Str, inV (.str s) (ws.map V.str) = ws.any (· == s)
  | [] => rfl
  | w :: ws => by
    have ih := inV_strs (s := s) ws
    unfold inV at ih ⊢
    rw [List.map_cons, List.any_cons, List.any_cons, ih]
    rfl
theorem flats_strs : ∀ ws : List Str, (ws.map V.str).all flatV = true
  | [] => rfl
  | w :: ws => by rw [List.map_cons, List.all_cons, flats_strs ws]; rfl
theorem so_inC (W : WF gu G k CR T r X.prog X.w X.K X.mg X.base) {a : Expr} {ia : IE} {g : Str} {ws : List Str} {p pos : Pos} (ng : Bool) (hg : Gl X g) (hd : (g == ("__debug__" : Str)) = false) (hk : G.gtup g = some ws) (ha : PE X a (tE k CR T ia)) :
    PB k CR T X (.Compare a [if ng = true then .NotIn else .In] [.Name g p] pos) (.inC ng ia g ws) := by
  obtain ⟨d, h1, h3⟩ := W.gtup g ws hk
  have key : ∀ σ H Q, tE k CR T (.inC ng ia g ws) σ H Q → tOp (rIn X.K ng) (tE k CR T ia) (tC (.ref d)) σ H Q := fun σ H Q ⟨b, S, env, B, x, B', st, ev, q⟩ => by
    obtain ⟨x, B1, e1, ev⟩ := bd_inv ev
    cases x with
    | str z =>
      cases ev
      refine tE1 st e1 ?_
      rintro v S1 H1 g bs rfl
      refine ⟨d, _, rfl, .inr (h3 H1), rfl, flats_strs ws, (Wn.mono q g).here bs ?_⟩
      rw [inV_strs]; rfl
    | _ => cases ev
  cases ng with
  | true => exact ⟨PE.by fun σ H Q q => ⟨_, pe_cmpR op_notIn_seq ha (pe_glob (v := V.ref d) hg h1 rfl hd) rfl, key σ H Q q⟩, PT.by fun σ H Q q => ⟨_, pt_cmpR op_notIn_seq ha (pe_glob (v := V.ref d) hg h1 rfl hd) rfl, key σ H _ (tT_tE q)⟩⟩
  | false => exact ⟨PE.by fun σ H Q q => ⟨_, pe_cmpR op_in_seq ha (pe_glob (v := V.ref d) hg h1 rfl hd) rfl, key σ H Q q⟩, PT.by fun σ H Q q => ⟨_, pt_cmpR op_in_seq ha (pe_glob (v := V.ref d) hg h1 rfl hd) rfl, key σ H _ (tT_tE q)⟩⟩
theorem so_gD (W : WF gu G k CR T r X.prog X.w X.K X.mg X.base) {a : Expr} {ia : IE} {g : Str} {kvs : List (Str × Int)} {p pos : Pos} (hp : plainIxB a = true) (hg : Gl X g) (hd : (g == ("__debug__" : Str)) = false) (hk : G.gdic g = some kvs) (ha : PE X a (tE k CR T ia)) :
    PE X (.Subscript (.Name g p) a pos) (tE k CR T (.gD ia g kvs)) := by
  obtain ⟨d, es, n, h1, K1, h3⟩ := W.gdic g kvs hk
  refine PE.by fun σ H Q ⟨b, S, env, B, x, B', st, ev, q⟩ => ⟨_, pe_ix ix_kdict (pe_glob (v := V.ref d) hg h1 rfl hd) ha (plainIx_of hp), ?_⟩
  obtain ⟨x, B1, e1, ev⟩ := bd_inv ev
  cases x with
  | str z =>
    obtain ⟨i, e2, ev⟩ := ob_inv ev
    cases ev
    refine tE1 st e1 ?_
    rintro v S1 H1 g bs rfl
    obtain ⟨t, h4⟩ := (h3 z).1 i e2
    exact ⟨d, z, .int i, rfl, rfl, ⟨es, n, _, K1.at_, K1.lit, h4, ⟨t, rfl⟩⟩, (Wn.mono q g).here bs rfl⟩
  | _ => cases ev
end
end Cab
set_option Elab.async false
set_option linter.all false
set_option maxRecDepth 100000
set_option maxHeartbeats 2000000
/-! Dicts, what is walked, comprehensions. -/
namespace Cab
open PySem L2 LamX Evl CabR

def dkvs (kvs : List (Str × Int)) : List (Key × V) := kvs.map fun p => ((Sum.inr p.1 : Key), V.int p.2)
theorem putK_new {kvs : List (Key × V)} {q : Key} {v : V} (h : ∀ p ∈ kvs, p.1 ≠ q) : putK kvs q v = kvs ++ [(q, v)] := by
  unfold putK
  rw [if_neg]
  intro e
  obtain ⟨p, hp, e2⟩ := List.any_eq_true.mp e
  exact h p hp (of_decide_eq_true e2)
theorem mergeK_app : ∀ (more acc : List (Key × V)), ((acc ++ more).map (·.1)).Nodup → mergeK acc more = acc ++ more
  | [], acc, _ => by rw [List.append_nil]; rfl
  | p :: more, acc, h => by
    have h1 : putK acc p.1 p.2 = acc ++ [p] := putK_new fun q hq e => by
      rw [List.map_append, List.map_cons] at h
      have := List.nodup_append.mp h
      exact this.2.2 q.1 (List.mem_map_of_mem hq) p.1 List.mem_cons_self e
    show mergeK (putK acc p.1 p.2) more = _
    rw [h1, mergeK_app more (acc ++ [p]) (by simpa using h)]
    simp
theorem dkvs_nodup {kvs : List (Str × Int)} (h : (kvs.map (·.1)).Nodup) : ((dkvs kvs).map (·.1)).Nodup := by
  have e : (dkvs kvs).map (·.1) = (kvs.map (·.1)).map (Sum.inr : Str → Key) := by unfold dkvs; simp
  rw [e]
  exact List.Pairwise.map _ (fun a b n e => n (Sum.inr.inj e)) h
theorem valV_dk (z : Str) : ∀ kvs : List (Str × Int), valV (dkvs kvs) (Sum.inr z : Key) = (lkD kvs z).map V.int
  | [] => rfl
  | (x, i) :: kvs => by
    have ih := valV_dk z kvs
    unfold lkD at ih ⊢
    by_cases e : x = z
    · subst e
      rw [show dkvs ((x, i) :: kvs) = (((Sum.inr x : Key), V.int i)) :: dkvs kvs from rfl, valV_pos rfl]
      simp
    · have e2 : (z == x) = false := by simpa using Ne.symm e
      rw [show dkvs ((x, i) :: kvs) = (((Sum.inr x : Key), V.int i)) :: dkvs kvs from rfl, valV_neg (by intro q; exact e (Sum.inr.inj q)), ih]
      simp [List.lookup_cons, e2]
section
variable {X : Cx} {G : GW} {k : Call} {CR : Addr} {T : List (Addr × Str)} {r : Nat} {b : Addr} {S H : Hp} {σ : L2.St} {env : Env} {B B' B1 B2 B3 : Bg}
def dTrs (kvs : List (Str × Int)) : List (TE × TE) := kvs.map fun p => (tC (.str p.1), tC (.int p.2))
theorem dct_pps {pos : Pos} : ∀ {ks : List (Option Expr)} {vs : List Expr} {kvs : List (Str × Int)}, dctOf ks vs = some kvs → PPs X pos ks vs (dTrs kvs) ∧ ks.all (·.isSome) = true ∧ ks.length = vs.length ∧ ks.length = kvs.length
  | ks, vs, kvs, h => by
    unfold dctOf at h
    split at h
    · cases h
      exact ⟨pps_nil, rfl, rfl, rfl⟩
    · obtain ⟨rr, e, h⟩ := ob_inv h
      cases h
      obtain ⟨h1, h2, h3, h4⟩ := dct_pps (pos := pos) e
      exact ⟨pps_cons pe_str pe_int h1, by rw [List.all_cons, h2]; rfl, by rw [List.length_cons, List.length_cons, h3], by rw [List.length_cons, List.length_cons, h4]⟩
    · cases h
theorem dct_tp {p : Addr} : ∀ (kvs : List (Str × Int)) (σ : L2.St) (H : Hp) (Q : List (V × V) → Hp → Prop), Q (kvs.map fun p => (V.str p.1, V.int p.2)) H → tPairs (dTrs kvs) σ H Q
  | [], _, _, _, h => h
  | q :: kvs, σ, H, Q, h => dct_tp (p := p) kvs σ H _ h
theorem so_dct {ks : List (Option Expr)} {vs : List Expr} {kvs : List (Str × Int)} {pos : Pos} (h15 : ks.length ≤ 15) (h0 : ks ≠ []) (h : dctOf ks vs = some kvs) (hn : (kvs.map (·.1)).Nodup) : PE X (.Dict ks vs pos) (tE k CR T (.dct kvs)) := by
  obtain ⟨h1, h2, h3, h4⟩ := dct_pps (X := X) (pos := pos) h
  refine PE.by fun σ H Q ⟨b, S, env, B, x, B', st, ev, q⟩ => ⟨_, pe_disp h1 h2 h3 h0 h15, fun p hp => ?_⟩
  cases ev
  refine dct_tp (p := p) kvs σ _ _ ⟨upd_same .., dkvs kvs, ?_, ?_, ?_⟩
  · unfold dkvs
    rw [List.map_map]
    rfl
  · unfold dkvs
    rw [List.length_map, ← h4]
    exact h15
  · rw [mergeK_app _ _ (by rw [List.nil_append]; exact dkvs_nodup hn), List.nil_append, upd_upd]
    exact q (.ref p) (upd S p (.dK (dkvs kvs))) _ (Gr.new st.bas.sub hp) (st.bas.new hp (fun ps z => by cases z)) ⟨p, rfl, upd_same ..⟩
theorem so_dGet (hu : X.A.units + 1 < cLine) {a c : Expr} {ia ic io : IE} {o : Str} {op apos cpos : Pos} (hs : isStar a = false) (hs2 : isStar c = false) (hline : (apos.endLine == cpos.line) = true) (ho : PE X (.Name o op) (tE k CR T io)) (ha : PE X a (tE k CR T ia)) (hc : PE X c (tE k CR T ic)) :
    PE X (.Call (.Attribute (.Name o op) "get" apos) [a, c] [] cpos) (tE k CR T (.dGet io ia ic)) := by
  refine PE.by fun σ H Q ⟨b, S, env, B, x, B', st, ev, q⟩ => ⟨_, pe_dget2 hu ho ha hc ⟨rfl, by rw [star1 hs, star1 hs2]; rfl, hline, by rw [star1 hs, star1 hs2]; rfl⟩, ?_⟩
  obtain ⟨x, B1, e1, ev⟩ := bd_inv ev
  obtain ⟨y, B2, e2, ev⟩ := bd_inv ev
  obtain ⟨z, B3, e3, ev⟩ := bd_inv ev
  cases x with
  | dct kvs =>
    cases y with
    | str w =>
      cases ev
      refine tE1 st e1 ?_
      rintro v S1 H1 g bs ⟨p, rfl, h1⟩
      refine ⟨p, rfl, .inl ⟨_, .inl (bs.sub _ _ h1)⟩, tE1 (st.mono g bs) e2 ?_⟩
      rintro v S2 H2 g2 bs2 rfl
      refine tE1 ((st.mono g bs).mono g2 bs2) e3 fun u S3 H3 g3 bs3 r3 => ⟨_, DGet.k (k := Sum.inr w) (bs3.sub _ _ (g3.s _ _ (g2.s _ _ h1))), ?_⟩
      refine (Wn.mono q ((g.trans g2).trans g3)).here bs3 ?_
      have e := valV_dk w kvs
      unfold dkvs at e
      rw [e]
      cases lkD kvs w with
      | none => exact r3
      | some i => exact rfl
    | _ => cases ev
  | _ => cases ev
/-! ### what is walked -/
theorem wk_seq {d : D} {xs : List D} {v : V} (bs : Bas T b S H B) (h : seqOf d = some xs) (rv : Rep CR b S d v) : ∃ (κ : Bool) (a : Addr) (vs : List V), v = .ref a ∧ CabI.SqK κ X.K H a vs ∧ WkD CR T b S (CabI.JSq κ X.K a) xs := by
  obtain ⟨κ, a, vs, rfl, hr, hq⟩ := seq_of (K := X.K) bs h rv
  refine ⟨κ, a, vs, rfl, hq S H B (Ex.refl S) bs, fun S1 H1 B1 e bs1 => ?_⟩
  have w := CabI.walk_sq (k := κ) (K := X.K) (a := a) (xs := vs)
  have hq1 := hq S1 H1 B1 e bs1
  have hl := Reps.length hr
  refine ⟨by rw [hl]; exact w.stops H1 hq1, fun i d' hd => ?_⟩
  have hi : i < vs.length := by rw [← hl]; exact (List.getElem?_eq_some_iff.mp hd).1
  refine ⟨w.goes i H1 hi hq1, fun x H' hy => ?_⟩
  obtain ⟨e1, e2⟩ := w.yields i H1 x H' hi hq1 hy
  subst e1
  obtain ⟨u, k1, k2⟩ := Reps.get hr hd
  rw [e2] at k1
  cases k1
  exact ⟨S1, Gr.refl .., bs1, Rep.mono e _ k2⟩
theorem si_seq {tg a : Expr} {ia : IE} (ha : PE X a (tE k CR T ia)) : PI X tg a (tI k CR T (.seq ia)) := by
  refine PI.by fun σ H R ⟨b, S, env, B, xs, B', st, ev, q⟩ => ⟨_, CabI.pi_sq ha, ?_⟩
  obtain ⟨x, B1, e1, ev⟩ := bd_inv ev
  obtain ⟨ys, e2, ev⟩ := ob_inv ev
  cases ev
  refine tE1 st e1 fun v S1 H1 g bs rv => ?_
  obtain ⟨κ, a, vs, h1, h2, h3⟩ := wk_seq (X := X) bs e2 rv
  exact ⟨κ, a, h1, ⟨vs, h2⟩, q _ S1 H1 g bs h3⟩
theorem rngD_get : ∀ (n i : Nat) (lo : Int) (d : D), (rngD lo n)[i]? = some d → i < n ∧ d = .int (lo + i)
  | 0, _, _, _, h => by cases h
  | n + 1, 0, lo, d, h => by
    cases h
    exact ⟨Nat.succ_pos _, by simp⟩
  | n + 1, i + 1, lo, d, h => by
    obtain ⟨h1, h2⟩ := rngD_get n i (lo + 1) d h
    refine ⟨Nat.succ_lt_succ h1, ?_⟩
    rw [h2]
    congr 1
    omega
theorem rngD_len : ∀ (n : Nat) (lo : Int), (rngD lo n).length = n
  | 0, _ => rfl
  | n + 1, lo => by unfold rngD; rw [List.length_cons, rngD_len n]
theorem wk_rng {lo : Int} {n : Nat} : WkD CR T b S (Itr lo n) (rngD lo n) := fun S1 H1 B1 e bs1 => by
  have w := walk_range (lo := lo) (n := n)
  refine ⟨by rw [rngD_len]; exact w.stops H1 trivial, fun i d hd => ?_⟩
  obtain ⟨hi, rfl⟩ := rngD_get n i lo d hd
  refine ⟨w.goes i H1 hi trivial, fun x H' hy => ?_⟩
  obtain ⟨e1, e2⟩ := w.yields i H1 x H' hi trivial hy
  subst e1
  exact ⟨S1, Gr.refl .., bs1, e2⟩
theorem small62_of {i : Int} (h : small62 i = true) : -(2 ^ 62) ≤ i ∧ i < 2 ^ 62 := by
  unfold small62 at h
  rw [Bool.and_eq_true] at h
  exact ⟨of_decide_eq_true h.1, of_decide_eq_true h.2⟩
theorem si_rng1 {tg a : Expr} {ia : IE} {p pos : Pos} (hg : Gl X "range") (hm : X.mg "range" = none) (hs : isStar a = false) (ha : PE X a (tE k CR T ia)) : PI X tg (.Call (.Name "range" p) [a] [] pos) (tI k CR T (.rng1 ia)) := by
  refine PI.by fun σ H R ⟨b, S, env, B, xs, B', st, ev, q⟩ => ⟨_, pi_range1 hg hm (pa_cons ha pa_nil (star1 hs)) (star1 hs), ?_⟩
  obtain ⟨x, B1, e1, ev⟩ := bd_inv ev
  cases x with
  | int n =>
    have ev : (if small62 n = true then some (rngD 0 n.toNat, B1) else none) = some (xs, B') := ev
    by_cases hz : small62 n = true
    · rw [if_pos hz] at ev
      cases ev
      refine tE1 st e1 ?_
      rintro v S1 H1 g bs rfl
      exact ⟨n, rfl, (small62_of hz).1, (small62_of hz).2, q _ S1 H1 g bs wk_rng⟩
    · rw [if_neg hz] at ev
      cases ev
  | _ => cases ev
theorem si_rng2 {tg a c : Expr} {ia ic : IE} {p pos : Pos} (hg : Gl X "range") (hm : X.mg "range" = none) (hs : isStar a = false) (hs2 : isStar c = false) (ha : PE X a (tE k CR T ia)) (hc : PE X c (tE k CR T ic)) : PI X tg (.Call (.Name "range" p) [a, c] [] pos) (tI k CR T (.rng2 ia ic)) := by
  refine PI.by fun σ H R ⟨b, S, env, B, xs, B', st, ev, q⟩ => ⟨_, pi_range2 hg hm (pa_cons ha (pa_cons hc pa_nil (star1 hs2)) (star1 hs)) (by rw [star1 hs, star1 hs2]; rfl) (star1 hs2), ?_⟩
  obtain ⟨x, B1, e1, ev⟩ := bd_inv ev
  obtain ⟨y, B2, e2, ev⟩ := bd_inv ev
  cases x with
  | int i =>
    cases y with
    | int j =>
      have ev : (if small62 i = true ∧ small62 j = true then some (rngD i (j - i).toNat, B2) else none) = some (xs, B') := ev
      by_cases hz : small62 i = true ∧ small62 j = true
      · rw [if_pos hz] at ev
        cases ev
        refine tE2 st e1 e2 ?_
        rintro _ _ S1 H1 g bs rfl rfl
        exact ⟨i, j, rfl, ⟨(small62_of hz.1).1, (small62_of hz.1).2, (small62_of hz.2).1, (small62_of hz.2).2⟩, q _ S1 H1 g bs wk_rng⟩
      · rw [if_neg hz] at ev
        cases ev
    | _ => cases ev
  | _ => cases ev
theorem enumD_get : ∀ (xs : List D) (n i : Nat) (d : D), (enumD n xs)[i]? = some d → ∃ x, xs[i]? = some x ∧ d = .tup [.int ((n + i : Nat) : Int), x]
  | [], _, _, _, h => by cases h
  | x :: xs, n, 0, d, h => by
    cases h
    exact ⟨x, rfl, rfl⟩
  | x :: xs, n, i + 1, d, h => by
    obtain ⟨y, h1, h2⟩ := enumD_get xs (n + 1) i d h
    refine ⟨y, h1, ?_⟩
    rw [h2]
    have : n + 1 + i = n + (i + 1) := by omega
    rw [this]
theorem enumD_len : ∀ (xs : List D) (n : Nat), (enumD n xs).length = xs.length
  | [], _ => rfl
  | x :: xs, n => by unfold enumD; rw [List.length_cons, List.length_cons, enumD_len xs]
theorem zipD_get : ∀ (xs ys : List D) (i : Nat) (d : D), (zipD xs ys)[i]? = some d → ∃ x y, xs[i]? = some x ∧ ys[i]? = some y ∧ d = .tup [x, y]
  | [], _, _, _, h => by cases h
  | _ :: _, [], _, _, h => by cases h
  | x :: xs, y :: ys, 0, d, h => by
    cases h
    exact ⟨x, y, rfl, rfl, rfl⟩
  | x :: xs, y :: ys, i + 1, d, h => zipD_get xs ys i d h
theorem zipD_len : ∀ (xs ys : List D), (zipD xs ys).length = min xs.length ys.length
  | [], ys => by unfold zipD; simp
  | _ :: _, [] => by unfold zipD; simp
  | x :: xs, y :: ys => by unfold zipD; rw [List.length_cons, List.length_cons, List.length_cons, zipD_len xs ys]; omega
theorem si_enum {a : Expr} {ia : IE} {elts : List Expr} {j : Nat} {tp p pos : Pos} (hg : Gl X "enumerate") (hm : X.mg "enumerate" = none) (hs : isStar a = false) (ha : PE X a (tE k CR T ia)) : PI X (.Tuple elts j tp) (.Call (.Name "enumerate" p) [a] [] pos) (tI k CR T (.enum ia)) := by
  refine PI.by fun σ H R ⟨b, S, env, B, xs, B', st, ev, q⟩ => ⟨_, CabI.pi_en false hg hm (pa_cons ha pa_nil (star1 hs)) (star1 hs), ?_⟩
  obtain ⟨x, B1, e1, ev⟩ := bd_inv ev
  cases x with
  | tup ys =>
    cases ev
    refine tE1 st e1 ?_
    rintro v S1 H1 g bs ⟨a, vs, rfl, h1, h2⟩
    refine ⟨a, vs, rfl, bs.sqT h1, q _ S1 H1 g bs fun S2 H2 B2 e bs2 => ?_⟩
    have w := CabI.walk_en (k := false) (K := X.K) (a := a) (xs := vs)
    have hq : CabI.SqK false X.K H2 a vs := bs2.sqT (e _ _ h1)
    have hl := Reps.length h2
    refine ⟨by rw [enumD_len, hl]; exact w.stops H2 hq, fun i d' hd => ?_⟩
    obtain ⟨y, k1, rfl⟩ := enumD_get ys 0 i d' hd
    have hi : i < vs.length := by rw [← hl]; exact (List.getElem?_eq_some_iff.mp k1).1
    refine ⟨w.goes i H2 hi hq, fun x H' hy => ?_⟩
    obtain ⟨t, u1, u2, rfl, hT, rfl, f1, f2⟩ := w.yields i H2 x H' hi hq hy
    obtain ⟨u, k2, k3⟩ := Reps.get h2 k1
    have f2 : vs[i]? = some u2 := f2
    rw [k2] at f2
    cases f2
    cases f1
    refine ⟨upd S2 t (.tup [.int (i : Nat), u2]), Gr.new bs2.sub hT, bs2.new hT (fun ps z => by cases z), t, _, rfl, upd_same .., _, _, rfl, ?_, _, _, rfl, Rep.mono (e.trans (new_ex bs2 hT)) _ k3, rfl⟩
    show V.int (i : Nat) = V.int ((0 + i : Nat) : Int)
    rw [Nat.zero_add]
  | _ => cases ev
theorem si_zip {a c : Expr} {ia ic : IE} {elts : List Expr} {j : Nat} {tp p pos : Pos} (hg : Gl X "zip") (hm : X.mg "zip" = none) (hs : isStar a = false) (hs2 : isStar c = false) (ha : PE X a (tE k CR T ia)) (hc : PE X c (tE k CR T ic)) : PI X (.Tuple elts j tp) (.Call (.Name "zip" p) [a, c] [] pos) (tI k CR T (.zip ia ic)) := by
  have kd : ∀ d xs, seqOf d = some xs → ∃ κ : Bool, ∀ (b : Addr) (S H : Hp) (B : Bg) (v : V), Bas T b S H B → Rep CR b S d v → ∃ (a : Addr) (vs : List V), v = .ref a ∧ Reps CR b S xs vs ∧ ∀ S1 H1 B1, Ex S S1 → Bas T b S1 H1 B1 → CabI.SqK κ X.K H1 a vs := fun d xs h => by
    cases d with
    | tup ys =>
      cases h
      exact ⟨false, fun b S H B v bs ⟨a, vs, h1, h2, h3⟩ => ⟨a, vs, h1, h3, fun S1 H1 B1 e bs1 => bs1.sqT (e _ _ h2)⟩⟩
    | lst ys =>
      cases h
      exact ⟨true, fun b S H B v bs ⟨a, vs, h1, h2, h3⟩ => ⟨a, vs, h1, h3, fun S1 H1 B1 e bs1 => bs1.sqL (e _ _ h2)⟩⟩
    | rtup ys =>
      cases h
      exact ⟨false, fun b S H B v bs ⟨a, o, vs, h1, h2, h3, h4⟩ => ⟨a, vs, h1, h4, fun S1 H1 B1 e bs1 => .inl (.inr ⟨o, bs1.sub _ _ (e _ _ h2)⟩)⟩⟩
    | _ => cases h
  refine PI.by fun σ H R ⟨b, S, env, B, xs, B', st, ev, q⟩ => ?_
  obtain ⟨x, B1, e1, ev⟩ := bd_inv ev
  obtain ⟨y, B2, e2, ev⟩ := bd_inv ev
  obtain ⟨us, e3, ev⟩ := ob_inv ev
  obtain ⟨ws, e4, ev⟩ := ob_inv ev
  cases ev
  obtain ⟨κ, h1⟩ := kd x us e3
  obtain ⟨l, h2⟩ := kd y ws e4
  refine ⟨_, CabI.pi_zp κ l hg hm (pa_cons ha (pa_cons hc pa_nil (star1 hs2)) (star1 hs)) (star1 hs) (by rw [star1 hs2]; rfl), tE2 st e1 e2 fun v w S1 H1 g bs r1 r2 => ?_⟩
  obtain ⟨a1, vs1, rfl, k1, q1⟩ := h1 b S1 H1 _ v bs r1
  obtain ⟨a2, vs2, rfl, k2, q2⟩ := h2 b S1 H1 _ w bs r2
  refine ⟨a1, a2, vs1, vs2, rfl, q1 S1 H1 _ (Ex.refl S1) bs, q2 S1 H1 _ (Ex.refl S1) bs, q _ S1 H1 g bs fun S2 H2 B2 e bs2 => ?_⟩
  have wk := CabI.walk_zp (k := κ) (l := l) (K := X.K) (a := a1) (b := a2) (xs := vs1) (ys := vs2)
  have hq := And.intro (q1 S2 H2 B2 e bs2) (q2 S2 H2 B2 e bs2)
  have l1 := Reps.length k1
  have l2 := Reps.length k2
  refine ⟨by rw [zipD_len, l1, l2]; exact wk.stops H2 hq, fun i d' hd => ?_⟩
  obtain ⟨d1, d2, f1, f2, rfl⟩ := zipD_get us ws i d' hd
  have hi1 : i < vs1.length := by rw [← l1]; exact (List.getElem?_eq_some_iff.mp f1).1
  have hi2 : i < vs2.length := by rw [← l2]; exact (List.getElem?_eq_some_iff.mp f2).1
  have hi : i < min vs1.length vs2.length := by omega
  refine ⟨wk.goes i H2 hi hq, fun x H' hy => ?_⟩
  obtain ⟨t, u1, u2, rfl, hT, rfl, g1, g2⟩ := wk.yields i H2 x H' hi hq hy
  obtain ⟨z1, m1, n1⟩ := Reps.get k1 f1
  obtain ⟨z2, m2, n2⟩ := Reps.get k2 f2
  have g1 : vs1[i]? = some u1 := g1
  have g2 : vs2[i]? = some u2 := g2
  rw [m1] at g1
  rw [m2] at g2
  cases g1
  cases g2
  exact ⟨upd S2 t (.tup [u1, u2]), Gr.new bs2.sub hT, bs2.new hT (fun ps z => by cases z), t, _, rfl, upd_same .., _, _, rfl, Rep.mono (e.trans (new_ex bs2 hT)) _ n1, _, _, rfl, Rep.mono (e.trans (new_ex bs2 hT)) _ n2, rfl⟩
end
end Cab
set_option Elab.async false
set_option linter.all false
set_option maxRecDepth 100000
set_option maxHeartbeats 2000000
/-! Targets, a comprehension's block, comprehensions. -/
namespace Cab
open PySem L2 LamX Evl CabR

/-! ### targets -/
def gNames : List Nat → TGs
  | [] => gNil
  | j :: js => gCons (gName j) (gNames js)
def gOf (K : PySem.W.Frag) : Tg → TG
  | .nm i => gName i
  | .tp js => gTup K js.length (gNames js)
theorem ixOf_get : ∀ {N : List Str} {x : Str} {i : Nat}, ixOf N x = some i → N[i]? = some x
  | [], _, _, h => by cases h
  | y :: r, x, i, h => by
    unfold ixOf at h
    split at h
    · rename_i e
      cases h
      subst e
      rfl
    · obtain ⟨j, h1, h2⟩ := ob_inv h
      cases h2
      rw [List.getElem?_cons_succ]
      exact ixOf_get h1
theorem tgName_ok {C : CC} {e : Expr} {i : Nat} (h : tgName C e = some i) : ∃ x p, e = .Name x p ∧ locB C.sc x = true ∧ C.N[i]? = some x := by
  unfold tgName at h
  split at h
  · rename_i x p
    split at h
    · rename_i hl
      exact ⟨x, p, rfl, hl, ixOf_get h⟩
    · cases h
  · cases h
section
variable {X : Cx} {r : Nat} {C : CC}
theorem pg_nm (g : GX gu r C X) {e : Expr} {i : Nat} (h : tgName C e = some i) : PG X e (gName i) := by
  obtain ⟨x, p, rfl, h1, h2⟩ := tgName_ok h
  exact pg_name (by rw [g.N]; exact g.nd) (by rw [g.N]; exact h2) (g.loc x h1).1 (g.loc x h1).2
theorem pg_nms (g : GX gu r C X) : ∀ {es : List Expr} {is : List Nat}, tgNames C es = some is → PGs X es (gNames is) ∧ (assignEach es X.env).length = is.length ∧ (assignEach es X.env).findIdx? (·.1) = none
  | [], is, h => by
    cases h
    exact ⟨pgs_nil, rfl, rfl⟩
  | e :: es, is, h => by
    obtain ⟨i, h1, h⟩ := ob_inv h
    obtain ⟨js, h2, h⟩ := ob_inv h
    cases h
    obtain ⟨q1, q2, q3⟩ := pg_nms g h2
    obtain ⟨x, p, rfl, _⟩ := tgName_ok h1
    have e1 : assignEach (.Name x p :: es) X.env = (false, assign (.Name x p) X.env) :: assignEach es X.env := rfl
    refine ⟨pgs_cons (pg_nm g h1) q1 (by rw [e1]; rfl), by rw [e1, List.length_cons, List.length_cons, q2], ?_⟩
    rw [e1, List.findIdx?_cons, q3]
    rfl
theorem pg_of (g : GX gu r C X) {e : Expr} {t : Tg} (h : cT C e = some t) : PG X e (gOf X.K t) := by
  unfold cT at h
  split at h
  · obtain ⟨is, h1, h2⟩ := ob_inv h
    cases h2
    obtain ⟨q1, q2, q3⟩ := pg_nms g h1
    exact pg_tup g.calm q1 q2 q3
  · obtain ⟨i, h1, h2⟩ := ob_inv h
    cases h2
    exact pg_nm g h1
end
section
variable {K : PySem.W.Frag} {CR : Addr} {T : List (Addr × Str)} {b : Addr} {S H : Hp} {B : Bg}
theorem setAll_ok {P : L2.St → Env → Prop} : ∀ {js : List Nat} {ds : List D} {vs : List V} {env env' : Env} {σ : L2.St} {Q : L2.St → Hp → Prop}, (∀ i σ env d v, i ∈ js → P σ env → Rep CR b S d v → P (σ.set i (some v)) (env.set i (Sl.val d))) →
    P σ env → setAll js ds env = some env' → Reps CR b S ds vs → (∀ σ', P σ' env' → Q σ' H) → gNames js vs σ H Q
  | [], [], _, env, env', σ, Q, hp, p, h, rv, q => by
    cases h
    have rv : _ = [] := rv
    subst rv
    exact ⟨rfl, q σ p⟩
  | [], _ :: _, _, _, _, _, _, _, _, h, _, _ => by cases h
  | _ :: _, [], _, _, _, _, _, _, _, h, _, _ => by cases h
  | j :: js, d :: ds, _, env, env', σ, Q, hp, p, h, ⟨v, us, h1, h2, h3⟩, q => by
    subst h1
    exact ⟨v, us, rfl, setAll_ok (fun i σ env d v hi => hp i σ env d v (List.mem_cons_of_mem _ hi)) (hp j σ env d v List.mem_cons_self p h2) h h3 q⟩
theorem setAll_len : ∀ {js : List Nat} {ds : List D} {env env' : Env}, setAll js ds env = some env' → js.length = ds.length
  | [], [], _, _, _ => rfl
  | [], _ :: _, _, _, h => by cases h
  | _ :: _, [], _, _, h => by cases h
  | j :: js, d :: ds, env, env', h => by rw [List.length_cons, List.length_cons, setAll_len (js := js) (ds := ds) h]
theorem bind_ok {P : L2.St → Env → Prop} {t : Tg} {d : D} {v : V} {env env' : Env} {σ : L2.St} {Q : L2.St → Hp → Prop} (bs : Bas T b S H B) (hp : ∀ i σ env d v, i ∈ tgSl t → P σ env → Rep CR b S d v → P (σ.set i (some v)) (env.set i (Sl.val d)))
    (p : P σ env) (h : bindT t d env = some env') (rv : Rep CR b S d v) (q : ∀ σ', P σ' env' → Q σ' H) : gOf K t v σ H Q := by
  cases t with
  | nm i =>
    cases h
    exact q _ (hp i σ env d v List.mem_cons_self p rv)
  | tp js =>
    cases d with
    | tup ds =>
      have h : setAll js ds env = some env' := h
      obtain ⟨a, vs, rfl, h1, h2⟩ := rv
      exact ⟨a, vs, rfl, bs.sqT h1, by rw [← Reps.length h2, setAll_len h], setAll_ok hp p h h2 q⟩
    | _ => cases h
end
/-! ### wiping -/
theorem wipe_get (σ : L2.St) : ∀ (vs : List Nat) (j : Nat), (L2.wipe σ vs)[j]? = if j ∈ vs ∧ j < σ.length then some none else σ[j]?
  | [], j => by simp [L2.wipe]
  | v :: vs, j => by
    unfold L2.wipe
    have ih := wipe_get σ vs j
    by_cases e : v = j
    · subst e
      by_cases hl : v < σ.length
      · rw [List.getElem?_set_self (by rw [wipe_length]; exact hl), if_pos ⟨List.mem_cons_self, hl⟩]
      · rw [List.getElem?_eq_none (by rw [List.length_set, wipe_length]; omega), if_neg (fun z => hl z.2), List.getElem?_eq_none (by omega)]
    · rw [List.getElem?_set_ne e, ih]
      have : (j ∈ v :: vs) ↔ j ∈ vs := ⟨fun h => (List.mem_cons.mp h).resolve_left (Ne.symm e), List.mem_cons_of_mem _⟩
      simp only [this]
theorem wipe_set {σ : L2.St} {vs : List Nat} {i : Nat} {o : Option V} (h : i ∈ vs) : L2.wipe (σ.set i o) vs = L2.wipe σ vs := by
  apply List.ext_getElem?
  intro j
  rw [wipe_get, wipe_get, List.length_set]
  by_cases e : i = j
  · subst e
    by_cases hl : i < σ.length
    · rw [if_pos ⟨h, hl⟩, if_pos ⟨h, hl⟩]
    · rw [if_neg (fun z => hl z.2), if_neg (fun z => hl z.2), List.getElem?_eq_none (by rw [List.length_set]; omega), List.getElem?_eq_none (by omega)]
  · rw [List.getElem?_set_ne e]
theorem wipe_wipe {σ : L2.St} {vs : List Nat} : L2.wipe (L2.wipe σ vs) vs = L2.wipe σ vs := by
  apply List.ext_getElem?
  intro j
  rw [wipe_get, wipe_get, wipe_length]
  split <;> rfl

/-! ### a block -/
theorem lk_free {sc : Scope} : ∀ {names : List (Str × NameKind)} {x : Str}, names.lookup x = some .free →
    (names.map fun (n, k) => if (k == NameKind.free && sc.kind == .function && sc.names.lookup n == some .cell) then (n, NameKind.cell) else (n, k)).lookup x = some .cell ∨
    (names.map fun (n, k) => if (k == NameKind.free && sc.kind == .function && sc.names.lookup n == some .cell) then (n, NameKind.cell) else (n, k)).lookup x = some .free
  | [], _, h => by cases h
  | (n, k0) :: rr, x, h => by
    have ih := @lk_free sc rr x
    show List.lookup x ((if (k0 == NameKind.free && sc.kind == .function && sc.names.lookup n == some .cell) = true then (n, NameKind.cell) else (n, k0)) :: (rr.map _)) = some _ ∨ List.lookup x ((if (k0 == NameKind.free && sc.kind == .function && sc.names.lookup n == some .cell) = true then (n, NameKind.cell) else (n, k0)) :: (rr.map _)) = some _
    cases hx : x == n with
    | true =>
      simp only [List.lookup_cons, hx] at h
      cases h
      by_cases hc : (NameKind.free == NameKind.free && sc.kind == .function && sc.names.lookup n == some .cell) = true
      · rw [if_pos hc]
        simp only [List.lookup_cons, hx]
        exact .inl trivial
      · rw [if_neg hc]
        simp only [List.lookup_cons, hx]
        exact .inr trivial
    | false =>
      simp only [List.lookup_cons, hx] at h
      by_cases hc : (k0 == NameKind.free && sc.kind == .function && sc.names.lookup n == some .cell) = true
      · rw [if_pos hc]
        simp only [List.lookup_cons, hx]
        exact ih h
      · rw [if_neg hc]
        simp only [List.lookup_cons, hx]
        exact ih h
section
variable {X : Cx} {r : Nat} {C : CC}
theorem visB_of {sc : Scope} {x : Str} (h : visB sc x = true) : sc.names.lookup x = some .local ∨ sc.names.lookup x = some .cell ∨ sc.names.lookup x = some .free := by
  unfold visB at h
  split at h <;> first | exact .inl (by assumption) | exact .inr (.inl (by assumption)) | exact .inr (.inr (by assumption)) | cases h
theorem locB_of {sc : Scope} {x : Str} (h : locB sc x = true) : sc.names.lookup x = some .local ∨ sc.names.lookup x = some .cell := by
  unfold locB at h
  split at h <;> first | exact .inl (by assumption) | exact .inr (by assumption) | cases h
theorem gloB_of {sc : Scope} {x : Str} (h : gloB sc x = true) : sc.names.lookup x = some .globalImplicit := by
  unfold gloB at h
  split at h <;> first | assumption | cases h
theorem blk_ok (g : GX gu r C X) {scope : Scope} (h : blkC C.N C.sc scope (ownSl C.N scope.names) = true) : BlkOk X.N X.env.scope scope (ownSl C.N scope.names) := by
  have q := blkOk_by h
  rw [g.N]
  exact ⟨q.kind, q.uniq, q.ix, fun y hy e => g.fre _ (q.free y hy e), q.own⟩
theorem gx_blk (g : GX gu r C X) {scope : Scope} (s : Shared) (H : Hp) (Cc : Addr) (cl : List (Str × Addr)) (fp : List Addr) : GX gu r { C with sc := scope, ow := [] } (X.blk s H scope (compEnvC scope cl Cc X.env) fp) where
  N := g.N
  nd := g.nd
  nm := g.nm
  calm := g.calm
  xe := rfl
  room := g.room
  gd := g.gd
  vis := fun x h => by
    rcases visB_of h with e | e | e
    · exact .inl (lookup_relS_keep (by decide) e)
    · exact .inr (.inl (lookup_relS_keep (by decide) e))
    · rcases lk_free (sc := X.env.scope) e with q | q
      · exact .inr (.inl q)
      · exact .inr (.inr q)
  loc := fun x h => by
    rcases locB_of h with e | e
    · exact ⟨.inl (lookup_relS_keep (by decide) e), .inr (lookup_relS_keep (by decide) e)⟩
    · refine ⟨.inr (lookup_relS_keep (by decide) e), .inl ?_⟩
      show (scope.names.lookup x == some .cell) = true
      rw [e]
      rfl
  glo := fun x h => lookup_relS_keep (by decide) (gloB_of h)
  fre := fun x h => by
    rcases h with e | e
    · exact .inl (lookup_relS_keep (by decide) e)
    · exact lk_free (sc := X.env.scope) e
/-- a name that the block alone has is wiped -/
theorem ownSl_mem {N : List Str} : ∀ {names : List (Str × NameKind)} {x : Str} {i : Nat}, (names.lookup x = some .local ∨ names.lookup x = some .cell) → ixOf N x = some i → i ∈ (ownSl N names).map (·.2)
  | [], _, _, h, _ => by rcases h with h | h <;> cases h
  | (y, kd) :: rr, x, i, h, hi => by
    have ih := @ownSl_mem N rr x i
    cases hx : x == y with
    | true =>
      have e : x = y := by simpa using hx
      subst e
      simp only [List.lookup_cons, hx] at h
      unfold ownSl
      rcases h with h | h <;> (cases h; simp only [hi, List.map_cons]; exact List.mem_cons_self)
    | false =>
      simp only [List.lookup_cons, hx] at h
      have := ih h hi
      unfold ownSl
      split
      · exact List.mem_cons_of_mem _ this
      · exact List.mem_cons_of_mem _ this
      · exact this
theorem tgName_own {C : CC} {scope : Scope} {e : Expr} {i : Nat} (h : tgName { C with sc := scope, ow := [] } e = some i) : i ∈ (ownSl C.N scope.names).map (·.2) := by
  unfold tgName at h
  split at h
  · split at h
    · rename_i hl
      exact ownSl_mem (locB_of hl) h
    · cases h
  · cases h
theorem tgNames_own {C : CC} {scope : Scope} : ∀ {es : List Expr} {is : List Nat}, tgNames { C with sc := scope, ow := [] } es = some is → ∀ i ∈ is, i ∈ (ownSl C.N scope.names).map (·.2)
  | [], _, h, i, hi => by cases h; cases hi
  | e :: es, _, h, i, hi => by
    obtain ⟨j, h1, h⟩ := ob_inv h
    obtain ⟨js, h2, h⟩ := ob_inv h
    cases h
    rcases List.mem_cons.mp hi with e | e
    · subst e
      exact tgName_own h1
    · exact tgNames_own h2 i e
theorem cT_own {C : CC} {scope : Scope} {e : Expr} {t : Tg} (h : cT { C with sc := scope, ow := [] } e = some t) : ∀ i ∈ tgSl t, i ∈ (ownSl C.N scope.names).map (·.2) := by
  unfold cT at h
  split at h
  · obtain ⟨is, h1, h2⟩ := ob_inv h
    cases h2
    exact tgNames_own h1
  · obtain ⟨i, h1, h2⟩ := ob_inv h
    cases h2
    intro j hj
    rw [List.mem_singleton.mp hj]
    exact tgName_own h1
end
end Cab
set_option Elab.async false
set_option linter.all false
set_option maxRecDepth 100000
set_option maxHeartbeats 2000000
/-! Comprehensions. -/
namespace Cab
open PySem L2 LamX Evl CabR

/-- one turn of a comprehension -/
def lcF (k : Call) (t : Tg) (cond elt : IE) (env : Env) : D → Bg → Option (Option D × Bg) := fun x B2 => ob (bindT t x env) fun e1 => bd (evE k cond e1 B2) fun b B3 => match b with
    | .bl false => some (none, B3)
    | .bl true => bd (evE k elt e1 B3) fun y B4 => some (some y, B4)
    | .non => bd (evE k elt e1 B3) fun y B4 => some (some y, B4)
    | _ => none
theorem ev_lc {k : Call} {it : IE} {t : Tg} {cond elt : IE} {ow : List Nat} {env : Env} {B : Bg} : evE k (.lc it t cond elt ow) env B =
    bd (evIt k it env B) fun xs B1 => bd (lcGo (lcF k t cond elt (wipeE env ow)) xs B1) fun ys B5 => if ys.length ≤ 1000 then some (.lst ys, B5) else none := rfl
section
variable {X : Cx} {k : Call} {CR : Addr} {T : List (Addr × Str)} {b : Addr} {S H : Hp} {σ : L2.St} {env : Env} {B B' B1 B2 B3 : Bg}
/-- the test of a turn -/
def CondOk (k : Call) (CR : Addr) (T : List (Addr × Str)) (ic : IE) (tt : TT) : Prop := ∀ (b : Addr) (S H : Hp) (σ : L2.St) (env : Env) (B : Bg) (c : D) (B' : Bg) (Q : Bool → Hp → Prop), Stt CR T b S H σ env B → evE k ic env B = some (c, B') →
  ((c = .non ∨ c = .bl true) → ∀ S' H', Gr b S H S' H' → Bas T b S' H' B' → Q true H') → (c = .bl false → ∀ S' H', Gr b S H S' H' → Bas T b S' H' B' → Q false H') → (c = .non ∨ ∃ z, c = .bl z) → tt σ H Q
theorem cond_nop : CondOk k CR T .nop tYes := fun b S H σ env B c B' Q st ev q1 q2 _ => by
  cases ev
  exact q1 (.inl rfl) S H (Gr.refl b S H) st.bas
theorem cond_tst {ic : IE} : CondOk k CR T (.tst ic) (tT k CR T ic) := fun b S H σ env B c B' Q st ev q1 q2 _ => by
  obtain ⟨x, B1, e1, ev⟩ := bd_inv ev
  cases x with
  | bl z =>
    cases ev
    refine ⟨b, S, env, B, z, _, st, e1, fun S' H' g bs => ?_⟩
    cases z with
    | true => exact q1 (.inr rfl) S' H' g bs
    | false => exact q2 rfl S' H' g bs
  | _ => cases ev
/-- what holds at the i-th turn -/
structure LcI (k : Call) (CR : Addr) (T : List (Addr × Str)) (b : Addr) (S1 H1 : Hp) (D : Addr) (f : Cab.D → Bg → Option (Option Cab.D × Bg)) (xs ys : List Cab.D) (B5 : Bg) (i : Nat) (H : Hp) : Prop where
  ex : ∃ (S : Hp) (B : Bg) (acc : List V) (done rem : List Cab.D), Gr b S1 H1 S H ∧ Bas T b S H B ∧ S D = none ∧ H D = some (.lst acc) ∧ Reps CR b S done acc ∧ lcGo f (xs.drop i) B = some (rem, B5) ∧ done ++ rem = ys
theorem lcGo_cons {f : D → Bg → Option (Option D × Bg)} {x : D} {xs : List D} {B : Bg} {rem : List D} {B5 : Bg} (h : lcGo f (x :: xs) B = some (rem, B5)) : ∃ o B1 ys, f x B = some (o, B1) ∧ lcGo f xs B1 = some (ys, B5) ∧ rem = (match o with
    | some y => y :: ys
    | none => ys) := by
  obtain ⟨o, B1, e1, h⟩ := bd_inv h
  obtain ⟨ys, B2, e2, h⟩ := bd_inv h
  cases h
  exact ⟨o, B1, ys, e1, e2, rfl⟩
theorem drop_at {xs : List D} {i : Nat} (h : i < xs.length) : xs.drop i = xs[i] :: xs.drop (i + 1) := List.drop_eq_getElem_cons h
/-- a turn's item is put behind the made ones -/
theorem lc_push {S1 H1 S4 H4 : Hp} {D : Addr} {acc : List V} {y : V} (hD : H1 D = none) (hb : D ≠ b) (g : Gr b S1 H1 S4 H4) (bs : Bas T b S4 H4 B) (hS : S4 D = none) (hl : H4 D = some (.lst acc)) :
    Gr b S1 H1 S4 (upd H4 D (.lst (acc ++ [y]))) ∧ Bas T b S4 (upd H4 D (.lst (acc ++ [y]))) B := ⟨g.write hD hl, bs.write hl hS hb⟩
theorem rd_lc {own : List (Str × Nat)} {ii ic ie : IE} {t : Tg} {tt : TT} (hc : CondOk k CR T ic tt) (ht : ∀ i ∈ tgSl t, i ∈ own.map (·.2)) {σ : L2.St} {H : Hp} {Q : VK} (h : tF k CR T (.lc ii t ic ie (own.map (·.2))) σ H Q) :
    tLc (tI k CR T ii) (gOf X.K t) tt (tE k CR T ie) (own.map (·.2)) σ H Q := by
  obtain ⟨b, S, env, B, ys, B5, st, ev, q⟩ := h
  rw [ev_lc] at ev
  obtain ⟨xs, B1, e1, ev⟩ := bd_inv ev
  obtain ⟨zs, B2, e2, ev⟩ := bd_inv ev
  split at ev
  case isFalse => cases ev
  cases ev
  rename_i hz
  generalize hf : lcF k t ic ie (wipeE env (own.map (·.2))) = f at e2
  have hline := sline
  refine ⟨b, S, env, B, xs, B1, st, e1, fun J S1 H1 g1 bs1 wk D hD => ?_⟩
  have hDb : D ≠ b := bs1.neB hD
  have hDS : S1 D = none := bs1.noneS hD
  refine ⟨fun i m H => m = xs.length - i ∧ i ≤ xs.length ∧ LcI k CR T b S1 H1 D f xs ys B5 i H, ⟨xs.length, by simp, Nat.zero_le _, ⟨S1, B1, [], [], ys, Gr.newH hD, bs1.newH hD, hDS, upd_same .., rfl, e2, rfl⟩⟩, ?_⟩
  rintro i m Hi ⟨rfl, hi, ⟨Si, Bi, acc, done, rem, gi, bsi, hSi, hHi, hri, hgo, hys⟩⟩
  have wi := wk Si Hi Bi gi.s bsi
  by_cases hlt : i < xs.length
  · rw [drop_at hlt] at hgo
    obtain ⟨o, B2', zs', f1, f2, f3⟩ := lcGo_cons hgo
    have hx : xs[i]? = some xs[i] := List.getElem?_eq_getElem hlt
    obtain ⟨go, yl⟩ := wi.2 i _ hx
    refine .inr ⟨go, fun H' => LcI k CR T b S1 H1 D f xs ys B5 (i + 1) H', fun H' p' => ⟨xs.length - (i + 1), by omega, rfl, hlt, p'⟩, fun v H' hy => ?_⟩
    obtain ⟨S', g', bs', rv⟩ := yl v H' hy
    rw [← hf] at f1
    obtain ⟨en, h1, f1⟩ := ob_inv f1
    have gt := gi.trans g'
    refine bind_ok (P := fun σ' env' => Stt CR T b S' H' σ' env' Bi ∧ L2.wipe σ' (own.map (·.2)) = L2.wipe σ (own.map (·.2))) bs' (fun j σ1 env1 d1 v1 hj p1 r1 => ⟨p1.1.put r1, by rw [wipe_set (ht j hj)]; exact p1.2⟩)
      ⟨(st.mono (g1.trans gt) bs').wipe _, wipe_wipe⟩ h1 rv fun σ2 p2 => ⟨p2.2, ?_⟩
    obtain ⟨c, B3, h2, f1⟩ := bd_inv f1
    have hcs : c = .non ∨ ∃ z, c = .bl z := by
      cases c with
      | non => exact .inl rfl
      | bl z => exact .inr ⟨z, rfl⟩
      | _ => cases f1
    have keep : ∀ {S2 H2 : Hp}, Gr b S' H' S2 H2 → S2 D = none ∧ H2 D = some (.lst acc) := fun g2 => by
      have n1 : Hi D ≠ none := by rw [hHi]; simp
      exact ⟨g2.hid D (g'.per D n1) (g'.hid D n1 hSi), g2.h D _ (g'.h D _ hHi hDb (fun ps z => by cases z)) hDb (fun ps z => by cases z)⟩
    have yes : (c = .non ∨ c = .bl true) → bd (evE k ie en B3) (fun y B4 => some (some y, B4)) = some (o, B2') := fun hc => by
      rcases hc with e | e
      · subst e; exact f1
      · subst e; exact f1
    refine hc b S' H' σ2 en Bi c B3 _ p2.1 h2 (fun hc S3 H3 g3 bs3 => itT ?_) (fun hc S3 H3 g3 bs3 => itF ?_) hcs
    · obtain ⟨y, B4, h3, h4⟩ := bd_inv (yes hc)
      cases h4
      refine tE1 (p2.1.mono g3 bs3) h3 fun yv S4 H4 g4 bs4 r4 => ?_
      obtain ⟨k1, k2⟩ := keep (g3.trans g4)
      have hl : done.length = acc.length := Reps.length hri
      have hl2 : ys.length = done.length + rem.length := by rw [← hys, List.length_append]
      rw [f3] at hl2 hys
      have hl2 : ys.length = done.length + (zs'.length + 1) := hl2
      obtain ⟨w1, w2⟩ := lc_push (y := yv) hD hDb (gt.trans (g3.trans g4)) bs4 k1 k2
      exact ⟨acc, k2, by omega, ⟨S4, _, acc ++ [yv], done ++ [y], zs', w1, w2, k1, upd_same .., (Reps.mono (g'.s.trans (g3.trans g4).s) done hri).append ⟨yv, [], rfl, r4, rfl⟩, f2, by rw [← hys]; simp⟩⟩
    · subst hc
      have f1 : some (none, B3) = some (o, B2') := f1
      cases f1
      obtain ⟨k1, k2⟩ := keep g3
      exact ⟨S3, _, acc, done, zs', gt.trans g3, bs3, k1, k2, Reps.mono (g'.s.trans g3.s) done hri, f2, by rw [← hys, f3]⟩
  · have e : i = xs.length := by omega
    subst e
    rw [List.drop_length] at hgo
    cases hgo
    rw [List.append_nil] at hys
    subst hys
    exact .inl ⟨wi.1, q D acc Si Hi (g1.trans gi) bsi hSi hDb (g1.nn hD) hHi hri⟩
theorem sf_lc {elt tg iter : Expr} {ifs : List Expr} {scope : Scope} {own : List (Str × Nat)} {pos : Pos} {ii ic ie : IE} {t : Tg} {tt : TT} (h : PE X (.ListComp elt [⟨tg, iter, ifs, 0⟩] scope pos) (tLc (tI k CR T ii) (gOf X.K t) tt (tE k CR T ie) (own.map (·.2))))
    (hc : CondOk k CR T ic tt) (ht : ∀ i ∈ tgSl t, i ∈ own.map (·.2)) : PE X (.ListComp elt [⟨tg, iter, ifs, 0⟩] scope pos) (tF k CR T (.lc ii t ic ie (own.map (·.2)))) :=
  PE.by fun σ H Q q => ⟨_, h, rd_lc hc ht q⟩
theorem so_lc {elt tg iter : Expr} {ifs : List Expr} {scope : Scope} {own : List (Str × Nat)} {pos : Pos} {ii ic ie : IE} {t : Tg} {tt : TT} (h : PE X (.ListComp elt [⟨tg, iter, ifs, 0⟩] scope pos) (tLc (tI k CR T ii) (gOf X.K t) tt (tE k CR T ie) (own.map (·.2))))
    (hc : CondOk k CR T ic tt) (ht : ∀ i ∈ tgSl t, i ∈ own.map (·.2)) : PE X (.ListComp elt [⟨tg, iter, ifs, 0⟩] scope pos) (tE k CR T (.lc ii t ic ie (own.map (·.2)))) := tE_of_tF (fun env B d B' ev => by
  rw [ev_lc] at ev
  obtain ⟨xs, B1, e1, ev⟩ := bd_inv ev
  obtain ⟨zs, B2, e2, ev⟩ := bd_inv ev
  split at ev
  · cases ev; exact ⟨_, rfl⟩
  · cases ev) (sf_lc h hc ht)
/-! ### two for -/
def lcF2 (k : Call) (t : Tg) (elt : IE) (env : Env) : D → Bg → Option (Option D × Bg) := fun x B => ob (bindT t x env) fun e1 => bd (evE k elt e1 B) fun y B1 => some (some y, B1)
def lcG (k : Call) (t : Tg) (it2 : IE) (t2 : Tg) (elt : IE) (env : Env) (ow1 : List Nat) : D → Bg → Option (List D × Bg) := fun x B => ob (bindT t x env) fun e1 => bd (evIt k it2 e1 B) fun xs2 B1 => lcGo (lcF2 k t2 elt (wipeE e1 ow1)) xs2 B1
theorem ev_lc2 {k : Call} {it it2 : IE} {t t2 : Tg} {elt : IE} {ow ow1 : List Nat} {env : Env} {B : Bg} : evE k (.lc2 it t it2 t2 elt ow ow1) env B =
    bd (evIt k it env B) fun xs B1 => bd (lcGo2 (lcG k t it2 t2 elt (wipeE env ow) ow1) xs B1) fun ys B5 => if ys.length ≤ 1000 then some (.lst ys, B5) else none := rfl
theorem lcGo2_cons {f : D → Bg → Option (List D × Bg)} {x : D} {xs : List D} {B : Bg} {rem : List D} {B5 : Bg} (h : lcGo2 f (x :: xs) B = some (rem, B5)) : ∃ o B1 ys, f x B = some (o, B1) ∧ lcGo2 f xs B1 = some (ys, B5) ∧ rem = o ++ ys := by
  obtain ⟨o, B1, e1, h⟩ := bd_inv h
  obtain ⟨ys, B2, e2, h⟩ := bd_inv h
  cases h
  exact ⟨o, B1, ys, e1, e2, rfl⟩
structure LcI2 (CR : Addr) (T : List (Addr × Str)) (b : Addr) (S1 H1 : Hp) (D : Addr) (f : Cab.D → Bg → Option (List Cab.D × Bg)) (xs ys : List Cab.D) (B5 : Bg) (i : Nat) (H : Hp) : Prop where
  ex : ∃ (S : Hp) (B : Bg) (acc : List V) (done rem : List Cab.D), Gr b S1 H1 S H ∧ Bas T b S H B ∧ S D = none ∧ H D = some (.lst acc) ∧ Reps CR b S done acc ∧ lcGo2 f (xs.drop i) B = some (rem, B5) ∧ done ++ rem = ys
/-- the same of the inner walk: what the outer one has still to make is rest -/
structure LcJ (CR : Addr) (T : List (Addr × Str)) (b : Addr) (S1 H1 Sx : Hp) (D : Addr) (f : Cab.D → Bg → Option (Option Cab.D × Bg)) (xs ys rest : List Cab.D) (Bm : Bg) (i : Nat) (H : Hp) : Prop where
  ex : ∃ (S : Hp) (B : Bg) (acc : List V) (done rem : List Cab.D), Ex Sx S ∧ Gr b S1 H1 S H ∧ Bas T b S H B ∧ S D = none ∧ H D = some (.lst acc) ∧ Reps CR b S done acc ∧ lcGo f (xs.drop i) B = some (rem, Bm) ∧ done ++ (rem ++ rest) = ys
theorem rd_lc2 {own : List (Str × Nat)} {ii ii1 ie : IE} {t t1 : Tg} (ht : ∀ i ∈ tgSl t, i ∈ own.map (·.2)) {σ : L2.St} {H : Hp} {Q : VK} (h : tF k CR T (.lc2 ii t ii1 t1 ie (own.map (·.2)) (tgSl t1)) σ H Q) :
    tLc2 (tI k CR T ii) (gOf X.K t) tYes (tI k CR T ii1) (gOf X.K t1) tYes (tE k CR T ie) (own.map (·.2)) (tgSl t1) σ H Q := by
  obtain ⟨b, S, env, B, ys, B5, st, ev, q⟩ := h
  rw [ev_lc2] at ev
  obtain ⟨xs, B1, e1, ev⟩ := bd_inv ev
  obtain ⟨zs, B2, e2, ev⟩ := bd_inv ev
  split at ev
  case isFalse => cases ev
  cases ev
  rename_i hz
  generalize hf : lcG k t ii1 t1 ie (wipeE env (own.map (·.2))) (tgSl t1) = f at e2
  have hline := sline
  refine ⟨b, S, env, B, xs, B1, st, e1, fun J S1 H1 g1 bs1 wk D hD => ?_⟩
  have hDb : D ≠ b := bs1.neB hD
  have hDS : S1 D = none := bs1.noneS hD
  refine ⟨fun i m H => m = xs.length - i ∧ i ≤ xs.length ∧ LcI2 CR T b S1 H1 D f xs ys B5 i H, ⟨xs.length, by simp, Nat.zero_le _, ⟨S1, B1, [], [], ys, Gr.newH hD, bs1.newH hD, hDS, upd_same .., rfl, e2, rfl⟩⟩, ?_⟩
  rintro i m Hi ⟨rfl, hi, ⟨Si, Bi, acc, done, rem, gi, bsi, hSi, hHi, hri, hgo, hys⟩⟩
  have wi := wk Si Hi Bi gi.s bsi
  by_cases hlt : i < xs.length
  · rw [drop_at hlt] at hgo
    obtain ⟨o, B2', zs', f1, f2, f3⟩ := lcGo2_cons hgo
    have hx : xs[i]? = some xs[i] := List.getElem?_eq_getElem hlt
    obtain ⟨go, yl⟩ := wi.2 i _ hx
    refine .inr ⟨go, fun H' => LcI2 CR T b S1 H1 D f xs ys B5 (i + 1) H', fun H' p' => ⟨xs.length - (i + 1), by omega, rfl, hlt, p'⟩, fun v H' hy => ?_⟩
    obtain ⟨S', g', bs', rv⟩ := yl v H' hy
    rw [← hf] at f1
    obtain ⟨en, h1, f1⟩ := ob_inv f1
    have gt := gi.trans g'
    refine bind_ok (P := fun σ' env' => (∀ Sj Hj Bj, Ex S' Sj → Gr b S1 H1 Sj Hj → Bas T b Sj Hj Bj → Stt CR T b Sj Hj σ' env' Bj) ∧ L2.wipe σ' (own.map (·.2)) = L2.wipe σ (own.map (·.2))) bs'
      (fun j σ1 env1 d1 v1 hj p1 r1 => ⟨fun Sj Hj Bj e1 e2 e3 => (p1.1 Sj Hj Bj e1 e2 e3).put (Rep.mono e1 d1 r1), by rw [wipe_set (ht j hj)]; exact p1.2⟩)
      ⟨fun Sj Hj Bj e1 e2 e3 => (st.mono (g1.trans e2) e3).wipe _, wipe_wipe⟩ h1 rv fun σ2 p2 => ⟨p2.2, itT (q := LcI2 CR T b S1 H1 D f xs ys B5 (i + 1) H') ?_⟩
    obtain ⟨xs2, B3, h2, f1⟩ := bd_inv f1
    generalize hf2 : lcF2 k t1 ie (wipeE en (tgSl t1)) = f2' at f1
    refine ⟨b, S', en, Bi, xs2, B3, p2.1 S' H' Bi (Ex.refl S') gt bs', h2, fun J2 S2 H2 g2 bs2 wk2 => ?_⟩
    have n1 : Hi D ≠ none := by rw [hHi]; simp
    have k0 : S2 D = none ∧ H2 D = some (.lst acc) := ⟨g2.hid D (g'.per D n1) (g'.hid D n1 hSi), g2.h D _ (g'.h D _ hHi hDb (fun ps z => by cases z)) hDb (fun ps z => by cases z)⟩
    refine ⟨fun j l H => l = xs2.length - j ∧ j ≤ xs2.length ∧ LcJ CR T b S1 H1 S2 D f2' xs2 ys zs' B2' j H, ⟨xs2.length, by simp, Nat.zero_le _,
      ⟨S2, B3, acc, done, o, Ex.refl S2, gt.trans g2, bs2, k0.1, k0.2, Reps.mono (g'.s.trans g2.s) done hri, f1, by rw [← hys, f3]⟩⟩, ?_⟩
    rintro j l Hj ⟨rfl, hj, ⟨Sj, Bj, acc2, done2, rem2, exj, gj, bsj, hSj, hHj, hrj, hgoj, hysj⟩⟩
    have wj := wk2 Sj Hj Bj exj bsj
    by_cases hltj : j < xs2.length
    · rw [drop_at hltj] at hgoj
      obtain ⟨oj, B2j, zsj, m1, m2, m3⟩ := lcGo_cons hgoj
      have hxj : xs2[j]? = some xs2[j] := List.getElem?_eq_getElem hltj
      obtain ⟨goj, ylj⟩ := wj.2 j _ hxj
      refine .inr ⟨goj, fun H' => LcJ CR T b S1 H1 S2 D f2' xs2 ys zs' B2' (j + 1) H', fun H' p' => ⟨xs2.length - (j + 1), by omega, rfl, hltj, p'⟩, fun v2 H3 hy2 => ?_⟩
      obtain ⟨S3, g3, bs3, rv3⟩ := ylj v2 H3 hy2
      rw [← hf2] at m1
      obtain ⟨en2, h3, m1⟩ := ob_inv m1
      obtain ⟨y, B4, h4, m1⟩ := bd_inv m1
      cases m1
      have st3 := p2.1 S3 H3 Bj (g2.s.trans (exj.trans g3.s)) (gj.trans g3) bs3
      refine bind_ok (P := fun σ' env' => Stt CR T b S3 H3 σ' env' Bj ∧ L2.wipe σ' (tgSl t1) = L2.wipe σ2 (tgSl t1)) bs3 (fun j σ1 env1 d1 v1 hj p1 r1 => ⟨p1.1.put r1, by rw [wipe_set hj]; exact p1.2⟩)
        ⟨st3.wipe _, wipe_wipe⟩ h3 rv3 fun σ3 p3 => ⟨p3.2, itT (q := LcJ CR T b S1 H1 S2 D f2' xs2 ys zs' B2' (j + 1) H3) ?_⟩
      refine tE1 p3.1 h4 fun yv S4 H4 g4 bs4 r4 => ?_
      have n2 : Hj D ≠ none := by rw [hHj]; simp
      have k1 : S4 D = none := g4.hid D (g3.per D n2) (g3.hid D n2 hSj)
      have k2 : H4 D = some (.lst acc2) := g4.h D _ (g3.h D _ hHj hDb (fun ps z => by cases z)) hDb (fun ps z => by cases z)
      have hl : done2.length = acc2.length := Reps.length hrj
      have hl2 : ys.length = done2.length + (rem2.length + zs'.length) := by rw [← hysj, List.length_append, List.length_append]
      rw [m3] at hl2 hysj
      have hl2 : ys.length = done2.length + ((zsj.length + 1) + zs'.length) := hl2
      obtain ⟨w1, w2⟩ := lc_push (y := yv) hD hDb (gj.trans (g3.trans g4)) bs4 k1 k2
      exact ⟨acc2, k2, by omega, ⟨S4, _, acc2 ++ [yv], done2 ++ [y], zsj, exj.trans (g3.trans g4).s, w1, w2, k1, upd_same .., (Reps.mono (g3.trans g4).s done2 hrj).append ⟨yv, [], rfl, r4, rfl⟩, m2, by rw [← hysj]; simp⟩⟩
    · have e : j = xs2.length := by omega
      subst e
      rw [List.drop_length] at hgoj
      cases hgoj
      exact .inl ⟨wj.1, ⟨Sj, _, acc2, done2, zs', gj, bsj, hSj, hHj, hrj, f2, by rw [← hysj]; simp⟩⟩
  · have e : i = xs.length := by omega
    subst e
    rw [List.drop_length] at hgo
    cases hgo
    rw [List.append_nil] at hys
    subst hys
    exact .inl ⟨wi.1, q D acc Si Hi (g1.trans gi) bsi hSi hDb (g1.nn hD) hHi hri⟩
theorem sf_lc2 {elt tg iter tg1 iter1 : Expr} {scope : Scope} {own : List (Str × Nat)} {pos : Pos} {ii ii1 ie : IE} {t t1 : Tg}
    (h : PE X (.ListComp elt [⟨tg, iter, [], 0⟩, ⟨tg1, iter1, [], 0⟩] scope pos) (tLc2 (tI k CR T ii) (gOf X.K t) tYes (tI k CR T ii1) (gOf X.K t1) tYes (tE k CR T ie) (own.map (·.2)) (tgSl t1)))
    (ht : ∀ i ∈ tgSl t, i ∈ own.map (·.2)) : PE X (.ListComp elt [⟨tg, iter, [], 0⟩, ⟨tg1, iter1, [], 0⟩] scope pos) (tF k CR T (.lc2 ii t ii1 t1 ie (own.map (·.2)) (tgSl t1))) :=
  PE.by fun σ H Q q => ⟨_, h, rd_lc2 ht q⟩
theorem so_lc2 {elt tg iter tg1 iter1 : Expr} {scope : Scope} {own : List (Str × Nat)} {pos : Pos} {ii ii1 ie : IE} {t t1 : Tg}
    (h : PE X (.ListComp elt [⟨tg, iter, [], 0⟩, ⟨tg1, iter1, [], 0⟩] scope pos) (tLc2 (tI k CR T ii) (gOf X.K t) tYes (tI k CR T ii1) (gOf X.K t1) tYes (tE k CR T ie) (own.map (·.2)) (tgSl t1)))
    (ht : ∀ i ∈ tgSl t, i ∈ own.map (·.2)) : PE X (.ListComp elt [⟨tg, iter, [], 0⟩, ⟨tg1, iter1, [], 0⟩] scope pos) (tE k CR T (.lc2 ii t ii1 t1 ie (own.map (·.2)) (tgSl t1))) := tE_of_tF (fun env B d B' ev => by
  rw [ev_lc2] at ev
  obtain ⟨xs, B1, e1, ev⟩ := bd_inv ev
  obtain ⟨zs, B2, e2, ev⟩ := bd_inv ev
  split at ev
  · cases ev; exact ⟨_, rfl⟩
  · cases ev) (sf_lc2 h ht)
end
end Cab
set_option Elab.async false
set_option linter.all false
set_option maxRecDepth 100000
set_option maxHeartbeats 4000000
/-! Every expression that the compiler reads does what its text in the small language says. -/
namespace Cab
open PySem L2 LamX Evl CabR

section
variable {G : GW} {k : Call} {CR : Addr} {T : List (Addr × Str)} {r : Nat}
theorem cEs_all : ∀ {n : Nat} {C : CC} {es : List Expr} {is : IE}, cEs G n C es = some is → es.all (fun e => !isStar e) = true ∧ ∀ env B ds B', evEs k is env B = some (ds, B') → ds.length = es.length
  | 0, _, _, _, h => by cases h
  | n + 1, C, [], is, h => by
    cases h
    exact ⟨rfl, fun env B ds B' e => by cases e; rfl⟩
  | n + 1, C, e :: es, is, h => by
    have h : (if isStar e = true then none else ob (cE G n C e) fun ie => ob (cEs G n C es) fun is => some (.econs ie is)) = some is := h
    by_cases hs : isStar e = true
    · rw [if_pos hs] at h
      cases h
    rw [if_neg hs] at h
    obtain ⟨ie, h1, h⟩ := ob_inv h
    obtain ⟨js, h2, h⟩ := ob_inv h
    cases h
    obtain ⟨q1, q2⟩ := cEs_all h2
    refine ⟨by rw [List.all_cons, q1]; simpa using hs, fun env B ds B' ev => ?_⟩
    obtain ⟨x, B1, e1, ev⟩ := bd_inv ev
    obtain ⟨ys, B2, e2, ev⟩ := bd_inv ev
    cases ev
    rw [List.length_cons, List.length_cons, q2 _ _ _ _ e2]
def isSet : Expr → Bool
  | .Set _ _ _ => true
  | _ => false
theorem fold_ok {e : Expr} {env : PySem.Env} {x : Value} (h : isSet e = false) : foldedSetIterable e env x = pure x := by
  cases e <;> first | rfl | cases h
theorem cE_noset {n : Nat} {C : CC} {e : Expr} {ie : IE} (h : cE G n C e = some ie) : isSet e = false := by
  cases n with
  | zero => cases h
  | succ n => cases e <;> first | rfl | cases h
theorem cI_noset {n : Nat} {C : CC} {tp : Bool} {e : Expr} {ie : IE} (h : cI G n C tp e = some ie) : isSet e = false := by
  cases n with
  | zero => cases h
  | succ n =>
    cases e <;> first
      | rfl
      | (obtain ⟨ia, h1, _⟩ := ob_inv (show ob (cE G n C _) _ = some ie from h); exact cE_noset h1)
theorem noLst {n : Nat} {C : CC} {es : List Expr} {p : Pos} {ia : IE} (h : cE G n C (.List es p) = some ia) : ∀ env B d B', evE k ia env B = some (d, B') → ∃ xs, d = .lst xs := by
  cases n with
  | zero => cases h
  | succ n =>
    obtain ⟨is, h1, h2⟩ := ob_inv (show ob (cEs G n C es) _ = some ia from h)
    cases h2
    intro env B d B' ev
    obtain ⟨ys, B2, e2, ev⟩ := bd_inv ev
    split at ev
    · cases ev; exact ⟨_, rfl⟩
    · cases ev
/-- all that is shown at fuel n -/
structure So (G : GW) (k : Call) (CR : Addr) (T : List (Addr × Str)) (n : Nat) (C : CC) (X : Cx) : Prop where
  e : ∀ e ie, cE G n C e = some ie → PB k CR T X e ie ∧ (freshL e = true → PE X e (tF k CR T ie))
  es : ∀ es is, cEs G n C es = some is → PA X es (tA k CR T is)
  and_ : ∀ es ie pos, cAnd G n C es = some ie → PE X (.BoolOp .And es pos) (tE k CR T ie) ∧ PW X (.BoolOp .And es pos) (tT k CR T ie)
  or_ : ∀ es ie pos, cOr G n C es = some ie → PE X (.BoolOp .Or es pos) (tE k CR T ie) ∧ PW X (.BoolOp .Or es pos) (tT k CR T ie)
  call : ∀ f args ie p pos, gloB C.sc f = true → cCall G n C f args = some ie → PE X (.Call (.Name f p) args [] pos) (tE k CR T ie)
  o : ∀ o ie, cO G n C o = some ie → PO X o (tO k CR T ie)
  i : ∀ tp e ie, cI G n C tp e = some ie → ∀ tg, (tp = true → isTupE tg = true) → PI X tg e (tI k CR T ie)
theorem slotOf_ok {X : Cx} {C : CC} (g : GX gu r C X) {x : Str} (hv : visB C.sc x = true) {i : Nat} (h : ixOf C.N x = some i) : X.N[i]? = some x ∧ Vis X.env.scope x ∧ (x == ("__debug__" : Str)) = false ∧ (x == ("__classdict__" : Str)) = false := by
  have h1 := ixOf_get h
  exact ⟨by rw [g.N]; exact h1, g.vis x hv, (g.nm x (List.mem_of_getElem? h1)).1, (g.nm x (List.mem_of_getElem? h1)).2⟩
theorem ownOf_ok {X : Cx} {C : CC} (g : GX gu r C X) {e : Expr} {i : Nat} (h : ownOf C e = some i) : ∃ x p, e = .Name x p ∧ X.N[i]? = some x ∧ Vis X.env.scope x ∧ (x == ("__debug__" : Str)) = false ∧ (x == ("__classdict__" : Str)) = false := by
  unfold ownOf at h
  split at h
  · rename_i x p
    obtain ⟨j, h1, h2⟩ := ob_inv h
    split at h2
    · cases h2
      unfold slotOf at h1
      split at h1
      · rename_i hv
        exact ⟨x, p, rfl, slotOf_ok g hv h1⟩
      · cases h1
    · cases h2
  · cases h
theorem so_zero {C : CC} {X : Cx} : So G k CR T 0 C X where
  e := fun _ _ h => by cases h
  es := fun _ _ h => by cases h
  and_ := fun _ _ _ h => by cases h
  or_ := fun _ _ _ h => by cases h
  call := fun _ _ _ _ _ _ h => by cases h
  o := fun _ _ h => by cases h
  i := fun _ _ _ h => by cases h
theorem so_ofs {n : Nat} {C : CC} {X : Cx} (ih : So G k CR T n C X) {e : Expr} {ie : IE} (h : cE G n C e = some ie) : PE X e (tE k CR T ie) := (ih.e e ie h).1.1
theorem nof {e : Expr} {P : Prop} (h : freshL e = false) : freshL e = true → P := fun q => by rw [h] at q; cases q
theorem so_succ {n : Nat} (ih : ∀ (C : CC) (X : Cx), WF gu G k CR T r X.prog X.w X.K X.mg X.base → GX gu r C X → So G k CR T n C X) {C : CC} {X : Cx} (W : WF gu G k CR T r X.prog X.w X.K X.mg X.base) (g : GX gu r C X) : So G k CR T (n + 1) C X where
  e := fun e ie h => by
    have I := ih C X W g
    have hu : X.A.units + 64 < cLine := g.room.units
    have hu1 : X.A.units + 1 < cLine := by omega
    have hr : Room r X.A := g.room.mono (Nat.le_succ r)
    unfold cE at h
    split at h
    · cases h; exact ⟨both (so_c pe_int fun _ _ => rfl) (fun _ => rfl), nof rfl⟩
    · cases h; exact ⟨both (so_c pe_bl fun _ _ => rfl) (fun _ => rfl), nof rfl⟩
    · cases h; exact ⟨both (so_c pe_non fun _ _ => rfl) (fun _ => rfl), nof rfl⟩
    · cases h; exact ⟨both (so_c pe_str fun _ _ => rfl) (fun _ => rfl), nof rfl⟩
    · split at h
      · rename_i hv
        obtain ⟨i, h1, h2⟩ := ob_inv h
        cases h2
        obtain ⟨q1, q2, q3, q4⟩ := slotOf_ok g hv h1
        exact ⟨both (so_v q1 q2 q3 q4) (fun _ => rfl), nof rfl⟩
      · split at h
        · rename_i hg
          obtain ⟨i, h1, h2⟩ := ob_inv h
          cases h2
          obtain ⟨t, h3⟩ := W.glob _ _ h1
          exact ⟨both (so_c (v := .int i) (pe_glob (g.glo _ hg) h3 ⟨t, rfl⟩ (W.gdb1 _ _ h1)) fun _ _ => rfl) (fun _ => rfl), nof rfl⟩
        · cases h
    · rename_i a op c pos
      obtain ⟨o, h1, h'⟩ := ob_inv h
      clear h
      have h := h'
      clear h'
      cases bopOf_eq h1
      cases hi : ownOf C a with
      | some i =>
        rw [hi] at h
        obtain ⟨x, p, rfl, q1, q2, q3, q4⟩ := ownOf_ok g hi
        cases o with
        | add =>
          obtain ⟨ib, h2, h⟩ := ob_inv (show ob (cE G n C c) _ = some ie from h)
          cases h
          exact ⟨both (so_ownCat q1 q2 q3 q4 (so_ofs I h2)) (fun _ => rfl), nof rfl⟩
        | _ => cases h
      | none =>
        rw [hi] at h
        obtain ⟨ia, h2, h⟩ := ob_inv (show ob (cE G n C a) _ = some ie from h)
        obtain ⟨ib, h3, h⟩ := ob_inv h
        cases h
        refine ⟨both (so_bin (so_ofs I h2) (so_ofs I h3)) (fun _ => rfl), fun hf => ?_⟩
        unfold freshL at hf
        split at hf
        · rename_i z; cases z
        · rename_i z; cases z
        · rename_i z
          injection z with z1 z2 z3 z4
          cases o with
          | mul =>
            subst z1
            exact sf_rep (so_ofs I h2) (noLst h2) (so_ofs I h3)
          | _ => cases z2
        · cases hf
    · obtain ⟨ia, h2, h⟩ := ob_inv h
      cases h
      exact ⟨both (so_neg (so_ofs I h2)) (fun _ => rfl), nof rfl⟩
    · obtain ⟨ia, h2, h⟩ := ob_inv h
      cases h
      exact ⟨so_not (I.e _ _ h2).1, nof rfl⟩
    · obtain ⟨q1, q2⟩ := I.and_ _ _ _ h
      exact ⟨⟨q1, q2.pt⟩, nof rfl⟩
    · obtain ⟨q1, q2⟩ := I.or_ _ _ _ h
      exact ⟨⟨q1, q2.pt⟩, nof rfl⟩
    · refine ⟨?_, nof rfl⟩
      split at h
      case isFalse => cases h
      rename_i hm
      split at h
      · rename_i b _
        split at h
        · rename_i hn
          obtain ⟨ia, h2, h⟩ := ob_inv h
          cases h
          unfold isNone at hn
          split at hn
          · exact so_isN false (so_ofs I h2) hm
          · cases hn
        · cases h
      · rename_i b _
        split at h
        · rename_i hn
          obtain ⟨ia, h2, h⟩ := ob_inv h
          cases h
          unfold isNone at hn
          split at hn
          · exact so_isN true (so_ofs I h2) hm
          · cases hn
        · cases h
      · split at h
        · split at h
          · rename_i hg
            split at h
            · rename_i ws hw
              obtain ⟨ia, h2, h⟩ := ob_inv h
              cases h
              exact so_inC W false (g.glo _ hg) (W.gdb3 _ _ hw) hw (so_ofs I h2)
            · cases h
          · obtain ⟨ia, h2, h⟩ := ob_inv h
            obtain ⟨ib, h3, h⟩ := ob_inv h
            cases h
            exact so_in false (so_ofs I h2) (so_ofs I h3) hm
        · obtain ⟨ia, h2, h⟩ := ob_inv h
          obtain ⟨ib, h3, h⟩ := ob_inv h
          cases h
          exact so_in false (so_ofs I h2) (so_ofs I h3) hm
      · split at h
        · split at h
          · rename_i hg
            split at h
            · rename_i kvs hk
              obtain ⟨ia, h2, h⟩ := ob_inv h
              cases h
              exact so_inG W (g.glo _ hg) (W.gdb2 _ _ hk) hk (so_ofs I h2)
            · split at h
              · rename_i ws hw
                obtain ⟨ia, h2, h⟩ := ob_inv h
                cases h
                exact so_inC W true (g.glo _ hg) (W.gdb3 _ _ hw) hw (so_ofs I h2)
              · cases h
          · obtain ⟨ia, h2, h⟩ := ob_inv h
            obtain ⟨ib, h3, h⟩ := ob_inv h
            cases h
            exact so_in true (so_ofs I h2) (so_ofs I h3) hm
        · obtain ⟨ia, h2, h⟩ := ob_inv h
          obtain ⟨ib, h3, h⟩ := ob_inv h
          cases h
          exact so_in true (so_ofs I h2) (so_ofs I h3) hm
      · obtain ⟨o, h1, h⟩ := ob_inv h
        obtain ⟨ia, h2, h⟩ := ob_inv h
        obtain ⟨ib, h3, h⟩ := ob_inv h
        cases h
        cases copOf_eq h1
        exact so_cmp hu (so_ofs I h2) (so_ofs I h3) hm
    · refine ⟨?_, nof rfl⟩
      split at h
      case isFalse => cases h
      rename_i hm
      obtain ⟨o1, h1, h⟩ := ob_inv h
      obtain ⟨o2, h2, h⟩ := ob_inv h
      obtain ⟨ia, h3, h⟩ := ob_inv h
      obtain ⟨ib, h4, h⟩ := ob_inv h
      obtain ⟨ic, h5, h⟩ := ob_inv h
      cases h
      cases copOf_eq h1
      cases copOf_eq h2
      exact so_chain hu (so_ofs I h3) (so_ofs I h4) (so_ofs I h5) hm
    · refine ⟨?_, nof rfl⟩
      split at h
      case isFalse => cases h
      rename_i hm
      obtain ⟨o1, h1, h⟩ := ob_inv h
      obtain ⟨o2, h2, h⟩ := ob_inv h
      obtain ⟨o3, h0, h⟩ := ob_inv h
      obtain ⟨ia, h3, h⟩ := ob_inv h
      obtain ⟨ib, h4, h⟩ := ob_inv h
      obtain ⟨ic, h5, h⟩ := ob_inv h
      obtain ⟨id, h6, h⟩ := ob_inv h
      cases h
      cases copOf_eq h1
      cases copOf_eq h2
      cases copOf_eq h0
      exact so_chain3 hu (so_ofs I h3) (so_ofs I h4) (so_ofs I h5) (so_ofs I h6) hm
    · obtain ⟨it, h3, h⟩ := ob_inv h
      obtain ⟨ia, h4, h⟩ := ob_inv h
      obtain ⟨ib, h5, h⟩ := ob_inv h
      cases h
      exact ⟨so_ite (I.e _ _ h3).1 (I.e _ _ h4).1 (I.e _ _ h5).1, nof rfl⟩
    · obtain ⟨is, h3, h⟩ := ob_inv h
      cases h
      exact ⟨both (so_tup (I.es _ _ h3)) (fun _ => rfl), nof rfl⟩
    · obtain ⟨is, h3, h⟩ := ob_inv h
      cases h
      exact ⟨both (so_lst (I.es _ _ h3)) (fun _ => rfl), fun _ => sf_lst (I.es _ _ h3)⟩
    · obtain ⟨ia, h3, h⟩ := ob_inv h
      obtain ⟨il, h4, h⟩ := ob_inv h
      obtain ⟨ih', h5, h⟩ := ob_inv h
      cases h
      exact ⟨both (so_sl (so_ofs I h3) (I.o _ _ h4) (I.o _ _ h5)) (fun _ => rfl), nof rfl⟩
    · refine ⟨both ?_ (fun _ => rfl), nof rfl⟩
      split at h
      case isFalse => cases h
      rename_i hp
      split at h
      · rename_i i hi
        obtain ⟨x, p, rfl, q1, q2, q3, q4⟩ := ownOf_ok g hi
        obtain ⟨ib, h2, h⟩ := ob_inv h
        cases h
        exact so_ownIx q1 q2 q3 q4 hp (so_ofs I h2)
      · split at h
        · split at h
          · rename_i hg
            split at h
            · rename_i kvs hk
              obtain ⟨ib, h2, h⟩ := ob_inv h
              cases h
              exact so_gD W hp (g.glo _ hg) (W.gdb2 _ _ hk) hk (so_ofs I h2)
            · cases h
          · obtain ⟨ia, h2, h⟩ := ob_inv h
            obtain ⟨ib, h3, h⟩ := ob_inv h
            cases h
            exact so_ix hp (so_ofs I h2) (so_ofs I h3)
        · obtain ⟨ia, h2, h⟩ := ob_inv h
          obtain ⟨ib, h3, h⟩ := ob_inv h
          cases h
          exact so_ix hp (so_ofs I h2) (so_ofs I h3)
    · refine ⟨both ?_ (fun _ => rfl), nof rfl⟩
      split at h
      case isFalse => cases h
      rename_i hg
      split at h
      · obtain ⟨m, h1, h⟩ := ob_inv h
        split at h
        · rename_i hm
          cases h
          subst hm
          exact so_call0 W g.gd hr h1 (g.glo _ hg)
        · cases h
      · split at h
        · rename_i hf
          split at h
          · rename_i hg2
            obtain ⟨U, h1, h⟩ := ob_inv h
            obtain ⟨ia, h2, h⟩ := ob_inv h
            cases h
            cases tyOf_eq h1
            subst hf
            exact so_isi W (isStar_ok h2) (g.glo _ hg) (g.glo _ hg2) (so_ofs I h2)
          · cases h
        · exact I.call _ _ _ _ _ hg h
      · exact I.call _ _ _ _ _ hg h
    · refine ⟨both ?_ (fun _ => rfl), nof rfl⟩
      split at h
      case isFalse => cases h
      rename_i hline
      split at h
      · split at h
        · rename_i hm
          obtain ⟨io, h1, h⟩ := ob_inv h
          obtain ⟨ia, h2, h⟩ := ob_inv h
          split at h
          · cases h
          · cases h
            subst hm
            exact so_mIx (isStar_ok h2) hline (so_ofs I h1) (so_ofs I h2)
        · cases h
      · split at h
        · rename_i hm
          obtain ⟨io, h1, h⟩ := ob_inv h
          obtain ⟨ia, h2, h⟩ := ob_inv h
          obtain ⟨ib, h3, h⟩ := ob_inv h
          split at h
          · cases h
          · cases h
            subst hm
            exact so_dGet hu1 (isStar_ok h2) (isStar_ok h3) hline (so_ofs I h1) (so_ofs I h2) (so_ofs I h3)
        · cases h
      · cases h
    · obtain ⟨F, h1, h⟩ := ob_inv h
      obtain ⟨io, h2, h⟩ := ob_inv h
      cases h
      cases flOf_eq h1
      exact ⟨both (so_fld W (so_ofs I h2)) (fun _ => rfl), nof rfl⟩
    · refine ⟨both ?_ (fun _ => rfl), nof rfl⟩
      split at h
      case isFalse => cases h
      rename_i hk
      obtain ⟨kvs, h1, h⟩ := ob_inv h
      split at h
      · rename_i hn
        cases h
        exact so_dct hk.1 hk.2 h1 hn
      · cases h
    · split at h
      case isFalse => cases h
      rename_i hb
      obtain ⟨ii, h1, h⟩ := ob_inv h
      obtain ⟨t, h2, h⟩ := ob_inv h
      have hN : X.N.Nodup := by rw [g.N]; exact g.nd
      have gb := fun (scope : Scope) (s : Shared) (H : Hp) (Cc : Addr) (cl : List (Str × Addr)) (fp : List Addr) => gx_blk (scope := scope) g s H Cc cl fp
      split at h
      · obtain ⟨ie', h3, h⟩ := ob_inv h
        cases h
        have main := fun (pos : Pos) => pe_lc (g := gOf X.K t) g.calm hN (I.i _ _ _ h1 _ fun z => z) (blk_ok g hb) (fun s H Cc cl fp => pg_of (gb _ s H Cc cl fp) h2) (fun s H Cc cl fp => pts_nil)
          (fun s H Cc cl fp => so_ofs (ih _ (X.blk s H _ (compEnvC _ cl Cc X.env) fp) W (gb _ s H Cc cl fp)) h3) (fun x => fold_ok (cI_noset h1)) (pos := pos)
        exact ⟨both (so_lc (main _) cond_nop (cT_own h2)) (fun _ => rfl), fun _ => sf_lc (main _) cond_nop (cT_own h2)⟩
      · obtain ⟨ic, h4, h⟩ := ob_inv h
        obtain ⟨ie', h3, h⟩ := ob_inv h
        cases h
        have main := fun (pos : Pos) => pe_lc (g := gOf X.K t) g.calm hN (I.i _ _ _ h1 _ fun z => z) (blk_ok g hb) (fun s H Cc cl fp => pg_of (gb _ s H Cc cl fp) h2) (fun s H Cc cl fp => pts_one ((ih _ (X.blk s H _ (compEnvC _ cl Cc X.env) fp) W (gb _ s H Cc cl fp)).e _ _ h4).1.2)
          (fun s H Cc cl fp => so_ofs (ih _ (X.blk s H _ (compEnvC _ cl Cc X.env) fp) W (gb _ s H Cc cl fp)) h3) (fun x => fold_ok (cI_noset h1)) (pos := pos)
        exact ⟨both (so_lc (main _) cond_tst (cT_own h2)) (fun _ => rfl), fun _ => sf_lc (main _) cond_tst (cT_own h2)⟩
      · cases h
    · split at h
      case isFalse => cases h
      rename_i hb
      obtain ⟨ii, h1, h⟩ := ob_inv h
      obtain ⟨t, h2, h⟩ := ob_inv h
      obtain ⟨ii1, h3, h⟩ := ob_inv h
      obtain ⟨t1, h4, h⟩ := ob_inv h
      obtain ⟨ie', h5, h⟩ := ob_inv h
      have hN : X.N.Nodup := by rw [g.N]; exact g.nd
      have gb := fun (scope : Scope) (s : Shared) (H : Hp) (Cc : Addr) (cl : List (Str × Addr)) (fp : List Addr) => gx_blk (scope := scope) g s H Cc cl fp
      have main := fun (pos : Pos) => pe_lc2 (g := gOf X.K t) (g1 := gOf X.K t1) g.calm hN (I.i _ _ _ h1 _ fun z => z) (blk_ok g hb) (cT_own h4) (fun s H Cc cl fp => pg_of (gb _ s H Cc cl fp) h2) (fun s H Cc cl fp => pts_nil)
        (fun s H Cc cl fp => (ih _ (X.blk s H _ (compEnvC _ cl Cc X.env) fp) W (gb _ s H Cc cl fp)).i _ _ _ h3 _ fun z => z) (fun s H Cc cl fp => pg_of (gb _ s H Cc cl fp) h4) (fun s H Cc cl fp => pts_nil)
        (fun s H Cc cl fp => so_ofs (ih _ (X.blk s H _ (compEnvC _ cl Cc X.env) fp) W (gb _ s H Cc cl fp)) h5) (fun x => fold_ok (cI_noset h1)) (fun env x => fold_ok (cI_noset h3)) (pos := pos)
      cases h
      exact ⟨both (so_lc2 (main _) (cT_own h2)) (fun _ => rfl), fun _ => sf_lc2 (main _) (cT_own h2)⟩
    · cases h
  es := fun es is h => by
    have I := ih C X W g
    cases es with
    | nil =>
      cases h
      exact so_nil
    | cons e es =>
      have h : (if isStar e = true then none else ob (cE G n C e) fun ie => ob (cEs G n C es) fun is => some (.econs ie is)) = some is := h
      by_cases hs : isStar e = true
      · rw [if_pos hs] at h
        cases h
      · rw [if_neg hs] at h
        obtain ⟨ia, h2, h⟩ := ob_inv h
        obtain ⟨ib, h3, h⟩ := ob_inv h
        cases h
        exact so_cons (by simpa using hs) (so_ofs I h2) (I.es _ _ h3)
  and_ := fun es ie pos h => by
    have I := ih C X W g
    cases es with
    | nil => cases h
    | cons e es =>
      cases es with
      | nil =>
        obtain ⟨q, _⟩ := I.e e ie h
        exact ⟨pe_one q.1, pw_and1 q.2⟩
      | cons c rest =>
        obtain ⟨ia, h2, h⟩ := ob_inv (show ob (cE G n C e) (fun ie => ob (cAnd G n C (c :: rest)) fun is => some (.and_ ie is)) = some ie from h)
        obtain ⟨ib, h3, h⟩ := ob_inv h
        cases h
        obtain ⟨q1, q2⟩ := I.and_ _ _ pos h3
        exact so_and (I.e _ _ h2).1 q1 q2
  or_ := fun es ie pos h => by
    have I := ih C X W g
    cases es with
    | nil => cases h
    | cons e es =>
      cases es with
      | nil =>
        obtain ⟨q, _⟩ := I.e e ie h
        exact ⟨pe_one q.1, pw_or1 q.2⟩
      | cons c rest =>
        obtain ⟨ia, h2, h⟩ := ob_inv (show ob (cE G n C e) (fun ie => ob (cOr G n C (c :: rest)) fun is => some (.or_ ie is)) = some ie from h)
        obtain ⟨ib, h3, h⟩ := ob_inv h
        cases h
        obtain ⟨q1, q2⟩ := I.or_ _ _ pos h3
        exact so_or (I.e _ _ h2).1 q1 q2
  call := fun f args ie p pos hg h => by
    have I := ih C X W g
    unfold cCall at h
    split at h
    · rename_i m hm
      split at h
      · rename_i hl
        obtain ⟨is, h2, h⟩ := ob_inv h
        cases h
        obtain ⟨q1, q2⟩ := cEs_all (k := k) h2
        have hr : Room r X.A := g.room.mono (Nat.le_succ r)
        cases args with
        | nil =>
          have hl : m = 0 := hl
          subst hl
          cases n with
          | zero => cases h2
          | succ n => cases h2; exact so_call0 W g.gd hr hm (g.glo _ hg)
        | cons e es => exact so_call W g.gd hr hm (g.glo _ hg) q1 (fun env B ds B' ev => by rw [q2 _ _ _ _ ev, hl]) (I.es _ _ h2)
      · cases h
    · obtain ⟨b, h1, h⟩ := ob_inv h
      obtain ⟨is, h2, h⟩ := ob_inv h
      cases h
      obtain ⟨q1, q2⟩ := cEs_all (k := k) h2
      cases args with
      | nil => cases h1
      | cons e es =>
        cases biOf_eq h1
        exact so_bi W g.calm g.room (g.glo _ hg) q1 (I.es _ _ h2)
  o := fun o ie h => by
    have I := ih C X W g
    cases o with
    | none =>
      cases h
      exact so_none
    | some e =>
      obtain ⟨ia, h2, h⟩ := ob_inv (show ob (cE G n C e) _ = some ie from h)
      cases h
      exact so_some (so_ofs I h2)
  i := fun tp e ie h tg htg => by
    have I := ih C X W g
    have tup : ∀ {e : Expr}, isTupE e = true → ∃ es j p, e = .Tuple es j p := fun {e} h => by
      cases e <;> first | exact ⟨_, _, _, rfl⟩ | cases h
    unfold cI at h
    split at h
    · split at h
      case isFalse => cases h
      rename_i hg
      split at h
      · rename_i hf
        subst hf
        split at h
        · split at h
          · cases h
          · rename_i hs
            obtain ⟨ia, h2, h⟩ := ob_inv h
            cases h
            exact si_rng1 (g.glo _ hg) (W.blt _ (by decide)) (isStar_ok h2) (so_ofs I h2)
        · split at h
          · cases h
          · rename_i hs
            obtain ⟨ia, h2, h⟩ := ob_inv h
            obtain ⟨ib, h3, h⟩ := ob_inv h
            cases h
            exact si_rng2 (g.glo _ hg) (W.blt _ (by decide)) (isStar_ok h2) (isStar_ok h3) (so_ofs I h2) (so_ofs I h3)
        · cases h
      · split at h
        · rename_i hf
          subst hf
          split at h
          · split at h
            · cases h
            · rename_i hs
              obtain ⟨ia, h2, h⟩ := ob_inv h
              cases h
              obtain ⟨es, j, tp', rfl⟩ := tup (htg (by simpa using fun z => hs (.inr z)))
              exact si_enum (g.glo _ hg) (W.blt _ (by decide)) (isStar_ok h2) (so_ofs I h2)
          · cases h
        · split at h
          · rename_i hf
            subst hf
            split at h
            · split at h
              · cases h
              · rename_i hs
                obtain ⟨ia, h2, h⟩ := ob_inv h
                obtain ⟨ib, h3, h⟩ := ob_inv h
                cases h
                obtain ⟨es, j, tp', rfl⟩ := tup (htg (by simpa using fun z => hs (.inr (.inr z))))
                exact si_zip (g.glo _ hg) (W.blt _ (by decide)) (isStar_ok h2) (isStar_ok h3) (so_ofs I h2) (so_ofs I h3)
            · cases h
          · obtain ⟨ia, h2, h⟩ := ob_inv h
            cases h
            exact si_seq (so_ofs I h2)
    · obtain ⟨ia, h2, h⟩ := ob_inv h
      cases h
      exact si_seq (so_ofs I h2)
theorem sound : ∀ (n : Nat) (C : CC) (X : Cx), WF gu G k CR T r X.prog X.w X.K X.mg X.base → GX gu r C X → So G k CR T n C X
  | 0, _, _, _, _ => so_zero
  | n + 1, _, _, W, g => so_succ (sound n) W g
end
end Cab
set_option Elab.async false
set_option linter.all false
set_option maxRecDepth 100000
set_option maxHeartbeats 4000000
/-! Statements. -/
namespace Cab
open PySem L2 LamX Evl CabR

theorem swap2 {x y : Str} {px py kp p2 : Pos} {kt k2 : Nat} {a c : Expr} {env : PySem.Env} (hxy : x ≠ y) (hs : isStar a = false) (hs2 : isStar c = false) (h1 : [a, c].all (foldedForSure 8) = false) (h2 : [a, c].all (constantsAlone 8) = false) :
    swappedStores [.Tuple [.Name x px, .Name y py] kt kp] (.Tuple [a, c] k2 p2) env = pure none ∨
    (swappedStores [.Tuple [.Name x px, .Name y py] kt kp] (.Tuple [a, c] k2 p2) env = pure (some [x, y]) ∧ env.scope.names.lookup x = some .local ∧ env.scope.names.lookup y = some .local) := by
  by_cases hb : env.blockKind = .function
  · by_cases hx : env.kindOf x = some .local
    · by_cases hy : env.kindOf y = some .local
      · by_cases hl : py.line = px.line
        · right
          refine ⟨?_, hx, hy⟩
          unfold swappedStores
          simp only [List.length_cons, List.length_nil, hb, h1, h2]
          simp [hx, hy, hl, Expr.pos, List.eraseDups_cons, hxy, Ne.symm hxy]
          intro hh
          exfalso
          rcases hh with hh | hh
          · cases a <;> first | (cases hs; done) | cases hh
          · cases c <;> first | (cases hs2; done) | cases hh
        · left
          unfold swappedStores
          simp only [List.length_cons, List.length_nil, hb, h1, h2]
          simp [hx, hy, hl, Expr.pos, List.eraseDups_cons, hxy, Ne.symm hxy]
      · left
        unfold swappedStores
        simp only [List.length_cons, List.length_nil, hb, h1, h2]
        simp [hx, hy, Expr.pos, List.eraseDups_cons, hxy, Ne.symm hxy]
    · left
      unfold swappedStores
      simp only [List.length_cons, List.length_nil, hb, h1, h2]
      by_cases hy : env.kindOf y = some .local
      · by_cases hl : py.line = px.line
        · simp [hx, hy, hl, Expr.pos, List.eraseDups_cons, hxy, Ne.symm hxy]
        · simp [hx, hy, hl, Expr.pos, List.eraseDups_cons, hxy, Ne.symm hxy]
      · simp [hx, hy, Expr.pos, List.eraseDups_cons, hxy, Ne.symm hxy]
  · left
    unfold swappedStores
    simp only [List.length_cons, List.length_nil, hb, h1, h2]
    simp [hb]
theorem swap3 {x y z : Str} {px py pz kp p2 : Pos} {kt k2 : Nat} {a c d : Expr} {env : PySem.Env} (hxy : x ≠ y) (hxz : x ≠ z) (hyz : y ≠ z) (hs : isStar a = false) (hs2 : isStar c = false) (hs3 : isStar d = false) (h1 : [a, c, d].all (foldedForSure 8) = false) (h2 : [a, c, d].all (constantsAlone 8) = false) :
    swappedStores [.Tuple [.Name x px, .Name y py, .Name z pz] kt kp] (.Tuple [a, c, d] k2 p2) env = pure none ∨
    (swappedStores [.Tuple [.Name x px, .Name y py, .Name z pz] kt kp] (.Tuple [a, c, d] k2 p2) env = pure (some [x, y, z]) ∧ env.scope.names.lookup x = some .local ∧ env.scope.names.lookup y = some .local ∧ env.scope.names.lookup z = some .local) := by
  by_cases hb : env.blockKind = .function
  · by_cases hx : env.kindOf x = some .local
    · by_cases hy : env.kindOf y = some .local
      · by_cases hl : py.line = px.line
        · by_cases hz : env.kindOf z = some .local
          · by_cases hm : pz.line = px.line
            · right
              refine ⟨?_, hx, hy, hz⟩
              unfold swappedStores
              simp only [List.length_cons, List.length_nil, hb, h1, h2]
              simp [hx, hy, hz, hl, hm, Expr.pos, List.eraseDups_cons, hxy, Ne.symm hxy, hxz, Ne.symm hxz, hyz, Ne.symm hyz]
              intro hh
              exfalso
              rcases hh with hh | hh | hh
              · cases a <;> first | (cases hs; done) | cases hh
              · cases c <;> first | (cases hs2; done) | cases hh
              · cases d <;> first | (cases hs3; done) | cases hh
            · left
              unfold swappedStores
              simp only [List.length_cons, List.length_nil, hb, h1, h2]
              simp [hx, hy, hz, hl, hm, Expr.pos]
          · left
            unfold swappedStores
            simp only [List.length_cons, List.length_nil, hb, h1, h2]
            simp [hx, hy, hz, hl, Expr.pos]
        · left
          unfold swappedStores
          simp only [List.length_cons, List.length_nil, hb, h1, h2]
          by_cases hz : env.kindOf z = some .local
          · by_cases hm : pz.line = px.line
            · simp [hx, hy, hz, hl, hm, Expr.pos]
            · simp [hx, hy, hz, hl, hm, Expr.pos]
          · simp [hx, hy, hz, hl, Expr.pos]
      · left
        unfold swappedStores
        simp only [List.length_cons, List.length_nil, hb, h1, h2]
        by_cases hz : env.kindOf z = some .local
        · by_cases hm : pz.line = px.line
          · simp [hx, hy, hz, hm, Expr.pos]
          · simp [hx, hy, hz, hm, Expr.pos]
        · simp [hx, hy, hz, Expr.pos]
    · left
      unfold swappedStores
      simp only [List.length_cons, List.length_nil, hb, h1, h2]
      by_cases hy : env.kindOf y = some .local
      · by_cases hl : py.line = px.line
        · by_cases hz : env.kindOf z = some .local
          · by_cases hm : pz.line = px.line
            · simp [hx, hy, hz, hl, hm, Expr.pos]
            · simp [hx, hy, hz, hl, hm, Expr.pos]
          · simp [hx, hy, hz, hl, Expr.pos]
        · by_cases hz : env.kindOf z = some .local
          · by_cases hm : pz.line = px.line
            · simp [hx, hy, hz, hl, hm, Expr.pos]
            · simp [hx, hy, hz, hl, hm, Expr.pos]
          · simp [hx, hy, hz, hl, Expr.pos]
      · by_cases hz : env.kindOf z = some .local
        · by_cases hm : pz.line = px.line
          · simp [hx, hy, hz, hm, Expr.pos]
          · simp [hx, hy, hz, hm, Expr.pos]
        · simp [hx, hy, hz, Expr.pos]
  · left
    unfold swappedStores
    simp only [List.length_cons, List.length_nil, hb, h1, h2]
    simp [hb]

section
variable {G : GW} {k : Call} {CR : Addr} {T : List (Addr × Str)} {r : Nat} {X : Cx} {C : CC} {b : Addr} {S H S0 H0 : Hp} {σ : L2.St} {env : Env} {B B' : Bg}
theorem tF_of {ie : IE} {Q : VK} (hl : ∀ env B d B', evE k ie env B = some (d, B') → ∃ xs, d = .lst xs) (h : tE k CR T ie σ H Q) : tF k CR T ie σ H Q := by
  obtain ⟨b, S, env, B, d, B', st, ev, q⟩ := h
  obtain ⟨xs, rfl⟩ := hl _ _ _ _ ev
  refine ⟨b, S, env, B, xs, B', st, ev, fun p vs S' H' g bs hp hb hn hv hr => ?_⟩
  exact q (.ref p) (upd S' p (.lst vs)) H' (g.show hn hp) (bs.show hv hb (fun ps z => by cases z) hp) ⟨p, vs, rfl, upd_same .., Reps.mono (fun a u e => by rw [upd_ne (ne_of_none e hp)]; exact e) xs hr⟩
def isLc : Expr → Bool
  | .ListComp _ _ _ _ => true
  | _ => false
def isSd : Expr → Bool
  | .SetComp .. => true
  | .DictComp .. => true
  | _ => false
theorem sw_no {e : Expr} {t : Option Expr} {l : Nat} {env : PySem.Env} (h : isLc e = false) (hk : isSd e = false) : swapsWith e t l env = pure false := by
  cases e <;> first | (cases h; done) | (cases hk; done) | rfl
theorem sw_lc {elt : Expr} {gs : List Comprehension} {scope : Scope} {pos py : Pos} {y : Str} {l : Nat} {env : PySem.Env} : swapsWith (.ListComp elt gs scope pos) (some (.Name y py)) l env = pure false ∨
    (swapsWith (.ListComp elt gs scope pos) (some (.Name y py)) l env = pure true ∧ env.scope.names.lookup y = some .local) := by
  have e : swapsWith (.ListComp elt gs scope pos) (some (.Name y py)) l env = pure (env.blockKind == .function && env.kindOf y == some .local && py.line == pos.line && !(scope.names.any fun (n, k) => n == y && (k == .local || k == .cell))) := rfl
  cases hb : (env.blockKind == .function && env.kindOf y == some .local && py.line == pos.line && !(scope.names.any fun (n, k) => n == y && (k == .local || k == .cell))) with
  | false => exact .inl (by rw [e, hb])
  | true =>
    right
    refine ⟨by rw [e, hb], ?_⟩
    simp only [Bool.and_eq_true] at hb
    exact eq_of_beq hb.1.1.2
theorem cE_noComp {n : Nat} {e : Expr} {ie : IE} (h : cE G n C e = some ie) : isSd e = false := by
  cases n with
  | zero => cases h
  | succ n => cases e <;> first | rfl | cases h
/-- name = [..] whose store goes ahead of the block's end -/
theorem ps_lc {n : Nat} (W : WF gu G k CR T r X.prog X.w X.K X.mg X.base) (g : GX gu r C X) {e : Expr} {ie : IE} (h : cE G n C e = some ie) (hl : isLc e = true) {i : Nat} {y : Str} {py spos : Pos} (hy : X.N[i]? = some y) (hyl : X.env.scope.names.lookup y = some .local)
    (hsw : swapsWith e (some (.Name y py)) spos.line X.env = pure true) : PS X (.Assign [.Name y py] e spos) (tAsg (tF k CR T ie) (gName i)) := by
  cases n with
  | zero => cases h
  | succ n =>
    have I : So G k CR T n C X := sound n C X W g
    have hN : X.N.Nodup := by rw [g.N]; exact g.nd
    have gb := fun (scope : Scope) (s : Shared) (H : Hp) (Cc : Addr) (cl : List (Str × Addr)) (fp : List Addr) => gx_blk (scope := scope) g s H Cc cl fp
    unfold cE at h
    split at h
    all_goals first | (cases hl; done) | (cases h; done) | skip
    · split at h
      case isFalse => cases h
      rename_i hb
      obtain ⟨ii, h1, h⟩ := ob_inv h
      obtain ⟨t, h2, h⟩ := ob_inv h
      split at h
      · obtain ⟨ie', h3, h⟩ := ob_inv h
        cases h
        have main := ps_setLc (g := gOf X.K t) g.calm hN hy hyl hsw (I.i _ _ _ h1 _ fun z => z) (blk_ok g hb) (fun s H Cc cl fp => pg_of (gb _ s H Cc cl fp) h2) (fun s H Cc cl fp => pts_nil)
          (fun s H Cc cl fp => so_ofs (sound n _ (X.blk s H _ (compEnvC _ cl Cc X.env) fp) W (gb _ s H Cc cl fp)) h3) (fun x => fold_ok (cI_noset h1))
        exact PS.by fun D σ H q => ⟨_, main, rd_lc cond_nop (cT_own h2) q⟩
      · obtain ⟨ic, h4, h⟩ := ob_inv h
        obtain ⟨ie', h3, h⟩ := ob_inv h
        cases h
        have main := ps_setLc (g := gOf X.K t) g.calm hN hy hyl hsw (I.i _ _ _ h1 _ fun z => z) (blk_ok g hb) (fun s H Cc cl fp => pg_of (gb _ s H Cc cl fp) h2) (fun s H Cc cl fp => pts_one ((sound n _ (X.blk s H _ (compEnvC _ cl Cc X.env) fp) W (gb _ s H Cc cl fp)).e _ _ h4).1.2)
          (fun s H Cc cl fp => so_ofs (sound n _ (X.blk s H _ (compEnvC _ cl Cc X.env) fp) W (gb _ s H Cc cl fp)) h3) (fun x => fold_ok (cI_noset h1))
        exact PS.by fun D σ H q => ⟨_, main, rd_lc cond_tst (cT_own h2) q⟩
      · cases h
    · split at h
      case isFalse => cases h
      rename_i hb
      obtain ⟨ii, h1, h⟩ := ob_inv h
      obtain ⟨t, h2, h⟩ := ob_inv h
      obtain ⟨ii1, h3, h⟩ := ob_inv h
      obtain ⟨t1, h4, h⟩ := ob_inv h
      obtain ⟨ie', h5, h⟩ := ob_inv h
      cases h
      have main := ps_setLc2 (g := gOf X.K t) (g1 := gOf X.K t1) g.calm hN hy hyl hsw (I.i _ _ _ h1 _ fun z => z) (blk_ok g hb) (cT_own h4) (fun s H Cc cl fp => pg_of (gb _ s H Cc cl fp) h2) (fun s H Cc cl fp => pts_nil)
        (fun s H Cc cl fp => (sound n _ (X.blk s H _ (compEnvC _ cl Cc X.env) fp) W (gb _ s H Cc cl fp)).i _ _ _ h3 _ fun z => z) (fun s H Cc cl fp => pg_of (gb _ s H Cc cl fp) h4) (fun s H Cc cl fp => pts_nil)
        (fun s H Cc cl fp => so_ofs (sound n _ (X.blk s H _ (compEnvC _ cl Cc X.env) fp) W (gb _ s H Cc cl fp)) h5) (fun x => fold_ok (cI_noset h1)) (fun env x => fold_ok (cI_noset h3))
      exact PS.by fun D σ H q => ⟨_, main, rd_lc2 (cT_own h2) q⟩
theorem lc_lst {n : Nat} {e : Expr} {ie : IE} (h : cE G n C e = some ie) (hl : isLc e = true) : ∀ env B d B', evE k ie env B = some (d, B') → ∃ xs, d = .lst xs := by
  cases n with
  | zero => cases h
  | succ n =>
    unfold cE at h
    split at h
    all_goals first | (cases hl; done) | (cases h; done) | skip
    · split at h
      case isFalse => cases h
      obtain ⟨ii, h1, h⟩ := ob_inv h
      obtain ⟨t, h2, h⟩ := ob_inv h
      split at h
      · obtain ⟨ie', h3, h⟩ := ob_inv h
        cases h
        intro env B d B' ev
        rw [ev_lc] at ev
        obtain ⟨xs, B1, e1, ev⟩ := bd_inv ev
        obtain ⟨zs, B2, e2, ev⟩ := bd_inv ev
        split at ev
        · cases ev; exact ⟨_, rfl⟩
        · cases ev
      · obtain ⟨ic, h4, h⟩ := ob_inv h
        obtain ⟨ie', h3, h⟩ := ob_inv h
        cases h
        intro env B d B' ev
        rw [ev_lc] at ev
        obtain ⟨xs, B1, e1, ev⟩ := bd_inv ev
        obtain ⟨zs, B2, e2, ev⟩ := bd_inv ev
        split at ev
        · cases ev; exact ⟨_, rfl⟩
        · cases ev
      · cases h
    · split at h
      case isFalse => cases h
      obtain ⟨ii, h1, h⟩ := ob_inv h
      obtain ⟨t, h2, h⟩ := ob_inv h
      obtain ⟨ii1, h3, h⟩ := ob_inv h
      obtain ⟨t1, h4, h⟩ := ob_inv h
      obtain ⟨ie', h5, h⟩ := ob_inv h
      cases h
      intro env B d B' ev
      rw [ev_lc2] at ev
      obtain ⟨xs, B1, e1, ev⟩ := bd_inv ev
      obtain ⟨zs, B2, e2, ev⟩ := bd_inv ev
      split at ev
      · cases ev; exact ⟨_, rfl⟩
      · cases ev
/-- a value's reading within a statement -/
theorem Ste.tE {ie : IE} {x : D} {R : VK} (st : Ste CR T b S0 H0 S H σ env B) (ev : evE k ie env B = some (x, B')) (h : ∀ v S1 H1, Ste CR T b S0 H0 S1 H1 σ env B' → Ex S S1 → Gr b S H S1 H1 → Rep CR b S1 x v → R v H1) : tE k CR T ie σ H R :=
  tE1 st.st ev fun v S1 H1 g bs rv => h v S1 H1 (st.mono g bs) g.s g rv
theorem asg_out {is : List Nat} {D' : Ends} {d : D} {t : Tg} {env' : Env} (x : Ste CR T b S0 H0 S H σ env B) (hb : bindT t d env = some env') {Sx : Hp} (q : OutQ CR T b S0 H0 Sx D' B (.nx env')) (ex : Ex Sx S) {v : V} (rv : Rep CR b S d v) : gOf X.K t v σ H D'.nx :=
  bind_ok (P := fun σ' env' => Ste CR T b S0 H0 S H σ' env' B) x.st.bas (fun i σ1 env1 d1 v1 _ p r1 => p.put r1) x hb rv fun σ' p => q σ' S H p ex
/-- target = e, the pair (or the value) made first -/
theorem st_asg {tg e : Expr} {ie : IE} {t : Tg} {pos : Pos} (h : PS X (.Assign [tg] e pos) (tAsg (tE k CR T ie) (gOf X.K t))) : PS X (.Assign [tg] e pos) (tS k CR T (.asg t ie)) := by
  refine PS.by fun D' σ H ⟨b, S0, H0, S, env, B, o, B', st, ev, q⟩ => ⟨_, h, ?_⟩
  obtain ⟨d, B1, e1, ev⟩ := bd_inv ev
  obtain ⟨env', e2, ev⟩ := ob_inv ev
  cases ev
  exact st.tE e1 fun v S1 H1 st1 ex _ rv => asg_out (is := []) st1 e2 q ex rv
theorem st_asgF {x : Str} {px : Pos} {e : Expr} {ie : IE} {i : Nat} {pos : Pos} (hl : ∀ env B d B', evE k ie env B = some (d, B') → ∃ xs, d = .lst xs) (h : PS X (.Assign [.Name x px] e pos) (tAsg (tF k CR T ie) (gName i))) : PS X (.Assign [.Name x px] e pos) (tS k CR T (.asg (.nm i) ie)) := by
  refine PS.by fun D' σ H ⟨b, S0, H0, S, env, B, o, B', st, ev, q⟩ => ⟨_, h, ?_⟩
  obtain ⟨d, B1, e1, ev⟩ := bd_inv ev
  obtain ⟨env', e2, ev⟩ := ob_inv ev
  cases ev
  exact tF_of hl (st.tE e1 fun v S1 H1 st1 ex _ rv => asg_out (X := X) (is := []) st1 e2 q ex rv)
theorem st_own {x : Str} {px : Pos} {e : Expr} {ie : IE} {i : Nat} {pos : Pos} (h : PS X (.Assign [.Name x px] e pos) (tAsg (tF k CR T ie) (gName i))) : PS X (.Assign [.Name x px] e pos) (tS k CR T (.own i ie)) := by
  refine PS.by fun D' σ H ⟨b, S0, H0, S, env, B, o, B', st, ev, q⟩ => ⟨_, h, ?_⟩
  obtain ⟨d, B1, e1, ev⟩ := bd_inv ev
  cases d with
  | lst xs =>
    cases ev
    refine ⟨b, S, env, B, xs, _, st.st, e1, fun p vs S' H' g bs hp hb hn hv hr => ?_⟩
    refine q _ S' H' ((st.mono g bs).take hp hb (st.gr.nn hn) hv hr fun j ys e2 e3 => ?_) g.s
    obtain ⟨p', us, k1, k2, k3, k4, k5⟩ := st.st.own j ys e2
    rw [e3] at k1
    cases k1
    rw [hn] at k4
    cases k4
  | _ => cases ev
theorem three_rep {b : Addr} {S : Hp} {d e f : D} {vs : List V} (r : Reps CR b S [d, e, f] vs) : ∃ u v w, vs = [u, v, w] ∧ Rep CR b S d u ∧ Rep CR b S e v ∧ Rep CR b S f w := by
  obtain ⟨u, us, h1, h2, h3⟩ := r
  obtain ⟨v, w, e1, h4, h5⟩ := two_rep h3
  subst e1
  exact ⟨u, v, w, h1, h2, h4, h5⟩
theorem st_par2 {ts : List Expr} {e : Expr} {pos : Pos} {i j : Nat} {ie : IE} {kt : Nat} {pt : Pos} (h : PS X (.Assign [.Tuple ts kt pt] e pos) (tPar i j (tA k CR T ie))) : PS X (.Assign [.Tuple ts kt pt] e pos) (tS k CR T (.asg (.tp [i, j]) (.tup ie))) := by
  refine PS.by fun D' σ H ⟨b, S0, H0, S, env, B, o, B', st, ev, q⟩ => ⟨_, h, ?_⟩
  obtain ⟨d, B1, e1, ev⟩ := bd_inv ev
  obtain ⟨env', e2, ev⟩ := ob_inv ev
  cases ev
  obtain ⟨ds, B2, e3, e1⟩ := bd_inv e1
  split at e1
  · cases e1
    have e2 : setAll [i, j] ds env = some env' := e2
    match ds, e2 with
    | [d1, d2], e2 =>
      cases e2
      refine ⟨b, S, env, B, _, _, st.st, e3, fun vs S1 H1 g bs rv => ?_⟩
      obtain ⟨v, w, rfl, r1, r2⟩ := two_rep rv
      exact ⟨v, w, rfl, q _ S1 H1 (((st.mono g bs).put r1).put r2) g.s⟩
  · cases e1
theorem st_par3 {ts : List Expr} {e : Expr} {pos : Pos} {i j l : Nat} {ie : IE} {kt : Nat} {pt : Pos} (h : PS X (.Assign [.Tuple ts kt pt] e pos) (tPar3 i j l (tA k CR T ie))) : PS X (.Assign [.Tuple ts kt pt] e pos) (tS k CR T (.asg (.tp [i, j, l]) (.tup ie))) := by
  refine PS.by fun D' σ H ⟨b, S0, H0, S, env, B, o, B', st, ev, q⟩ => ⟨_, h, ?_⟩
  obtain ⟨d, B1, e1, ev⟩ := bd_inv ev
  obtain ⟨env', e2, ev⟩ := ob_inv ev
  cases ev
  obtain ⟨ds, B2, e3, e1⟩ := bd_inv e1
  split at e1
  · cases e1
    have e2 : setAll [i, j, l] ds env = some env' := e2
    match ds, e2 with
    | [d1, d2, d3], e2 =>
      cases e2
      refine ⟨b, S, env, B, _, _, st.st, e3, fun vs S1 H1 g bs rv => ?_⟩
      obtain ⟨u, v, w, rfl, r1, r2, r3⟩ := three_rep rv
      exact ⟨u, v, w, rfl, q _ S1 H1 ((((st.mono g bs).put r1).put r2).put r3) g.s⟩
  · cases e1
theorem asg_plain {c : Expr} {o : Expr} {pos : Pos} {env : PySem.Env} (h : plainIxB c = true) : ∀ v, assign (.Subscript o c pos) env v = (do
      let ov ← holding [v] (eval o env)
      let iv ← holding [v, ov] (eval c env)
      standAt pos
      holding [v, ov, iv] (setItem ov iv v)
      release [v, ov, iv] []) := fun v => by
  cases c <;> first | rfl | cases h
theorem aug_plain {c : Expr} (h : plainIxB c = true) : ∀ ov iv new, augStore c ov iv new = (do holding [new, ov, iv] (setItem ov iv new); release [new, ov, iv] []; pure .next) := fun ov iv new => by
  cases c <;> first | rfl | cases h
theorem own_ste {i : Nat} {xs : List D} (st : Ste CR T b S0 H0 S H σ env B) (e : getO env i = some xs) : ∃ p vs, env[i]? = some (Sl.own xs) ∧ σ[i]? = some (some (.ref p)) ∧ S p = none ∧ p ≠ b ∧ H p = some (.lst vs) ∧ Reps CR b S xs vs := by
  have e0 := e
  unfold getO at e
  split at e
  · rename_i he
    cases e
    obtain ⟨p, vs, h⟩ := st.st.own i _ he
    exact ⟨p, vs, he, h⟩
  · cases e
theorem ixN_lt {n m : Nat} {i : Int} (h : ixN n i = some m) : m < n := by
  unfold ixN at h
  split at h
  · split at h
    · cases h; omega
    · cases h
  · split at h
    · cases h; omega
    · cases h
/-- xs[j] = e, xs the slot's own -/
theorem st_setI {o c e : Expr} {i : Nat} {ic ie : IE} {pos tpos : Pos} (ho : PE X o (tVar i)) (hp : plainIxB c = true) (hc : PE X c (tE k CR T ic)) (he : PE X e (tE k CR T ie)) (hs : swapsWithSole [.Subscript o c tpos] e pos.line X.env = pure false) (hw : swappedStores [.Subscript o c tpos] e X.env = pure none) :
    PS X (.Assign [.Subscript o c tpos] e pos) (tS k CR T (.setI i ic ie)) := by
  refine PS.by fun D' σ H ⟨b, S0, H0, S, env, B, oo, B', st, ev, q⟩ => ⟨_, ps_asg he (pg_sub ho hc set_list (asg_plain hp)) hs hw rfl, ?_⟩
  obtain ⟨d, B1, e1, ev⟩ := bd_inv ev
  obtain ⟨y, B2, e2, ev⟩ := bd_inv ev
  obtain ⟨xs, e3, ev⟩ := ob_inv ev
  obtain ⟨p, vs0, he0, hσ, _, _, _, _⟩ := own_ste st e3
  cases y with
  | int n =>
    obtain ⟨m, e4, ev⟩ := ob_inv ev
    cases ev
    refine st.tE e1 fun v S1 H1 st1 ex1 _ rv => ⟨.ref p, hσ, st1.tE e2 fun w S2 H2 st2 ex2 _ rw => ?_⟩
    have rw : w = V.int n := rw
    subst rw
    obtain ⟨p', vs, he1, hσ1, k1, k2, k3, k4⟩ := own_ste st2 e3
    rw [hσ] at hσ1
    cases hσ1
    have hl := Reps.length k4
    exact ⟨p, vs, n, m, rfl, rfl, k3, by rw [← hl]; exact e4, q _ S2 _ (st2.write he1 hσ k1 k2 k3 (k4.set m (Rep.mono ex2 d rv))) (ex1.trans ex2)⟩
  | _ => cases ev
/-- xs[j] += e -/
theorem st_augI {o c e : Expr} {i : Nat} {ic ie : IE} {pos tpos : Pos} (ho : PE X o (tVar i)) (hp : plainIxB c = true) (hc : PE X c (tE k CR T ic)) (he : PE X e (tE k CR T ie)) : PS X (.AugAssign (.Subscript o c tpos) .Add e pos) (tS k CR T (.augI i ic ie)) := by
  refine PS.by fun D' σ H ⟨b, S0, H0, S, env, B, oo, B', st, ev, q⟩ => ⟨_, ps_augS ho hc get_list he iop_add set_list (aug_plain hp), ?_⟩
  obtain ⟨y, B1, e1, ev⟩ := bd_inv ev
  obtain ⟨d, B2, e2, ev⟩ := bd_inv ev
  obtain ⟨xs, e3, ev⟩ := ob_inv ev
  cases y with
  | int n =>
    cases d with
    | int a =>
      obtain ⟨m, e4, ev⟩ := ob_inv ev
      obtain ⟨z, e5, ev⟩ := ob_inv ev
      cases z with
      | int c' =>
        cases ev
        obtain ⟨p, vs0, he0, hσ, _, _, _, _⟩ := own_ste st e3
        refine ⟨.ref p, hσ, st.tE e1 fun w S1 H1 st1 ex1 _ rw => ?_⟩
        have rw : w = V.int n := rw
        subst rw
        obtain ⟨p1, vs, he1, hσ1, k1, k2, k3, k4⟩ := own_ste st1 e3
        rw [hσ] at hσ1
        cases hσ1
        have hl := Reps.length k4
        obtain ⟨u, u1, u2⟩ := Reps.get k4 e5
        have u2 : u = V.int c' := u2
        subst u2
        refine ⟨p, vs, n, _, rfl, rfl, .inl (.inl k3), by unfold atI; rw [← hl, e4]; exact u1, st1.tE e2 fun w S2 H2 st2 ex2 g2 rw => ?_⟩
        have rw : w = V.int a := rw
        subst rw
        obtain ⟨p2, vs2, he2, hσ2, j1, j2, j3, j4⟩ := own_ste st2 e3
        rw [hσ] at hσ2
        cases hσ2
        have hl2 := Reps.length j4
        exact ⟨c', a, rfl, rfl, p, vs2, n, m, rfl, rfl, j3, by rw [← hl2]; exact e4, q _ S2 _ (st2.write he2 hσ j1 j2 j3 (j4.set m rfl)) (ex1.trans ex2)⟩
      | _ => cases ev
    | _ => cases ev
  | _ => cases ev
theorem set_self {α : Type} {l : List α} {i : Nat} {a : α} (h : l[i]? = some a) : l.set i a = l := by
  apply List.ext_getElem?
  intro j
  by_cases e : i = j
  · subst e
    rw [List.getElem?_set_self (List.getElem?_eq_some_iff.mp h).1, h]
  · rw [List.getElem?_set_ne e]
/-- xs += e -/
theorem st_ext {x : Str} {e : Expr} {i : Nat} {ie : IE} {pos p' : Pos} (hN : X.N.Nodup) (hi : X.N[i]? = some x) (hx : Loc X.env.scope x) (hf : X.fn x = true ∨ X.env.scope.names.lookup x = some .local) (he : PE X e (tE k CR T ie)) : PS X (.AugAssign (.Name x p') .Add e pos) (tS k CR T (.ext i ie)) := by
  refine PS.by fun D' σ H ⟨b, S0, H0, S, env, B, oo, B', st, ev, q⟩ => ⟨_, ps_aug hN hi hx he iop_ext hf, ?_⟩
  obtain ⟨d, B1, e1, ev⟩ := bd_inv ev
  obtain ⟨xs, e3, ev⟩ := ob_inv ev
  cases d with
  | lst ys =>
    have ev : (if xs.length + ys.length ≤ 1000 then some (Out.nx (env.set i (.own (xs ++ ys))), B1) else none) = some (oo, B') := ev
    split at ev
    · rename_i hl
      cases ev
      obtain ⟨p, vs0, he0, hσ, _, _, _, _⟩ := own_ste st e3
      refine ⟨.ref p, hσ, st.tE e1 fun w S1 H1 st1 ex1 _ rw => ?_⟩
      obtain ⟨a, ws, rfl, h1, h2⟩ := rw
      obtain ⟨p1, vs, he1, hσ1, k1, k2, k3, k4⟩ := own_ste st1 e3
      rw [hσ] at hσ1
      cases hσ1
      have l1 := Reps.length k4
      have l2 := Reps.length h2
      have hs := sline
      refine ⟨p, a, vs, ws, rfl, rfl, k3, st1.st.bas.sub _ _ h1, by omega, ?_⟩
      show D'.nx (σ.set i (some (.ref p))) _
      rw [set_self hσ]
      exact q _ S1 _ (st1.write he1 hσ k1 k2 k3 (k4.append h2)) ex1
    · cases ev
  | _ => cases ev
/-- return e -/
theorem st_ret {e : Expr} {ie : IE} {pos : Pos} (he : PE X e (tE k CR T ie)) : PS X (.Return (some e) pos) (tS k CR T (.ret ie)) := by
  refine PS.by fun D' σ H ⟨b, S0, H0, S, env, B, oo, B', st, ev, q⟩ => ⟨_, ps_ret he, ?_⟩
  obtain ⟨d, B1, e1, ev⟩ := bd_inv ev
  cases ev
  obtain ⟨S', ex, st'⟩ := st.frzAll
  exact st'.tE e1 fun v S1 H1 st1 _ _ rv => q v S1 H1 st1.gr st1.st.bas rv
/-- xs.append(e) -/
theorem st_app {x : Str} {e : Expr} {i : Nat} {ie : IE} {pos xp apos cpos : Pos} (ho : PE X (.Name x xp) (tVar i)) (hs : isStar e = false) (hline : (apos.endLine == cpos.line) = true) (he : PE X e (tE k CR T ie)) : PS X (.Expr (.Call (.Attribute (.Name x xp) "append" apos) [e] [] cpos) pos) (tS k CR T (.app i ie)) := by
  refine PS.by fun D' σ H ⟨b, S0, H0, S, env, B, oo, B', st, ev, q⟩ => ⟨_, ps_expr (pe_bm PySem.F.plainAttrs_list PySem.F.slot_list_append PySem.F.type_list_append mt_append ho (pa_cons he pa_nil (star1 hs)) rfl (few1 hs) hline (star1 hs) rfl), ?_⟩
  obtain ⟨d, B1, e1, ev⟩ := bd_inv ev
  obtain ⟨xs, e3, ev⟩ := ob_inv ev
  split at ev
  · cases ev
    rename_i hl
    obtain ⟨S', ex, st'⟩ := st.frzBut i
    have e4 : getO (frzBut i env) i = some xs := by
      unfold getO at e3 ⊢
      rw [(frzBut_get i env i).2 (fun h => h rfl)]
      exact e3
    obtain ⟨p, vs0, he0, hσ, _, _, h4, _⟩ := own_ste st' e4
    refine ⟨.ref p, hσ, .inl ⟨rfl, vs0, .inl (.inl h4)⟩, st'.tE e1 fun w S1 H1 st1 ex1 _ rw => ?_⟩
    obtain ⟨p1, vs, he1, hσ1, k1, k2, k3, k4⟩ := own_ste st1 e4
    rw [hσ] at hσ1
    cases hσ1
    have l1 := Reps.length k4
    have hs := sline
    exact ⟨p, vs, w, rfl, rfl, k3, by omega, q _ S1 _ (st1.write he1 hσ k1 k2 k3 (k4.append ⟨w, [], rfl, rw, rfl⟩)) (ex.trans ex1)⟩
  · cases ev
theorem st_skip {pos : Pos} : PS X (.Pass pos) (tS k CR T .skip) := by
  refine PS.by fun D' σ H ⟨b, S0, H0, S, env, B, oo, B', st, ev, q⟩ => ⟨_, ps_pass, ?_⟩
  cases ev
  exact q σ S H st (Ex.refl S)
theorem st_nil : PSs X [] (tS k CR T .skip) := by
  refine PSs.by fun D' σ H ⟨b, S0, H0, S, env, B, oo, B', st, ev, q⟩ => ⟨_, pss_nil, ?_⟩
  cases ev
  exact q σ S H st (Ex.refl S)
theorem st_cons {st : Stmt} {rest : List Stmt} {is js : IS} (h1 : PS X st (tS k CR T is)) (h2 : PSs X rest (tS k CR T js)) : PSs X (st :: rest) (tS k CR T (.seq is js)) := by
  refine PSs.by fun D' σ H ⟨b, S0, H0, S, env, B, oo, B', st, ev, q⟩ => ⟨_, pss_cons h1 h2, ?_⟩
  obtain ⟨o, B1, e1, ev⟩ := bd_inv ev
  cases o with
  | rt d =>
    cases ev
    exact ⟨b, S0, H0, S, env, B, _, _, st, e1, q⟩
  | nx e =>
    refine ⟨b, S0, H0, S, env, B, _, _, st, e1, fun σ' S' H' st' ex => ?_⟩
    refine ⟨b, S0, H0, S', e, B1, oo, B', st', ev, ?_⟩
    cases oo with
    | rt d => exact q
    | nx e => exact fun σ2 S2 H2 st2 ex2 => q σ2 S2 H2 st2 (ex.trans ex2)
theorem st_if {t : Expr} {a c : List Stmt} {it : IE} {ia ic : IS} {pos : Pos} (ht : PT X t (tT k CR T it)) (ha : PSs X a (tS k CR T ia)) (hc : PSs X c (tS k CR T ic)) : PS X (.If t a c pos) (tS k CR T (.ife it ia ic)) := by
  refine PS.by fun D' σ H ⟨b, S0, H0, S, env, B, oo, B', st, ev, q⟩ => ⟨_, ps_if ht ha hc, ?_⟩
  obtain ⟨d, B1, e1, ev⟩ := bd_inv ev
  cases d with
  | bl z =>
    refine ⟨b, S, env, B, z, B1, st.st, e1, fun S1 H1 g bs => ?_⟩
    have q' : OutQ CR T b S0 H0 S1 D' B' oo := by
      cases oo with
      | rt d => exact q
      | nx e => exact fun σ2 S2 H2 st2 ex2 => q σ2 S2 H2 st2 (g.s.trans ex2)
    cases z with
    | true => exact itT ⟨b, S0, H0, S1, env, B1, oo, B', st.mono g bs, ev, q'⟩
    | false => exact itF ⟨b, S0, H0, S1, env, B1, oo, B', st.mono g bs, ev, q'⟩
  | _ => cases ev
theorem forGo_cons {t : Tg} {f : Env → Bg → Option (Out × Bg)} {x : D} {xs : List D} {env : Env} {B : Bg} {o : Out} {B' : Bg} (h : forGo t f (x :: xs) env B = some (o, B')) : ∃ e1 o1 B1, bindT t x env = some e1 ∧ f e1 B = some (o1, B1) ∧ (match o1 with
    | .rt d => o = .rt d ∧ B' = B1
    | .nx e2 => forGo t f xs e2 B1 = some (o, B')) := by
  obtain ⟨e1, h1, h⟩ := ob_inv h
  obtain ⟨o1, B1, h2, h⟩ := bd_inv h
  refine ⟨e1, o1, B1, h1, h2, ?_⟩
  cases o1 with
  | rt d => cases h; exact ⟨rfl, rfl⟩
  | nx e2 => exact h
theorem st_for {tg it : Expr} {body : List Stmt} {ii : IE} {t : Tg} {ib : IS} {pos : Pos} (hx : X.xe = fun _ _ => False) (hc : X.calm = true) (hi : PI X tg it (tI k CR T ii)) (hg : PG X tg (gOf X.K t)) (hb : PSs X body (tS k CR T ib)) (hs : ∀ x, foldedSetIterable it X.env x = pure x) :
    PS X (.For tg it body [] pos) (tS k CR T (.for_ ii t ib)) := by
  refine PS.by fun D' σ H ⟨b, S0, H0, S, env, B, oo, B', st, ev, q⟩ => ⟨_, ps_for (by rw [hx]; exact PassesOwn.never) hc hi hg hb hs, ?_⟩
  obtain ⟨xs, B1, e1, ev⟩ := bd_inv ev
  refine ⟨b, S, env, B, xs, B1, st.st, e1, fun J S1 H1 g1 bs1 wk => ?_⟩
  refine ⟨fun i m σ H => m = xs.length - i ∧ i ≤ xs.length ∧ ∃ S' env' B2, Ex S1 S' ∧ Ste CR T b S0 H0 S' H σ env' B2 ∧ forGo t (fun e b => evS k ib e b) (xs.drop i) env' B2 = some (oo, B'),
    ⟨xs.length, by simp, Nat.zero_le _, S1, env, B1, Ex.refl S1, st.mono g1 bs1, ev⟩, ?_⟩
  rintro i m σi Hi ⟨rfl, hle, Si, envi, Bi, exi, sti, hgo⟩
  have wi := wk Si Hi Bi exi sti.st.bas
  by_cases hlt : i < xs.length
  · rw [drop_at hlt] at hgo
    obtain ⟨en, o1, B2, h1, h2, h3⟩ := forGo_cons hgo
    obtain ⟨go, yl⟩ := wi.2 i _ (List.getElem?_eq_getElem hlt)
    refine .inr ⟨go, fun σ' H' => i + 1 ≤ xs.length ∧ ∃ S' env' B2, Ex S1 S' ∧ Ste CR T b S0 H0 S' H' σ' env' B2 ∧ forGo t (fun e b => evS k ib e b) (xs.drop (i + 1)) env' B2 = some (oo, B'), fun σ' H' p' => ⟨xs.length - (i + 1), by omega, rfl, p'⟩, fun v H' hy => ?_⟩
    obtain ⟨S', g', bs', rv⟩ := yl v H' hy
    refine bind_ok (P := fun σ' env' => Ste CR T b S0 H0 S' H' σ' env' Bi) bs' (fun j σ1 env1 d1 v1 _ p1 r1 => p1.put r1) (sti.mono g' bs') h1 rv fun σ2 st2 => ?_
    refine ⟨b, S0, H0, S', en, Bi, o1, B2, st2, h2, ?_⟩
    cases o1 with
    | rt d =>
      obtain ⟨e3, e4⟩ := h3
      subst e3 e4
      exact q
    | nx e2 => exact fun σ3 S3 H3 st3 ex3 => ⟨hlt, S3, e2, B2, exi.trans (g'.s.trans ex3), st3, h3⟩
  · have e : i = xs.length := by omega
    subst e
    rw [List.drop_length] at hgo
    cases hgo
    exact .inl ⟨wi.1, q σi Si Hi sti (g1.s.trans exi)⟩
theorem sole_sub {o c e : Expr} {tp : Pos} {l : Nat} {env : PySem.Env} (h : isSd e = false) : swapsWithSole [.Subscript o c tp] e l env = pure false := by
  cases e <;> first | (cases h; done) | rfl
structure SoS (G : GW) (k : Call) (CR : Addr) (T : List (Addr × Str)) (n : Nat) (C : CC) (X : Cx) : Prop where
  s : ∀ st is, cS G n C st = some is → PS X st (tS k CR T is)
  ss : ∀ sts is, cSs G n C sts = some is → PSs X sts (tS k CR T is)
theorem tgName_at {i : Nat} {x : Str} {p q : Pos} (h : tgName C (.Name x p) = some i) : tgName C (.Name x q) = some i := h
theorem st_name {n : Nat} (W : WF gu G k CR T r X.prog X.w X.K X.mg X.base) (g : GX gu r C X) {x : Str} {px pos : Pos} {e : Expr} {is : IS} (h : (ob (tgName C (.Name x ⟨0, 0, 0, 0⟩)) fun i => ob (cE G n C e) fun ie => if i ∈ C.ow then (if freshL e = true then some (IS.own i ie) else none) else some (.asg (.nm i) ie)) = some is) :
    PS X (.Assign [.Name x px] e pos) (tS k CR T is) := by
  obtain ⟨i, h1, h⟩ := ob_inv h
  obtain ⟨ie, h2, h⟩ := ob_inv h
  obtain ⟨x', p', e', hl, hN⟩ := tgName_ok h1
  cases e'
  have I : So G k CR T n C X := sound n C X W g
  have hNd : X.N.Nodup := by rw [g.N]; exact g.nd
  have hi : X.N[i]? = some x := by rw [g.N]; exact hN
  obtain ⟨hloc, hf⟩ := g.loc x hl
  have hsw : swapsWith e (some (.Name x px)) pos.line X.env = pure false ∨ (isLc e = true ∧ swapsWith e (some (.Name x px)) pos.line X.env = pure true ∧ X.env.scope.names.lookup x = some .local) := by
    cases hlc : isLc e with
    | false => exact .inl (sw_no hlc (cE_noComp h2))
    | true =>
      have : ∃ elt gs scope p, e = .ListComp elt gs scope p := by
        cases e <;> first | exact ⟨_, _, _, _, rfl⟩ | cases hlc
      obtain ⟨elt, gs, scope, p, rfl⟩ := this
      rcases sw_lc (elt := elt) (gs := gs) (scope := scope) (pos := p) (py := px) (y := x) (l := pos.line) (env := X.env) with q | ⟨q1, q2⟩
      · exact .inl q
      · exact .inr ⟨rfl, q1, q2⟩
  split at h
  · split at h
    · rename_i hfr
      cases h
      rcases hsw with q | ⟨q1, q2, q3⟩
      · exact st_own (ps_set hNd hi hloc ((I.e _ _ h2).2 hfr) q hf)
      · exact st_own (ps_lc W g h2 q1 hi q3 q2)
    · cases h
  · cases h
    rcases hsw with q | ⟨q1, q2, q3⟩
    · exact st_asg (t := .nm i) (ps_set hNd hi hloc (so_ofs I h2) q hf)
    · exact st_asgF (lc_lst h2 q1) (ps_lc W g h2 q1 hi q3 q2)
theorem names_of {C : CC} : ∀ {ts : List Expr} {is : List Nat}, tgNames C ts = some is → ts.length = is.length
  | [], _, h => by cases h; rfl
  | e :: ts, _, h => by
    obtain ⟨i, h1, h⟩ := ob_inv h
    obtain ⟨js, h2, h⟩ := ob_inv h
    cases h
    rw [List.length_cons, List.length_cons, names_of h2]
theorem st_tup {n : Nat} (W : WF gu G k CR T r X.prog X.w X.K X.mg X.base) (g : GX gu r C X) {ts : List Expr} {kt : Nat} {pt pos : Pos} {e : Expr} {is : List Nat} {ie : IE} (h1 : tgNames C ts = some is) (hn : is.Nodup) (h2 : cE G n C e = some ie)
    (h3 : ∀ vs j p, e = .Tuple vs j p → vs.length = ts.length ∧ (ts.length = 2 ∨ ts.length = 3) ∧ vs.all (foldedForSure 8) = false ∧ vs.all (constantsAlone 8) = false) : PS X (.Assign [.Tuple ts kt pt] e pos) (tS k CR T (.asg (.tp is) ie)) := by
  have I : So G k CR T n C X := sound n C X W g
  have hNd : X.N.Nodup := by rw [g.N]; exact g.nd
  obtain ⟨q1, q2, q3⟩ := pg_nms g h1
  have hg : PG X (.Tuple ts kt pt) (gOf X.K (.tp is)) := pg_tup g.calm q1 q2 q3
  have hs : swapsWithSole [.Tuple ts kt pt] e pos.line X.env = pure false := by
    show swapsWith e (some (.Tuple ts kt pt)) pos.line X.env = pure false
    have := cE_noComp h2
    cases e <;> first | rfl | cases this
  have plain : swappedStores [.Tuple ts kt pt] e X.env = pure none → PS X (.Assign [.Tuple ts kt pt] e pos) (tS k CR T (.asg (.tp is) ie)) := fun hw => st_asg (ps_asg (so_ofs I h2) hg hs hw rfl)
  by_cases ht : ∃ vs j p, e = .Tuple vs j p
  · obtain ⟨vs, j, p, rfl⟩ := ht
    obtain ⟨l1, l2, l3, l4⟩ := h3 vs j p rfl
    cases n with
    | zero => cases h2
    | succ n =>
      obtain ⟨js, h4, h5⟩ := ob_inv (show ob (cEs G n C vs) _ = some ie from h2)
      cases h5
      have hv : PA X vs (tA k CR T js) := (sound n C X W g).es _ _ h4
      obtain ⟨a1, a2⟩ := cEs_all (k := k) h4
      rcases l2 with l2 | l2
      · match ts, vs, l1, l2 with
        | [t1, t2], [v1, v2], _, _ =>
          obtain ⟨i1, k1, h1⟩ := ob_inv (show ob (tgName C t1) _ = some is from h1)
          obtain ⟨js', k2, h1⟩ := ob_inv h1
          obtain ⟨i2, k3, k2⟩ := ob_inv (show ob (tgName C t2) _ = some js' from k2)
          cases k2
          cases h1
          obtain ⟨x1, p1, rfl, m1, n1⟩ := tgName_ok k1
          obtain ⟨x2, p2, rfl, m2, n2⟩ := tgName_ok k3
          have d12 : i1 ≠ i2 := by simpa using hn
          have nx : x1 ≠ x2 := fun z => by
            subst z
            exact d12 ((List.getElem?_inj (List.getElem?_eq_some_iff.mp n1).1 g.nd).mp (n1.trans n2.symm))
          simp only [List.all_cons, List.all_nil, Bool.and_true, Bool.and_eq_true] at a1
          rcases swap2 (kt := kt) (kp := pt) (px := p1) (py := p2) (k2 := j) (p2 := p) (env := X.env) nx (by simpa using a1.1) (by simpa using a1.2) l3 l4 with hw | ⟨hw, e1, e2⟩
          · exact plain hw
          · exact st_par2 (ps_par g.calm hNd (by rw [g.N]; exact n1) (by rw [g.N]; exact n2) d12 e1 e2 hv hw hs)
      · match ts, vs, l1, l2 with
        | [t1, t2, t3], [v1, v2, v3], _, _ =>
          obtain ⟨i1, k1, h1⟩ := ob_inv (show ob (tgName C t1) _ = some is from h1)
          obtain ⟨js', k2, h1⟩ := ob_inv h1
          obtain ⟨i2, k3, k2⟩ := ob_inv (show ob (tgName C t2) _ = some js' from k2)
          obtain ⟨js2, k4, k2⟩ := ob_inv k2
          obtain ⟨i3, k5, k4⟩ := ob_inv (show ob (tgName C t3) _ = some js2 from k4)
          cases k4
          cases k2
          cases h1
          obtain ⟨x1, p1, rfl, m1, n1⟩ := tgName_ok k1
          obtain ⟨x2, p2, rfl, m2, n2⟩ := tgName_ok k3
          obtain ⟨x3, p3, rfl, m3, n3⟩ := tgName_ok k5
          have hn' : (i1 ≠ i2 ∧ i1 ≠ i3) ∧ i2 ≠ i3 := by simpa using hn
          have inj : ∀ {i j : Nat} {x y : Str}, C.N[i]? = some x → C.N[j]? = some y → i ≠ j → x ≠ y := fun {i j x y} n1 n2 d z => by
            subst z
            exact d ((List.getElem?_inj (List.getElem?_eq_some_iff.mp n1).1 g.nd).mp (n1.trans n2.symm))
          simp only [List.all_cons, List.all_nil, Bool.and_true, Bool.and_eq_true] at a1
          rcases swap3 (kt := kt) (kp := pt) (px := p1) (py := p2) (pz := p3) (k2 := j) (p2 := p) (env := X.env) (inj n1 n2 hn'.1.1) (inj n1 n3 hn'.1.2) (inj n2 n3 hn'.2) (by simpa using a1.1) (by simpa using a1.2.1) (by simpa using a1.2.2) l3 l4 with hw | ⟨hw, e1, e2, e3⟩
          · exact plain hw
          · exact st_par3 (ps_par3 g.calm hNd (by rw [g.N]; exact n1) (by rw [g.N]; exact n2) (by rw [g.N]; exact n3) hn'.1.1 hn'.1.2 hn'.2 e1 e2 e3 hv hw hs)
  · refine plain ?_
    cases e <;> first | rfl | exact absurd ⟨_, _, _, rfl⟩ ht
theorem sound_s : ∀ (n : Nat) (C : CC) (X : Cx), WF gu G k CR T r X.prog X.w X.K X.mg X.base → GX gu r C X → SoS G k CR T n C X
  | 0, _, _, _, _ => ⟨(fun _ _ h => by cases h), (fun _ _ h => by cases h)⟩
  | n + 1, C, X, W, g => by
    have I : So G k CR T n C X := sound n C X W g
    have J : SoS G k CR T n C X := sound_s n C X W g
    have hNd : X.N.Nodup := by rw [g.N]; exact g.nd
    refine ⟨fun st is h => ?_, fun sts is h => ?_⟩
    · unfold cS at h
      split at h
      · exact st_name W g h
      · obtain ⟨js, h1, h⟩ := ob_inv h
        split at h
        · cases h
        · rename_i hcond
          have hn : js.Nodup := Classical.byContradiction fun z => hcond (.inr z)
          split at h
          · split at h
            · rename_i hc
              obtain ⟨ie, h2, h⟩ := ob_inv h
              cases h
              exact st_tup W g h1 hn h2 fun vs j p e => by cases e; exact hc
            · cases h
          · rename_i hnt
            obtain ⟨ie, h2, h⟩ := ob_inv h
            cases h
            exact st_tup W g h1 hn h2 fun vs j p e => absurd e (hnt vs j p)
      · obtain ⟨i, h1, h⟩ := ob_inv h
        obtain ⟨ie, h2, h⟩ := ob_inv h
        split at h
        · rename_i hp
          obtain ⟨ik, h3, h⟩ := ob_inv h
          cases h
          obtain ⟨x, p, rfl, q1, q2, q3, q4⟩ := ownOf_ok g h1
          exact st_setI (pe_var q1 q2 q3 q4) hp (so_ofs I h3) (so_ofs I h2) (sole_sub (cE_noComp h2)) rfl
        · cases h
      · obtain ⟨i, h1, h⟩ := ob_inv h
        split at h
        · obtain ⟨ie, h2, h⟩ := ob_inv h
          cases h
          obtain ⟨x', p', e', hl, hN⟩ := tgName_ok h1
          cases e'
          obtain ⟨hloc, hf⟩ := g.loc _ hl
          exact st_ext hNd (by rw [g.N]; exact hN) hloc hf (so_ofs I h2)
        · cases h
      · obtain ⟨i, h1, h⟩ := ob_inv h
        split at h
        · rename_i hp
          obtain ⟨ik, h3, h⟩ := ob_inv h
          obtain ⟨ie, h2, h⟩ := ob_inv h
          cases h
          obtain ⟨x, p, rfl, q1, q2, q3, q4⟩ := ownOf_ok g h1
          exact st_augI (pe_var q1 q2 q3 q4) hp (so_ofs I h3) (so_ofs I h2)
        · cases h
      · obtain ⟨ie, h2, h⟩ := ob_inv h
        cases h
        exact st_ret (so_ofs I h2)
      · obtain ⟨i, h1, h⟩ := ob_inv h
        split at h
        · rename_i hc
          obtain ⟨ie, h2, h⟩ := ob_inv h
          cases h
          obtain ⟨x, p, e', q1, q2, q3, q4⟩ := ownOf_ok g h1
          cases e'
          obtain ⟨c1, c2, c3⟩ := hc
          subst c1
          exact st_app (pe_var q1 q2 q3 q4) c3 c2 (so_ofs I h2)
        · cases h
      · obtain ⟨it, h1, h⟩ := ob_inv h
        obtain ⟨ia, h2, h⟩ := ob_inv h
        obtain ⟨ib, h3, h⟩ := ob_inv h
        cases h
        exact st_if (I.e _ _ h1).1.2 (J.ss _ _ h2) (J.ss _ _ h3)
      · obtain ⟨ii, h1, h⟩ := ob_inv h
        obtain ⟨t, h2, h⟩ := ob_inv h
        have fin := fun (body : List Stmt) (pos : Pos) (ib : IS) (h3 : cSs G n C body = some ib) => st_for (pos := pos) g.xe g.calm (I.i _ _ _ h1 _ fun z => z) (pg_of g h2) (J.ss body ib h3) (fun x => fold_ok (cI_noset h1))
        split at h
        · split at h
          · cases h
          · obtain ⟨ib, h3, h⟩ := ob_inv h
            cases h
            exact fin _ _ ib h3
        · split at h
          · cases h
          · obtain ⟨ib, h3, h⟩ := ob_inv h
            cases h
            exact fin _ _ ib h3
      · cases h
        exact st_skip
      · cases h
    · cases sts with
      | nil =>
        cases h
        exact st_nil
      | cons st rest =>
        cases rest with
        | nil => exact pss_one (J.s _ _ h)
        | cons s2 rest =>
          obtain ⟨i, h1, h⟩ := ob_inv (show ob (cS G n C st) (fun i => ob (cSs G n C (s2 :: rest)) fun is => some (.seq i is)) = some is from h)
          obtain ⟨js, h2, h⟩ := ob_inv h
          cases h
          exact st_cons (J.s _ _ h1) (J.ss _ _ h2)
end
end Cab
set_option Elab.async false
set_option linter.all false
set_option maxRecDepth 100000
set_option maxHeartbeats 4000000
/-! A def of the table keeps its promise; the promises of all, by the depth of calls. -/
namespace Cab
open PySem L2 LamX Evl CabR PyProof.Rows PySem.Spec

section
variable {P : Program} {w : World} {K : PySem.W.Frag} {mg : Str → Option Value} {base : Heap} {CR : Addr} {T : List (Addr × Str)}
/-- a def of the program, as it stands -/
structure Df (K : PySem.W.Frag) (mg : Str → Option Value) (f : Str) (body : List Stmt) (scope : Scope) (ps : List Str) (a : Addr) (fd : FuncData) : Prop where
  F : ∃ qual params, FunD K f qual params body scope [] [] a fd
  at_ : mg f = some (.ref a)
  b : Binds K fd ps []
theorem start_get {N : List Str} {vs : List V} {i : Nat} {v : V} (h : vs[i]? = some v) : (L2.start N vs)[i]? = some (some v) := by
  unfold L2.start
  have hi : i < vs.length := (List.getElem?_eq_some_iff.mp h).1
  rw [List.getElem?_append_left (by simpa using hi), List.getElem?_map, h]
  rfl
theorem startE_val {fn : Fn} {ds : List D} {i : Nat} {d : D} (h : (startE fn ds)[i]? = some (Sl.val d)) : ds[i]? = some d := by
  unfold startE at h
  by_cases hi : i < ds.length
  · rw [List.getElem?_append_left (by simpa using hi), List.getElem?_map] at h
    cases e : ds[i]? with
    | none => rw [e] at h; cases h
    | some x => rw [e] at h; cases h; rfl
  · rw [List.getElem?_append_right (by simpa using hi), List.getElem?_replicate] at h
    split at h <;> cases h
theorem startE_own {fn : Fn} {ds : List D} {i : Nat} {xs : List D} (h : (startE fn ds)[i]? = some (Sl.own xs)) : False := by
  unfold startE at h
  by_cases hi : i < ds.length
  · rw [List.getElem?_append_left (by simpa using hi), List.getElem?_map] at h
    cases e : ds[i]? with
    | none => rw [e] at h; cases h
    | some x => rw [e] at h; cases h
  · rw [List.getElem?_append_right (by simpa using hi), List.getElem?_replicate] at h
    split at h <;> cases h
theorem ste_start {b : Addr} {S H : Hp} {B : Bg} {fn : Fn} {N : List Str} {ds : List D} {vs : List V} (bs : Bas T b S H B) (rv : Reps CR b S ds vs) (hN : N.length = fn.nn) (hl : ds.length ≤ fn.nn) : Ste CR T b S H S H (L2.start N vs) (startE fn ds) B where
  st := {
    bas := bs
    len := by
      unfold L2.start startE
      rw [List.length_append, List.length_append, List.length_map, List.length_map, List.length_replicate, List.length_replicate, ← Reps.length rv, hN]
    val := fun i d h => by
      obtain ⟨v, h1, h2⟩ := Reps.get rv (startE_val h)
      exact ⟨v, start_get h1, h2⟩
    own := fun i xs h => (startE_own h).elim
    dis := fun i j xs ys p h => (startE_own h).elim }
  gr := Gr.refl b S H
  fr := fun i xs p h => (startE_own h).elim
theorem gx_start {gu : Bool} {r : Nat} {N ps : List Str} {qual : Str} {scope : Scope} {f : Addr} {cdv : Value} {A : Around} {outer : List PySem.Env} {s : Shared} {H : Hp} {E : XK} {ow : List Nat} (S : FnScope N ps scope) (nm : ∀ x ∈ N, (x == ("__debug__" : Str)) = false ∧ (x == ("__classdict__" : Str)) = false)
    (hr : Room (r + 1) (A.deeper (envOfC qual scope s.heap.objs.size f cdv))) (hgd : gu = true → A.guards = some []) : GX gu r ⟨N, scope, ow⟩ (cxOf CX0 P w K mg base N qual scope f cdv A outer s H E).nox where
  N := rfl
  nd := S.nd
  nm := nm
  calm := rfl
  xe := rfl
  room := hr
  gd := hgd
  vis := fun x h => visB_of h
  loc := fun x h => ⟨locB_of h, .inl rfl⟩
  glo := fun x h => gloB_of h
  fre := fun x h => h
/-- a def of the table -/
theorem fn_ok {G : GW} {k : Call} {r : Nat} (W : WF gu G k CR T r P w K mg base) {f : Str} {body : List Stmt} {scope : Scope} {ps N : List Str} {ow : List Nat} {a : Addr} {fd : FuncData} {fn : Fn} {n : Nat} (D : Df K mg f body scope ps a fd) (S : FnScope N ps scope)
    (nm : ∀ x ∈ N, (x == ("__debug__" : Str)) = false ∧ (x == ("__classdict__" : Str)) = false) (hc : cSs G n ⟨N, scope, ow⟩ body = some fn.body) (hp : ps.length = fn.np) (hN : N.length = fn.nn) :
    FnG gu P w K mg base CX0 (r + 2) a fd ps (fun vs H Q _ => ∃ (b : Addr) (S : Hp) (B : Bg) (ds : List Cab.D) (d : Cab.D) (B' : Bg), Bas T b S H B ∧ Reps CR b S ds vs ∧ runB k fn ds B = some (d, B') ∧ ∀ v S' H', Gr b S H S' H' → Bas T b S' H' B' → Rep CR b S' d v → Q v H') := by
  obtain ⟨qual, params, F⟩ := D.F
  have hle : ps.length ≤ N.length := by
    have := congrArg List.length S.pre
    rw [List.length_take] at this
    omega
  refine okG F (k := r + 1) S (fun vs H Q E ⟨b, S', B, ds, d, B', bs, rv, hr, _⟩ => ?_) fun cdv A outer s H vs Q E hgd hr ⟨b, S', B, ds, d, B', bs, rv, hrun, q⟩ => ?_
  · unfold runB at hr
    split at hr
    · rename_i hl
      rw [← Reps.length rv, hl, hp]
    · cases hr
  · have g := gx_start (P := P) (w := w) (K := K) (mg := mg) (base := base) (outer := outer) (H := H) (E := E) (ow := ow) S nm hr hgd
    have J := (sound_s n _ _ W g).ss _ _ hc
    refine ⟨_, J.nox, ?_⟩
    unfold runB at hrun
    split at hrun
    · rename_i hl
      obtain ⟨o, B1, e1, hrun⟩ := bd_inv hrun
      refine ⟨b, S', H, S', startE fn ds, B, o, B1, ste_start bs rv hN (by omega), e1, ?_⟩
      cases o with
      | rt d' =>
        cases hrun
        exact fun v S2 H2 g2 bs2 r2 => q v S2 H2 g2 bs2 r2
      | nx e =>
        cases hrun
        exact fun σ2 S2 H2 st2 _ => q V.non S2 H2 st2.gr st2.st.bas rfl
    · cases hrun
/-! ### all defs together -/
abbrev Prims := Str → Option (List D → Bg → Option (D × Bg))
/-- what a prim must keep -/
def PrimOk (gu : Bool) (P : Program) (w : World) (K : PySem.W.Frag) (mg : Str → Option Value) (base : Heap) (CR : Addr) (T : List (Addr × Str)) (r : Nat) (p : List D → Bg → Option (D × Bg)) (m : Nat) (a : Addr) (fd : FuncData) (ps : List Str) : Prop :=
  FnG gu P w K mg base CX0 r a fd ps (fun vs H Q _ => ∃ (b : Addr) (S : Hp) (B : Bg) (ds : List D) (d : D) (B' : Bg), ds.length = m ∧ Bas T b S H B ∧ Reps CR b S ds vs ∧ p ds B = some (d, B') ∧ ∀ v S' H', Gr b S H S' H' → Bas T b S' H' B' → Rep CR b S' d v → Q v H')
/-- the world without the defs' promises -/
structure WB (G : GW) (CR : Addr) (P : Program) (w : World) (K : PySem.W.Frag) (mg : Str → Option Value) (base : Heap) (r : Nat) : Prop where
  glob : ∀ x i, G.glob x = some i → ∃ t, mg x = some (.int i t)
  gdic : ∀ x kvs, G.gdic x = some kvs → ∃ d es n, mg x = some (.ref d) ∧ KDict K w d es n ∧ ∀ z, (∀ i, lkD kvs z = some i → ∃ t, PySem.W.nsIn K d z = some (some (.int i t))) ∧ (lkD kvs z = none → PySem.W.nsIn K d z = some none)
  gtup : ∀ x ws, G.gtup x = some ws → ∃ a, mg x = some (.ref a) ∧ ∀ H, SqT K H a (ws.map V.str)
  gdb1 : ∀ x i, G.glob x = some i → (x == ("__debug__" : Str)) = false
  gdb2 : ∀ x i, G.gdic x = some i → (x == ("__debug__" : Str)) = false
  gdb3 : ∀ x i, G.gtup x = some i → (x == ("__debug__" : Str)) = false
  fdb : ∀ f m, G.fns f = some m → (f == ("__debug__" : Str)) = false
  blt : ∀ x ∈ blts, mg x = none
  rcls : mg "Ride" = some (.ref CR)
  cls : Cls K CR
  fc : NoAttr K CR "costs"
  fr : NoAttr K CR "riders"
  ia : PySem.W.findIn K (.ref CR) "__class__" = some (some (.builtin "object.__class__"))
  ib : PySem.W.specialIn K (.builtin "object.__class__") "__get__" = some (some (.builtin "getset_descriptor.__get__"))
  ic : PySem.W.takesIn K (.builtin "object.__class__") = some true
  id : PySem.W.mroIn K CR (.type "object") = some true
  irr : PySem.W.kitOne K (.ref CR) (.ref CR) = some true
  inr : PySem.W.kitOne K (.type "NoneType") (.ref CR) = some false
  len : ∃ g fd, PySem.W.findIn K (.ref CR) "__len__" = some (some (.ref g)) ∧ PySem.W.isFn K (.ref g) = true ∧ Binds K fd ["self"] [] ∧
    FnOk P w K mg base CX0 r g fd ["self"] (fun vs H Q _ => ∃ a dx vc vr vt xs, vs = [V.ref a] ∧ H a = some (.ins CR dx [(("costs" : Str), vc), (("riders" : Str), .ref vr), (("told" : Str), vt)]) ∧ SqT K H vr xs ∧ Q (.int xs.length) H)
/-- a def of the table, with its text checked -/
structure TabOk (G : GW) (K : PySem.W.Frag) (mg : Str → Option Value) (f : Str) (fn : Fn) : Prop where
  ex : ∃ body scope ps N ow a fd n, Df K mg f body scope ps a fd ∧ FnScope N ps scope ∧ (∀ x ∈ N, (x == ("__debug__" : Str)) = false ∧ (x == ("__classdict__" : Str)) = false) ∧ cSs G n ⟨N, scope, ow⟩ body = some fn.body ∧ ps.length = fn.np ∧ N.length = fn.nn ∧ G.fns f = some fn.np
theorem wf_all {G : GW} {tab : Str → Option Fn} {prim : Prims} {r : Nat} (W : WB G CR P w K mg base r) (hT : ∀ f fn, tab f = some fn → TabOk G K mg f fn) (hP : ∀ f p, prim f = some p → ∃ body scope ps a fd, Df K mg f body scope ps a fd ∧ G.fns f = some ps.length ∧ PrimOk gu P w K mg base CR T r p ps.length a fd ps)
    (hE : ∀ f m, G.fns f = some m → tab f = none → prim f = none → ∃ body scope ps a fd, Df K mg f body scope ps a fd ∧ ps.length = m) : ∀ n, WF gu G (run tab prim n) CR T (r + 2 * n) P w K mg base := by
  have mk : ∀ n, (∀ f m, G.fns f = some m → ∃ a fd ps, mg f = some (.ref a) ∧ PySem.W.keepIn K (.ref a) = true ∧ ps.length = m ∧ Binds K fd ps [] ∧ FnG gu P w K mg base CX0 (r + 2 * n) a fd ps (spC (run tab prim n) CR T f m)) → WF gu G (run tab prim n) CR T (r + 2 * n) P w K mg base := fun n h => by
    obtain ⟨g, fd, l1, l2, l3, F⟩ := W.len
    exact ⟨W.glob, W.gdic, W.gtup, h, W.gdb1, W.gdb2, W.gdb3, W.fdb, W.blt, W.rcls, W.cls, W.fc, W.fr, W.ia, W.ib, W.ic, W.id, W.irr, W.inr, g, fd, l1, l2, l3, F.mono (by omega)⟩
  have pr : ∀ n f p m, prim f = some p → G.fns f = some m → ∃ a fd ps, mg f = some (.ref a) ∧ PySem.W.keepIn K (.ref a) = true ∧ ps.length = m ∧ Binds K fd ps [] ∧ FnG gu P w K mg base CX0 (r + 2 * n) a fd ps (spC (run tab prim n) CR T f m) := fun n f p m hp hm => by
    obtain ⟨body, scope, ps, a, fd, D, e, F⟩ := hP f p hp
    rw [e] at hm
    cases hm
    obtain ⟨qual, params, F0⟩ := D.F
    refine ⟨a, fd, ps, D.at_, F0.kp, rfl, D.b, (F.mono (by omega)).imp fun vs H Q E ⟨b, S, B, ds, d, B', h1, h2, h3, h4, h5⟩ => ⟨b, S, B, ds, d, B', h1, h2, h3, ?_, h5⟩⟩
    cases n with
    | zero =>
      unfold run at h4
      rw [hp] at h4
      exact h4
    | succ n =>
      unfold run at h4
      rw [hp] at h4
      exact h4
  have no : ∀ n f m, G.fns f = some m → (∀ ds B, run tab prim n f ds B = none) → (∃ body scope ps a fd, Df K mg f body scope ps a fd ∧ ps.length = m) → ∃ a fd ps, mg f = some (.ref a) ∧ PySem.W.keepIn K (.ref a) = true ∧ ps.length = m ∧ Binds K fd ps [] ∧ FnG gu P w K mg base CX0 (r + 2 * n) a fd ps (spC (run tab prim n) CR T f m) := fun n f m hm hn ⟨body, scope, ps, a, fd, D, e⟩ => by
    obtain ⟨qual, params, F0⟩ := D.F
    refine ⟨a, fd, ps, D.at_, F0.kp, e, D.b, ⟨fun vs H Q E ⟨b, S, B, ds, d, B', h1, h2, h3, h4, h5⟩ => ?_, fun A outer s H args us vs Q E hgd hr he hb hv ⟨b, S, B, ds, d, B', h1, h2, h3, h4, h5⟩ => ?_⟩⟩
    · rw [hn] at h4; cases h4
    · rw [hn] at h4; cases h4
  intro n
  induction n with
  | zero =>
    refine mk 0 fun f m hm => ?_
    cases hp : prim f with
    | some p => exact pr 0 f p m hp hm
    | none =>
      have nn : ∀ ds B, run tab prim 0 f ds B = none := fun ds B => by unfold run; rw [hp]
      cases ht : tab f with
      | none => exact no 0 f m hm nn (hE f m hm ht hp)
      | some fn =>
        obtain ⟨body, scope, ps, N, ow, a, fd, j, D, S, nm, hc, h1, h2, h3⟩ := hT f fn ht
        rw [h3] at hm
        cases hm
        exact no 0 f _ h3 nn ⟨body, scope, ps, a, fd, D, h1⟩
  | succ n ih =>
    refine mk (n + 1) fun f m hm => ?_
    cases hp : prim f with
    | some p => exact pr (n + 1) f p m hp hm
    | none =>
      cases ht : tab f with
      | none => exact no (n + 1) f m hm (fun ds B => by unfold run; rw [hp, ht]; rfl) (hE f m hm ht hp)
      | some fn =>
        obtain ⟨body, scope, ps, N, ow, a, fd, j, D, S, nm, hc, h1, h2, h3⟩ := hT f fn ht
        rw [h3] at hm
        cases hm
        obtain ⟨qual, params, F0⟩ := D.F
        refine ⟨a, fd, ps, D.at_, F0.kp, h1, D.b, (fn_ok ih D S nm hc h1 h2).imp fun vs H Q E ⟨b, S', B, ds, d, B', q1, q2, q3, q4, q5⟩ => ⟨b, S', B, ds, d, B', q2, q3, ?_, q5⟩⟩
        unfold run at q4
        rw [hp, ht] at q4
        exact q4
end
end Cab
set_option Elab.async false
set_option linter.all false
set_option maxRecDepth 100000
set_option maxHeartbeats 2000000
/-! try .. except (a, b, c): where every exception of the body is of one of the three. -/
namespace Cab
open PySem L2 PySem.Spec PyProof.Rows
def wTup (K : PySem.W.Frag) (cs : List Value) (ts : TS) (D : Ends) : WX := fun cls _ σ H => PySem.W.exmAny K cls cs = some true ∧ ts D σ H
section
variable {X : Cx} {x1 x2 x3 : Str} {c1 c2 c3 : Value} {body suite : List Stmt} {b0 : Stmt} {p1 p2 p3 tpos pos pos' : Pos} {kk : Nat} {tb : WX → TS} {ts : TS}
theorem ps_try_tup (hs : X.stack = X.env :: X.outer) (hf : X.env.frame = some X.env.locals) (n1 : Names X x1 c1) (n2 : Names X x2 c2) (n3 : Names X x3 c3)
    (hb : ∀ (W : WX) (pn : List (Addr × Obj)) (xe : Value → Shared → Prop), Takes (X.tr pn xe) W → PassesOwn (model X.prog X.w) X.A X.env xe → PSs (X.tr pn xe) body (tb W))
    (hsu : ∀ (a : Addr) (pn : List (Addr × Obj)), PSs (X.suite a pn) (b0 :: suite) ts) :
    PS X (.Try body [.ExceptHandler (some (.Tuple [.Name x1 p1, .Name x2 p2, .Name x3 p3] kk tpos)) none (b0 :: suite) pos'] [] [] pos) (fun D σ H => tb (wTup X.K [c1, c2, c3] ts D) D σ H) := by
  refine ⟨fun pins s σ H D I h => ?_⟩
  have ok := I.ok
  have hfr : X.A.frames = some (X.env :: X.outer) := by rw [ok.frames, hs]
  refine wpAny_Try_except ?_
  refine wpAny_mono ((hb (wTup X.K [c1, c2, c3] ts D) (X.pn ++ pins) (fun e s₁ => wpAny (model X.prog X.w) X.A (noteFrame e X.env) (fun _ s₂ => wpAny (model X.prog X.w) X.A (setFlight e none) (fun _ s₃ =>
    wpAny (model X.prog X.w) X.A (handleBy e X.env [.ExceptHandler (some (.Tuple [.Name x1 p1, .Name x2 p2, .Name x3 p3] kk tpos)) none (b0 :: suite) pos']) (SP X pins D) X.xe s₃) X.xe s₂) X.xe s₁) (fun u s' xx => ?_) PassesOwn.looking).run [] s σ H D (I.toTry _) h) (fun f s1 hsp => ?_) (fun e s1 he => he)
  · obtain ⟨a, B, sI, pins', σ', H', cls, d, rfl, J', nb, up, sky, na, os, ag, hb1, hyes⟩ := xx
    have J : Inv X pins σ' H' sI := J'.ofTry ok
    have sky' : Sky B (X.env :: X.outer) a (Zc cls d) X.env.locals s'.heap := by rw [← hs]; exact sky
    show wpAny (model X.prog X.w) X.A (noteFrame (.ref a) X.env) _ _ _
    refine Sky.land Zc.steady hfr hf sky' fun h3 fl3 up3 => ?_
    have J3 : Inv X pins σ' H' { s' with heap := h3 } := J.landed nb fl3.1 (up.trans up3) os ag
    obtain ⟨oe3, vs3, he3, hz3, hd3⟩ := fl3.there
    have notFr : ∀ {h : Heap} {o : Obj} {vs : Array Value}, h.FunFrames B (X.env :: X.outer) → h.get? a = some o → o.data = .fields vs → a ∉ frs (X.env :: X.outer) := fun {h o vs} ff e dd hm => by
      obtain ⟨_, o', e', hnf⟩ := ff.mem hm
      rw [e] at e'; cases e'
      exact hnf _ dd
    have nfr := notFr fl3.2.2.1 he3 hd3
    have nL : a ≠ X.env.locals := fun z => nfr (List.mem_filterMap.mpr ⟨X.env, List.mem_cons_self, by rw [hf, z]⟩)
    have nF : a ∉ X.fs := fun hm => by
      obtain ⟨e, he, q⟩ := List.mem_filterMap.mp hm
      exact nfr (List.mem_filterMap.mpr ⟨e, List.mem_cons_of_mem _ he, q⟩)
    have S3 := J3.suite he3 hd3 na nL nF
    refine wpAny_handleBy_cons (codeAny_handlers_test ?_) (by intro q; cases q)
    have test : ∀ {x : Str} {c : Value} {np : Pos} {Q : Value → Shared → Prop} {E : Value → Shared → Prop}, Names X x c → Q c { s' with heap := h3 } → wpAny (model X.prog X.w) (X.A.mark (some (.ref a))) (eval (.Name x np) X.env) Q E { s' with heap := h3 } := fun {x c np Q E} hc q => by
      obtain ⟨hg, hdbg, hm | ⟨hm, hv, hnn⟩⟩ := hc
      · exact ld_glob (X := X.suite a ((a, oe3) :: (X.pn ++ pins))) S3 hg hm q hdbg
      · exact ld_blt (X := X.suite a ((a, oe3) :: (X.pn ++ pins))) S3 hg hm hv q hnn hdbg
    refine wpAny_Tuple (wpAny_items_cons (test n1 (wpAny_items_cons (test n2 (wpAny_items_cons (test n3 (wpAny_items_nil ⟨by size_fits, ?_⟩)))))))
    have kp : ∀ q o, h3.get? q = some o → (h3.push { cls := .type "tuple", data := .seq [c1, c2, c3].toArray }).get? q = some o := fun _ _ z => Heap.get?_push_of_some _ z
    have LT : PySem.W.Looks (model X.prog X.w) (h3.push { cls := .type "tuple", data := .seq [c1, c2, c3].toArray }) (typeOf (.ref a)) cls := fun A Q E s k q => wpAny_typeOf_ref (k _ _ (kp _ _ he3)) (by rw [hz3.1]; exact q)
    refine (PySem.W.exm_tup3 (M := model X.prog X.w) (J3.kIn.keeps kp) LT (Heap.get?_push_size h3 rfl) hb1).here ?_
    refine codeAny_handlers_suite ?_
    have fl3' : HandSPX.FlyingZ B (X.env :: X.outer) a (Zc cls d) (h3.push { cls := .type "tuple", data := .seq [c1, c2, c3].toArray }) := by
      obtain ⟨k1, k2, k3, oe, vs, T, oT, ts', he, hz, hd, h1, hr1, hr2, hr3, hr4, hr5⟩ := fl3
      exact ⟨fun b o e => kp b o (k1 b o e), k2, Heap.FunFrames.of_keeps (fun b o e _ => ⟨o, kp b o e, rfl⟩) k3, oe, vs, T, oT, ts', kp _ _ he, hz, hd, h1, hr1, hr2, kp _ _ hr3, hr4, hr5⟩
    refine HandSPX.lands_againZ fl3' fun h4 fl4 up4 => ?_
    have J4 : Inv X pins σ' H' { s' with heap := h4 } := J.landed nb fl4.1 (((up.trans up3).trans (Heap.UpToSlots.of_keeps kp)).trans up4) os ag
    obtain ⟨oe4, vs4, he4, hz4, hd4⟩ := fl4.there
    have S4 := J4.suite he4 hd4 na nL nF
    refine wpAny_mono ((hsu a ((a, oe4) :: (X.pn ++ pins))).run [] _ _ H' _ S4 hyes) (fun f s6 hsp => ?_) (fun _ _ z => False.elim z)
    cases f with
    | next =>
      obtain ⟨σ6, H6, S6, q6⟩ := hsp
      exact ⟨_, _, S6.unsuite ok, q6⟩
    | brk =>
      obtain ⟨σ6, H6, S6, q6⟩ := hsp
      exact ⟨_, _, S6.unsuite ok, q6⟩
    | cont =>
      obtain ⟨σ6, H6, S6, q6⟩ := hsp
      exact ⟨_, _, S6.unsuite ok, q6⟩
    | ret u =>
      obtain ⟨v6, σ6, H6, S6, r6, q6⟩ := hsp
      exact ⟨_, _, _, S6.unsuite ok, r6, q6⟩
  · cases f with
    | next =>
      obtain ⟨σ', H', J', q⟩ := hsp
      exact wpAny_execs_nil ⟨σ', H', J'.ofTry ok, q⟩
    | brk =>
      obtain ⟨σ', H', J', q⟩ := hsp
      exact ⟨σ', H', J'.ofTry ok, q⟩
    | cont =>
      obtain ⟨σ', H', J', q⟩ := hsp
      exact ⟨σ', H', J'.ofTry ok, q⟩
    | ret u =>
      obtain ⟨v, σ', H', J', r, q⟩ := hsp
      exact ⟨v, σ', H', J'.ofTry ok, r, q⟩
end
end Cab
set_option Elab.async false
set_option linter.all false
set_option maxRecDepth 100000
set_option maxHeartbeats 4000000
/-! A def that looks at its value, in a test and in a loop of tests, and raises an own exception where a test holds. -/
namespace Cab
open PySem L2 LamX Evl CabR PyProof.Rows PySem.Spec
theorem pi_nox {X : Cx} {tg it : Expr} {wi : TI} (h : PI X.nox tg it wi) : PI X tg it wi := ⟨fun pins s σ H R I hw =>
  wpAny_mono (h.run pins s σ H R (I.wish _) hw) (fun v s1 q => wpAny_mono q (fun u s2 ⟨i, fp, tn, J, H', e1, I', t1, t2, t3, t4⟩ => ⟨i, fp, tn, J, H', e1, I'.unwish, t1, t2, t3, t4⟩) fun _ _ z => False.elim z) fun _ _ z => False.elim z⟩
theorem pg_nox {X : Cx} {tg : Expr} {t : TG} (h : PG X.nox tg t) : PG X tg t := ⟨fun pins s σ H v u Q I r hw =>
  wpAny_mono (h.run pins s σ H v u Q (I.wish _) r hw) (fun v s1 ⟨σ', H', I', q⟩ => ⟨σ', H', I'.unwish, q⟩) fun _ _ z => False.elim z⟩
theorem pa_nox {X : Cx} {es : List Expr} {t : TA} (h : PA X.nox es t) : PA X es t := ⟨fun pos pins s σ H Q I hw =>
  wpAny_mono (h.run pos pins s σ H Q (I.wish _) hw) (fun us s1 ⟨vs, H', I', r, q⟩ => ⟨vs, H', I'.unwish, r, q⟩) fun _ _ z => False.elim z⟩
/-! ### what it computes -/
def raiseR (k : Call) (j : IE) (env : Env) (B : Bg) : Option (Bool × Bg) := bd (evEs k j env B) fun ds B1 => if ds.length = 1 then some (false, B1) else none
def chkGo (k : Call) (t : Tg) (i2 j2 : IE) : List D → Env → Bg → Option (Bool × Bg)
  | [], _, B => some (true, B)
  | x :: xs, env, B => ob (bindT t x env) fun e1 => bd (evE k i2 e1 B) fun d B1 => match d with
    | .bl true => raiseR k j2 e1 B1
    | .bl false => chkGo k t i2 j2 xs e1 B1
    | _ => none
structure ChkT where
  np : Nat
  nn : Nat
  i1 : IE
  j1 : IE
  ii : IE
  t : Tg
  i2 : IE
  j2 : IE
def chkB (k : Call) (c : ChkT) (ds : List D) (B : Bg) : Option (Bool × Bg) :=
  let env := startE ⟨c.np, c.nn, .skip⟩ ds
  if ds.length = c.np then bd (evE k c.i1 env B) fun d B1 => match d with
    | .bl true => raiseR k c.j1 env B1
    | .bl false => bd (evIt k c.ii env B1) fun xs B2 => chkGo k c.t c.i2 c.j2 xs env B2
    | _ => none
  else none
/-- its promise -/
def spR (p : List D → Bg → Option (Bool × Bg)) (CR : Addr) (T : List (Addr × Str)) (Ci : Addr) (m : Nat) : Sp := fun vs H Q E => ∃ (b : Addr) (S : Hp) (B : Bg) (ds : List D) (c : Bool) (B' : Bg),
  ds.length = m ∧ Bas T b S H B ∧ Reps CR b S ds vs ∧ p ds B = some (c, B') ∧ (c = true → ∀ S' H', Gr b S H S' H' → Bas T b S' H' B' → Q .non H') ∧
    (c = false → ∀ d S' H', Gr b S H S' H' → Bas T b S' H' B' → E (.ref Ci) (some d) H')
section
variable {P : Program} {w : World} {K : PySem.W.Frag} {mg : Str → Option Value} {base : Heap} {CR : Addr} {T : List (Addr × Str)} {G : GW} {k : Call} {r : Nat}
/-- a raise, by the small language -/
theorem raise_rd {fl : Str} {Ci : Addr} {j : IE} {b : Addr} {S0 H0 S H : Hp} {σ : L2.St} {env : Env} {B B' : Bg} {c : Bool} {E : XK} (st : Ste CR T b S0 H0 S H σ env B) (h : raiseR k j env B = some (c, B'))
    (q : c = false → ∀ d S' H', Gr b S0 H0 S' H' → Bas T b S' H' B' → E (.ref Ci) (some d) H') : tMkX fl Ci (tA k CR T j) σ H fun cls d H' => E cls d H' := by
  obtain ⟨ds, B1, e1, h⟩ := bd_inv h
  refine ⟨b, S, env, B, ds, B1, st.st, e1, fun vs S1 H1 g1 bs1 rv => ?_⟩
  split at h
  · rename_i hl
    cases h
    have hv := (Reps.length rv).symm.trans hl
    match vs, hv with
    | [v], _ => exact ⟨v, rfl, fun d hd => q rfl d S1 _ ((st.gr.trans g1).trans (Gr.newH hd)) (bs1.newH hd)⟩
  · cases h
theorem chkGo_cons {t : Tg} {i2 j2 : IE} {x : D} {xs : List D} {env : Env} {B : Bg} {c : Bool} {B' : Bg} (h : chkGo k t i2 j2 (x :: xs) env B = some (c, B')) : ∃ e1 z B1, bindT t x env = some e1 ∧ evE k i2 e1 B = some (.bl z, B1) ∧ (if z = true then raiseR k j2 e1 B1 else chkGo k t i2 j2 xs e1 B1) = some (c, B') := by
  obtain ⟨e1, h1, h⟩ := ob_inv h
  obtain ⟨d, B1, h2, h⟩ := bd_inv h
  cases d with
  | bl z =>
    cases z with
    | true => exact ⟨e1, true, B1, h1, h2, h⟩
    | false => exact ⟨e1, false, B1, h1, h2, h⟩
  | _ => cases h
theorem ok_chk {f xn fl : Str} {Ci fI : Addr} {body : List Stmt} {scope : Scope} {ps N : List Str} {a : Addr} {fd : FuncData} {c : ChkT} {n : Nat} {t1 tg it t2 e1 e2 : Expr} {q1 q2 q3 q4 q5 q6 q7 q8 q9 : Pos} (W : WF false G k CR T r P w K mg base) (D0 : Df K mg f body scope ps a fd) (S : FnScope N ps scope)
    (nm : ∀ x ∈ N, (x == ("__debug__" : Str)) = false ∧ (x == ("__classdict__" : Str)) = false) (hN : N.length = c.nn) (hp : ps.length = c.np)
    (eb : body = [.If t1 [.Raise (some (.Call (.Name xn q1) [e1] [] q2)) none q3] [] q4, .For tg it [.If t2 [.Raise (some (.Call (.Name xn q5) [e2] [] q6)) none q7] [] q8] [] q9])
    (h1 : cE G n ⟨N, scope, []⟩ t1 = some c.i1) (h2 : cI G n ⟨N, scope, []⟩ (isTupE tg) it = some c.ii) (h3 : cT ⟨N, scope, []⟩ tg = some c.t) (h4 : cE G n ⟨N, scope, []⟩ t2 = some c.i2) (h5 : cEs G n ⟨N, scope, []⟩ [e1] = some c.j1) (h6 : cEs G n ⟨N, scope, []⟩ [e2] = some c.j2)
    (hg : gloB scope xn = true) (hx : (xn == ("__debug__" : Str)) = false) (s1 : isStar e1 = false) (s2 : isStar e2 = false) (O : OwnX K mg xn fl Ci fI) :
    FnOk P w K mg base (CX P w) (r + 2) a fd ps (spR (chkB k c) CR T Ci ps.length) := by
  obtain ⟨qual, params, F⟩ := D0.F
  have hle : ps.length ≤ N.length := by
    have := congrArg List.length S.pre
    rw [List.length_take] at this
    omega
  refine F.ok (k := r + 1) S (fun vs H Q E ⟨b, S', B, ds, z, B', hl, bs, rv, _⟩ => by rw [← Reps.length rv, hl]) fun cdv A outer s H vs Q E hr ⟨b, S', B, ds, z, B', hl, bs, rv, hrun, qt, qf⟩ => ?_
  have g : GX false r ⟨N, scope, []⟩ (cxOf (CX P w) P w K mg base N qual scope a cdv A outer s H E).nox := {
    N := rfl
    nd := S.nd
    nm := nm
    calm := rfl
    xe := rfl
    room := hr
    gd := fun z => nomatch z
    vis := fun x h => visB_of h
    loc := fun x h => ⟨locB_of h, .inl rfl⟩
    glo := fun x h => gloB_of h
    fre := fun x h => h }
  have I : So G k CR T n ⟨N, scope, []⟩ (cxOf (CX P w) P w K mg base N qual scope a cdv A outer s H E).nox := sound n _ _ W g
  have tk : Takes (cxOf (CX P w) P w K mg base N qual scope a cdv A outer s H E) (fun cls d _ H' => E cls d H') := takes_of rfl rfl rfl rfl
  have pass : PassesOwn (model P w) (cxOf (CX P w) P w K mg base N qual scope a cdv A outer s H E).A (cxOf (CX P w) P w K mg base N qual scope a cdv A outer s H E).env (cxOf (CX P w) P w K mg base N qual scope a cdv A outer s H E).xe := passes_of rfl
  have rs := fun (e : Expr) (j : IE) (p1 p2 p3 : Pos) (se : isStar e = false) (hj : cEs G n ⟨N, scope, []⟩ [e] = some j) => ps_raiseX (X := cxOf (CX P w) P w K mg base N qual scope a cdv A outer s H E) (p := p1) (pos := p2) (pos2 := p3) (k := r + 1) rfl O hr tk (pa_nox (I.es _ _ hj)) (gloB_of hg) hx (star1 se) rfl
  subst eb
  refine ⟨_, pss_cons (ps_if (PT.nox (I.e _ _ h1).1.2) (pss_one (rs e1 _ q1 q2 q3 s1 h5)) pss_nil)
    (pss_one (ps_for pass rfl (pi_nox (I.i _ _ _ h2 tg fun z => z)) (pg_nox (pg_of g h3)) (pss_one (ps_if (PT.nox (I.e _ _ h4).1.2) (pss_one (rs e2 _ q5 q6 q7 s2 h6)) pss_nil)) (fun x => fold_ok (cI_noset h2)))), ?_⟩
  have st0 : Ste CR T b S' H S' H (L2.start N vs) (startE ⟨c.np, c.nn, .skip⟩ ds) B := ste_start (fn := ⟨c.np, c.nn, .skip⟩) bs rv hN (by show ds.length ≤ c.nn; omega)
  unfold chkB at hrun
  dsimp only at hrun
  split at hrun
  · obtain ⟨d, B1, ev1, hrun⟩ := bd_inv hrun
    cases d with
    | bl z1 =>
      refine ⟨b, S', _, B, z1, B1, st0.st, ev1, fun S1 H1 g1 bs1 => ?_⟩
      cases z1 with
      | true =>
        refine itT ?_
        exact raise_rd (st0.mono g1 bs1) hrun qf
      | false =>
        refine itF ?_
        obtain ⟨xs, B2, ev2, hrun⟩ := bd_inv hrun
        refine ⟨b, S1, _, B1, xs, B2, (st0.mono g1 bs1).st, ev2, fun J S2 H2 g2 bs2 wk => ?_⟩
        refine ⟨fun i m σ H3 => m = xs.length - i ∧ i ≤ xs.length ∧ ∃ S3 env B3, Ex S2 S3 ∧ Ste CR T b S' H S3 H3 σ env B3 ∧ chkGo k c.t c.i2 c.j2 (xs.drop i) env B3 = some (z, B'),
          ⟨xs.length, by simp, Nat.zero_le _, S2, _, B2, Ex.refl S2, (st0.mono g1 bs1).mono g2 bs2, hrun⟩, ?_⟩
        rintro i m σi Hi ⟨rfl, hle, Si, envi, Bi, exi, sti, hgo⟩
        have wi := wk Si Hi Bi exi sti.st.bas
        by_cases hlt : i < xs.length
        · rw [drop_at hlt] at hgo
          obtain ⟨en, z2, B4, k1, k2, k3⟩ := chkGo_cons hgo
          obtain ⟨go, yl⟩ := wi.2 i _ (List.getElem?_eq_getElem hlt)
          refine .inr ⟨go, fun σ' H' => i + 1 ≤ xs.length ∧ ∃ S3 env B3, Ex S2 S3 ∧ Ste CR T b S' H S3 H' σ' env B3 ∧ chkGo k c.t c.i2 c.j2 (xs.drop (i + 1)) env B3 = some (z, B'), fun σ' H' p' => ⟨xs.length - (i + 1), by omega, rfl, p'⟩, fun v H' hy => ?_⟩
          obtain ⟨S5, g', bs', rv'⟩ := yl v H' hy
          refine bind_ok (P := fun σ' env' => Ste CR T b S' H S5 H' σ' env' Bi) bs' (fun j σ1 env1 d1 v1 _ p1 r1 => p1.put r1) (sti.mono g' bs') k1 rv' fun σ2 st2 => ?_
          refine ⟨b, S5, en, Bi, z2, B4, st2.st, k2, fun S6 H6 g6 bs6 => ?_⟩
          cases z2 with
          | true =>
            refine itT ?_
            exact raise_rd (st2.mono g6 bs6) k3 qf
          | false =>
            refine itF ?_
            exact ⟨hlt, S6, en, B4, exi.trans (g'.s.trans g6.s), st2.mono g6 bs6, k3⟩
        · have e : i = xs.length := by omega
          subst e
          rw [List.drop_length] at hgo
          cases hgo
          exact .inl ⟨wi.1, qt rfl Si Hi sti.gr sti.st.bas⟩
    | _ => cases hrun
  · cases hrun
end
end Cab
set_option Elab.async false
set_option linter.all false
set_option maxRecDepth 100000
set_option maxHeartbeats 4000000
/-! The ride: its two checks, its making. -/
namespace Cab
open PySem L2 LamX Evl CabR PyProof.Rows PySem.Spec
def cC : ChkT := ⟨1, 3, .or_ (.nt (.isi (.v 0) .tuple)) (.nt (.ch .le .le (.c (.int 1)) (.bi .len (.econs (.v 0) .enil)) (.c (.int 12)))), .econs (.c .non) .enil, .enum (.v 0), .tp [1, 2],
  .nt (.call ("is_between" : Str) (.econs (.v 2) (.econs (.c (.int 0)) (.econs (.c (.int 1000000)) .enil)))), .econs (.v 1) .enil⟩
def cR : ChkT := ⟨2, 4, .or_ (.nt (.isi (.v 0) .tuple)) (.nt (.ch .le .le (.c (.int 1)) (.bi .len (.econs (.v 0) .enil)) (.c (.int 6)))), .econs (.c .non) .enil, .enum (.v 0), .tp [2, 3],
  .nt (.call ("is_rider" : Str) (.econs (.v 3) (.econs (.v 1) .enil))), .econs (.v 2) .enil⟩
def nCosts : List Str := ["value", "index", "cost"]
def nRiders : List Str := ["value", "stretches", "index", "rider"]
theorem scCosts : FnScope nCosts ["value"] (defScope (topS 29)) := ⟨rfl, rfl, rfl, by decide +kernel, rfl, by decide +kernel, by decide +kernel⟩
theorem scRiders : FnScope nRiders ["value", "stretches"] (defScope (topS 31)) := ⟨rfl, rfl, rfl, by decide +kernel, rfl, by decide +kernel, by decide +kernel⟩
section
variable {P : Program} {w : World} {K : PySem.W.Frag} {mg : Str → Option Value} {base : Heap} {CR : Addr} {T : List (Addr × Str)} {k : Call} {r : Nat} {a Ci fI : Addr} {fd : FuncData}
theorem ok_costs (W : WF false gw k CR T r P w K mg base) (D0 : Df K mg "check_costs" (defBody (topS 29)) (defScope (topS 29)) ["value"] a fd) (O : OwnX K mg "InvalidCosts" "index" Ci fI) : FnOk P w K mg base (CX P w) (r + 2) a fd ["value"] (spR (chkB k cC) CR T Ci 1) :=
  ok_chk (N := nCosts) (n := 60) W D0 scCosts (by decide) rfl rfl rfl (by kernel_rfl) (by kernel_rfl) (by kernel_rfl) (by kernel_rfl) (by kernel_rfl) (by kernel_rfl) rfl rfl rfl rfl O
theorem ok_riders (W : WF false gw k CR T r P w K mg base) (D0 : Df K mg "check_riders" (defBody (topS 31)) (defScope (topS 31)) ["value", "stretches"] a fd) (O : OwnX K mg "InvalidRiders" "index" Ci fI) : FnOk P w K mg base (CX P w) (r + 2) a fd ["value", "stretches"] (spR (chkB k cR) CR T Ci 2) :=
  ok_chk (N := nRiders) (n := 60) W D0 scRiders (by decide) rfl rfl rfl (by kernel_rfl) (by kernel_rfl) (by kernel_rfl) (by kernel_rfl) (by kernel_rfl) (by kernel_rfl) rfl rfl rfl rfl O
end
def mtS (i j : Nat) : Stmt := match topS i with
  | .ClassDef (body := b) .. => b.getD j (.Pass ⟨0, 0, 0, 0⟩)
  | s => s
end Cab
set_option Elab.async false
set_option linter.all false
set_option maxRecDepth 100000
set_option maxHeartbeats 0
/-! What the head tells: the facts by names, and the run of the top. (the lists are printed by gen_ir.py, mode head) -/
namespace Cab
open PySem L2 PySem.Spec PyProof.Rows
def dTop (x : Str) (i : Nat) : He.DefD := ⟨(x, none), x, x, defArgs (topS i), defBody (topS i), defScope (topS i), [], []⟩
def dMet (C m q : Str) (i j : Nat) : He.DefD := ⟨(C, some m), m, q, defArgs (mtS i j), defBody (mtS i j), defScope (mtS i j), [], []⟩
def fnT : List He.DefD := [dTop ("is_integer" : Str) 19,
  dTop ("is_between" : Str) 20,
  dTop ("common" : Str) 21,
  dTop ("fraction" : Str) 22,
  dTop ("is_fraction" : Str) 23,
  dTop ("plus" : Str) 24,
  dTop ("times" : Str) 25,
  dTop ("is_less" : Str) 26,
  dTop ("check_costs" : Str) 29,
  dTop ("is_rider" : Str) 30,
  dTop ("check_riders" : Str) 31,
  dTop ("aboard_at" : Str) 32,
  dTop ("place_of" : Str) 33,
  dTop ("ranked_at" : Str) 34,
  dTop ("is_crowded" : Str) 35,
  dTop ("check_stretch" : Str) 37,
  dTop ("places" : Str) 40,
  dTop ("place_in_row" : Str) 41,
  dTop ("form_of" : Str) 42,
  dTop ("fare_form" : Str) 43,
  dTop ("joined" : Str) 44,
  dTop ("corners" : Str) 45,
  dTop ("greatest_of" : Str) 46,
  dTop ("is_row" : Str) 48,
  dTop ("lasting_clauses" : Str) 49,
  dTop ("halved_clauses" : Str) 50,
  dTop ("is_clause" : Str) 52,
  dTop ("is_custom" : Str) 53,
  dTop ("clauses_of" : Str) 54,
  dTop ("clause_form" : Str) 55,
  dTop ("is_amounts" : Str) 56,
  dTop ("is_receipt" : Str) 57,
  dTop ("room_forms" : Str) 58,
  dTop ("worth" : Str) 59,
  dTop ("keeps" : Str) 60,
  dTop ("ride_of" : Str) 64,
  dTop ("receipts_of" : Str) 65,
  dTop ("is_table" : Str) 66,
  dTop ("fare_told" : Str) 67,
  dTop ("aim_of" : Str) 68,
  dTop ("by_table" : Str) 69,
  dTop ("is_natural" : Str) 70,
  dTop ("is_pair" : Str) 71,
  dTop ("by_numbers" : Str) 72,
  dTop ("holds" : Str) 73,
  dTop ("_law_from" : Str) 75,
  dTop ("_law_bag" : Str) 76,
  dTop ("_law_take" : Str) 77,
  dTop ("_law_of" : Str) 78,
  dTop ("_law_whole" : Str) 79,
  dTop ("_law_less" : Str) 80,
  dTop ("_law_plus" : Str) 81,
  dTop ("_law_is_part" : Str) 82,
  dTop ("_law_is_sheet" : Str) 83,
  dTop ("_law_full" : Str) 84,
  dTop ("_law_told" : Str) 85,
  dTop ("_law_ranked" : Str) 86,
  dTop ("_law_fare" : Str) 87,
  dTop ("_law_mix" : Str) 88,
  dTop ("_law_at" : Str) 89,
  dTop ("_law_top" : Str) 90,
  dTop ("_law_rules" : Str) 91,
  dTop ("_law_rooms" : Str) 92,
  dTop ("_law_keeps" : Str) 93,
  dTop ("_law_is_told" : Str) 94,
  dTop ("_law_is_custom" : Str) 95,
  dTop ("_law_are_slips" : Str) 96,
  dTop ("_law_excess" : Str) 97,
  dTop ("_law_by_sheet" : Str) 98,
  dTop ("_law_by_sum" : Str) 99,
  dTop ("_law_said" : Str) 100,
  dTop ("_law_is_asked" : Str) 101,
  dTop ("_law_judge" : Str) 102,
  dTop ("_law_bent_told" : Str) 103,
  dTop ("_law_bent_slips" : Str) 104,
  dTop ("_law_bent_custom" : Str) 105,
  dTop ("_law_asked" : Str) 106,
  dTop ("_law_right" : Str) 107,
  dTop ("law" : Str) 108]
def fnM : List He.DefD := [dMet ("InvalidCosts" : Str) ("__init__" : Str) ("InvalidCosts.__init__" : Str) 5 0, dMet ("InvalidRiders" : Str) ("__init__" : Str) ("InvalidRiders.__init__" : Str) 6 0, dMet ("TooMany" : Str) ("__init__" : Str) ("TooMany.__init__" : Str) 7 0, dMet ("Ride" : Str) ("__init__" : Str) ("Ride.__init__" : Str) 36 0, dMet ("Ride" : Str) ("__len__" : Str) ("Ride.__len__" : Str) 36 3]
def gloN : List Str := [("is_integer" : Str), ("is_between" : Str), ("common" : Str), ("fraction" : Str), ("is_fraction" : Str), ("plus" : Str), ("times" : Str), ("is_less" : Str), ("check_costs" : Str), ("is_rider" : Str), ("check_riders" : Str), ("aboard_at" : Str), ("place_of" : Str), ("ranked_at" : Str), ("is_crowded" : Str), ("check_stretch" : Str), ("places" : Str), ("place_in_row" : Str), ("form_of" : Str), ("fare_form" : Str), ("joined" : Str), ("corners" : Str), ("greatest_of" : Str), ("is_row" : Str), ("lasting_clauses" : Str), ("halved_clauses" : Str), ("is_clause" : Str), ("is_custom" : Str), ("clauses_of" : Str), ("clause_form" : Str), ("is_amounts" : Str), ("is_receipt" : Str), ("room_forms" : Str), ("worth" : Str), ("keeps" : Str), ("ride_of" : Str), ("receipts_of" : Str), ("is_table" : Str), ("fare_told" : Str), ("aim_of" : Str), ("by_table" : Str), ("is_natural" : Str), ("is_pair" : Str), ("by_numbers" : Str), ("holds" : Str), ("_law_from" : Str), ("_law_bag" : Str), ("_law_take" : Str), ("_law_of" : Str), ("_law_whole" : Str), ("_law_less" : Str), ("_law_plus" : Str), ("_law_is_part" : Str), ("_law_is_sheet" : Str), ("_law_full" : Str), ("_law_told" : Str), ("_law_ranked" : Str), ("_law_fare" : Str), ("_law_mix" : Str), ("_law_at" : Str), ("_law_top" : Str), ("_law_rules" : Str), ("_law_rooms" : Str), ("_law_keeps" : Str), ("_law_is_told" : Str), ("_law_is_custom" : Str), ("_law_are_slips" : Str), ("_law_excess" : Str), ("_law_by_sheet" : Str), ("_law_by_sum" : Str), ("_law_said" : Str), ("_law_is_asked" : Str), ("_law_judge" : Str), ("_law_bent_told" : Str), ("_law_bent_slips" : Str), ("_law_bent_custom" : Str), ("_law_asked" : Str), ("_law_right" : Str), ("law" : Str), ("InvalidCosts" : Str), ("InvalidRiders" : Str), ("TooMany" : Str), ("Ride" : Str), ("ORDERS" : Str), ("WORDS" : Str), ("BY_TABLE" : Str), ("LENGTHS" : Str)]
def looseN : List Str := [("_wall" : Str), ("InputError" : Str), ("SizeError" : Str), ("InvalidStretch" : Str), ("InvalidCosts" : Str), ("InvalidRiders" : Str), ("TooMany" : Str), ("MOST_STRETCHES" : Str), ("MOST_COST" : Str), ("MOST_RIDERS" : Str), ("MOST_ABOARD" : Str), ("MOST_BAGS" : Str), ("MOST_AMOUNT" : Str), ("MOST_PLAY" : Str), ("MOST_RECEIPTS" : Str), ("MOST_CLAUSES" : Str), ("MOST_FACTOR" : Str), ("is_integer" : Str), ("is_between" : Str), ("common" : Str), ("fraction" : Str), ("is_fraction" : Str), ("plus" : Str), ("times" : Str), ("is_less" : Str), ("ORDERS" : Str), ("check_costs" : Str), ("is_rider" : Str), ("check_riders" : Str), ("aboard_at" : Str), ("place_of" : Str), ("ranked_at" : Str), ("is_crowded" : Str), ("Ride" : Str), ("check_stretch" : Str), ("SCALE" : Str), ("places" : Str), ("place_in_row" : Str), ("form_of" : Str), ("fare_form" : Str), ("joined" : Str), ("corners" : Str), ("greatest_of" : Str), ("is_row" : Str), ("lasting_clauses" : Str), ("halved_clauses" : Str), ("WORDS" : Str), ("is_clause" : Str), ("is_custom" : Str), ("clauses_of" : Str), ("clause_form" : Str), ("is_amounts" : Str), ("is_receipt" : Str), ("room_forms" : Str), ("worth" : Str), ("keeps" : Str), ("LENGTHS" : Str), ("BY_TABLE" : Str), ("ride_of" : Str), ("receipts_of" : Str), ("is_table" : Str), ("fare_told" : Str), ("aim_of" : Str), ("by_table" : Str), ("is_natural" : Str), ("is_pair" : Str), ("by_numbers" : Str), ("holds" : Str), ("_law_from" : Str), ("_law_bag" : Str), ("_law_take" : Str), ("_law_of" : Str), ("_law_whole" : Str), ("_law_less" : Str), ("_law_plus" : Str), ("_law_is_part" : Str), ("_law_is_sheet" : Str), ("_law_full" : Str), ("_law_told" : Str), ("_law_ranked" : Str), ("_law_fare" : Str), ("_law_mix" : Str), ("_law_at" : Str), ("_law_top" : Str), ("_law_rules" : Str), ("_law_rooms" : Str), ("_law_keeps" : Str), ("_law_is_told" : Str), ("_law_is_custom" : Str), ("_law_are_slips" : Str), ("_law_excess" : Str), ("_law_by_sheet" : Str), ("_law_by_sum" : Str), ("_law_said" : Str), ("_law_is_asked" : Str), ("_law_judge" : Str), ("_law_bent_told" : Str), ("_law_bent_slips" : Str), ("_law_bent_custom" : Str), ("_law_asked" : Str), ("_law_right" : Str)]
def freeN : List Str := ["len", "abs", "all", "any", "sum", "max", "min", "tuple", "list", "int", "sorted", "isinstance", "range", "enumerate", "zip", "bool", "str", "repr", "divmod"]
def faL : List He.Fa := gloN.map .glo ++ freeN.map .free ++ globL.map (fun p => .int p.1 p.2) ++ [.cls "Ride", .noat "Ride" "costs", .noat "Ride" "riders", .noat "Ride" "told", .meth "Ride" "__len__", .mkr "Ride",
  .keep "InvalidCosts", .keep "InvalidRiders", .keep "TooMany", .noat "InvalidCosts" "index", .noat "InvalidRiders" "index", .noat "TooMany" "limit"]
def tsL : List He.Tab := [((fun K => He.ga K "LENGTHS"), g_LENGTHS.map (·.1))]
def vTail : List Value := [.type "ValueError", .type "Exception", .type "BaseException", .type "object"]
def aTail : List Value := [.type "ArithmeticError", .type "Exception", .type "BaseException", .type "object"]
/-- an own exception's class -/
def oexB (K : PySem.W.Frag) (x : Str) (tail : List Value) (newId : String) : Bool := (match K.lookup (He.ga K x) with
  | some ⟨.type "type", _, .cls cd, sl⟩ => (match cd.mro, sl.toList with
    | .ref C' :: bm, [_, _, _, _, some (.builtin n), _] => C' == He.ga K x && n == newId && !cd.hasDel && cd.hasDict && refsOf tail bm
    | _, _ => false)
  | _ => false) && He.eqO (PySem.W.findIn K (.ref (He.ga K x)) "__setattr__") (some (some (.builtin "object.__setattr__"))) && He.eqO (PySem.W.findIn K (.ref (He.ga K x)) "__init__") (some (some (.ref (He.ma K (He.ga K x) "__init__")))) &&
  decide (PySem.W.typeIn K (.ref (He.ma K (He.ga K x) "__init__")) = some (.type "function")) && decide (PySem.W.subIn K (.ref (He.ga K x)) (.type "BaseException") = some true) && decide (PySem.W.typeIn K (.ref (He.ga K x)) = some (.type "type"))
def exL (K : PySem.W.Frag) : Bool :=
  oexB K "InvalidCosts" vTail "ValueError.__new__" && oexB K "InvalidRiders" vTail "ValueError.__new__" && oexB K "TooMany" aTail "ArithmeticError.__new__" &&
  He.tupB K "ORDERS" (g_ORDERS.map .str) && He.tupB K "WORDS" (g_WORDS.map .str) && He.tupB K "BY_TABLE" (g_BY_TABLE.map .str) && He.valsB K (He.ga K "LENGTHS") (g_LENGTHS.map fun p => (p.1, .int p.2)) &&
  He.eqO (PySem.W.findIn K (.ref (He.ga K "Ride")) "__class__") (some (some (.builtin "object.__class__"))) && He.eqO (PySem.W.specialIn K (.builtin "object.__class__") "__get__") (some (some (.builtin "getset_descriptor.__get__"))) &&
  decide (PySem.W.takesIn K (.builtin "object.__class__") = some true) && decide (PySem.W.mroIn K (He.ga K "Ride") (.type "object") = some true) &&
  decide (PySem.W.kitOne K (.ref (He.ga K "Ride")) (.ref (He.ga K "Ride")) = some true) && decide (PySem.W.kitOne K (.type "NoneType") (.ref (He.ga K "Ride")) = some false) &&
  (["InvalidCosts", "InvalidRiders", "TooMany"].all fun x => decide (PySem.W.exmAny K (.ref (He.ga K x)) [.ref (He.ga K "InvalidCosts"), .ref (He.ga K "InvalidRiders"), .ref (He.ga K "TooMany")] = some true))
def tfL : List He.Defn := [("ranked_at", none)]
def fnL : List He.DefD := fnT ++ fnM
abbrev Rw : PySem.W.OpenRow := PySem.W.OpenLaw.row PySem.Challenge.rw_cabshares_k48_whole_claims_near_their_bo
/-! the same look, each part told once -/
def frL {α : Type} : List Addr → (List Addr → α) → α
  | [], k => k []
  | a :: r, k => HandSHeadRun.frNat a fun a => frL r fun r => k (a :: r)
theorem frL_eq {α : Type} : ∀ (l : List Addr) (k : List Addr → α), frL l k = k l
  | [], _ => rfl
  | a :: r, k => by
    show HandSHeadRun.frNat a _ = _
    rw [HandSHeadRun.frNat_eq, frL_eq r]
def frF {α : Type} : PySem.W.Frag → (PySem.W.Frag → α) → α
  | [], k => k []
  | (a, ⟨c, d, dt, sl⟩) :: r, k => frF r fun r => k ((a, ⟨c, d, dt, sl⟩) :: r)
theorem frF_eq {α : Type} : ∀ (l : PySem.W.Frag) (k : PySem.W.Frag → α), frF l k = k l
  | [], _ => rfl
  | (a, ⟨c, d, dt, sl⟩) :: r, k => by
    show frF r _ = _
    rw [frF_eq r]
/-- the names' addresses in some steps, each once (a bit for each that is seen) -/
def pushN {α : Type} (m : Nat) (nw : List Addr) : List Addr → (Nat → List Addr → α) → α
  | [], k => k m nw
  | a :: r, k => HandSHeadRun.frNat a fun a => match Nat.beq (Nat.land (Nat.shiftRight m a) 1) 1 with
    | true => pushN m nw r k
    | false => HandSHeadRun.frNat (Nat.lor m (Nat.shiftLeft 1 a)) fun m => pushN m (a :: nw) r k
theorem pushN_eq {α : Type} : ∀ (l : List Addr) (m : Nat) (nw : List Addr) (k : Nat → List Addr → α), pushN m nw l k = k (pushN m nw l Prod.mk).1 (pushN m nw l Prod.mk).2
  | [], _, _, _ => rfl
  | a :: r, m, nw, k => by
    unfold pushN
    simp only [HandSHeadRun.frNat_eq]
    cases Nat.beq (Nat.land (Nat.shiftRight m a) 1) 1 with
    | true => exact pushN_eq r m nw k
    | false => exact pushN_eq r _ _ k
def stepN {α : Type} (g : Addr → Option Obj) (m : Nat) (nw : List Addr) : List Addr → (Nat → List Addr → α) → α
  | [], k => k m nw
  | a :: r, k => match g a with
    | some o => pushN m nw (He.refsD o) fun m nw => stepN g m nw r k
    | none => stepN g m nw r k
theorem stepN_eq {α : Type} {g : Addr → Option Obj} : ∀ (l : List Addr) (m : Nat) (nw : List Addr) (k : Nat → List Addr → α), stepN g m nw l k = k (stepN g m nw l Prod.mk).1 (stepN g m nw l Prod.mk).2
  | [], _, _, _ => rfl
  | a :: r, m, nw, k => by
    unfold stepN
    cases g a with
    | none => exact stepN_eq r m nw k
    | some o =>
      dsimp only
      rw [pushN_eq (He.refsD o) m nw fun m nw => stepN g m nw r k, pushN_eq (He.refsD o) m nw fun m nw => stepN g m nw r Prod.mk]
      exact stepN_eq r _ _ k
def apR {α : Type} : List Addr → List Addr → (List Addr → α) → α
  | [], ys, k => k ys
  | x :: xs, ys, k => apR xs (x :: ys) k
theorem apR_eq {α : Type} : ∀ (l ys : List Addr) (k : List Addr → α), apR l ys k = k (apR l ys id)
  | [], _, _ => rfl
  | x :: xs, ys, k => apR_eq xs (x :: ys) k
def bfsN {α : Type} (g : Addr → Option Obj) : Nat → Nat → List Addr → List Addr → (List Addr → α) → α
  | 0, _, fr, acc, k => apR fr acc k
  | n + 1, m, fr, acc, k => stepN g m [] fr fun m nw => apR fr acc fun acc => bfsN g n m nw acc k
theorem bfsN_eq {α : Type} {g : Addr → Option Obj} : ∀ (n m : Nat) (fr acc : List Addr) (k : List Addr → α), bfsN g n m fr acc k = k (bfsN g n m fr acc id)
  | 0, _, fr, acc, k => apR_eq fr acc k
  | n + 1, m, fr, acc, k => by
    unfold bfsN
    rw [stepN_eq fr m [] fun m nw => apR fr acc fun acc => bfsN g n m nw acc k, stepN_eq fr m [] fun m nw => apR fr acc fun acc => bfsN g n m nw acc id, apR_eq fr acc, apR_eq fr acc (fun acc => bfsN g n _ _ acc id)]
    exact bfsN_eq n _ _ _ k
def asB {α : Type} (g : Addr → Option Obj) (n : Nat) (k : List Addr → α) : α := bfsN g n (Nat.shiftLeft 1 mainGlobals) [mainGlobals] [] k
def obF (g : Addr → Option Obj) : He.AlX := asB g 4 fun as => frF (He.frT g as) fun K => (He.obsT faL fnL tsL K, exL K && He.tabsB g tfL K)
theorem obF_eq (g : Addr → Option Obj) : obF g = (He.obsT faL fnL tsL (He.frT g (asB g 4 id)), exL (He.frT g (asB g 4 id)) && He.tabsB g tfL (He.frT g (asB g 4 id))) := by
  unfold obF asB
  rw [bfsN_eq, frF_eq]
theorem saysA_of {w : World} {h : Heap} {as : List Addr} (e : (He.obsT faL fnL tsL (He.frT h.get? as), exL (He.frT h.get? as) && He.tabsB h.get? tfL (He.frT h.get? as)) = He.valX fnL tsL w) : He.SaysX faL fnL tsL tfL exL w h (He.frT h.get? as) := by
  have e1 : He.obsT faL fnL tsL (He.frT h.get? as) = He.valT fnL tsL w := congrArg (fun z : He.AlX => z.1) e
  have e2 : (exL (He.frT h.get? as) && He.tabsB h.get? tfL (He.frT h.get? as)) = true := congrArg (fun z : He.AlX => z.2) e
  obtain ⟨h1, h2⟩ := Bool.and_eq_true_iff.mp e2
  have key : ∀ p ∈ tfL, PySem.W.codeHdIn (He.frT h.get? as) (He.cT (He.frT h.get? as) p).1 (He.cT (He.frT h.get? as) p).2 = true ∧ ∃ o, h.get? (He.cT (He.frT h.get? as) p).2 = some o ∧ He.emptyTab o = true := fun p hp => by
    obtain ⟨h3, h4⟩ := Bool.and_eq_true_iff.mp (List.all_eq_true.mp h2 p hp)
    refine ⟨h3, ?_⟩
    cases q : h.get? (He.cT (He.frT h.get? as) p).2 with
    | none =>
      rw [q] at h4
      cases h4
    | some o =>
      rw [q] at h4
      exact ⟨o, rfl, h4⟩
  exact ⟨e1, h1, fun p hp => (key p hp).1, fun p hp => by
    obtain ⟨_, o, q, z⟩ := key p hp
    exact He.frT_none q z, fun p hp => by
    obtain ⟨_, o, q, z⟩ := key p hp
    rw [q, He.emptyTab_eq z]⟩
def hkL : PySem.W.Hook where
  α := He.AlX
  obs := fun s => obF s.heap.get?
  val := fun w => He.valX fnL tsL w
  says := fun w h => ∃ K : PySem.W.Frag, K.In h ∧ He.SaysX faL fnL tsL tfL exL w h K
  of := fun _ _ e => ⟨_, He.frT_in, saysA_of ((obF_eq _).symm.trans e)⟩
  keeps := fun _ _ _ ⟨K, hK, c⟩ k => ⟨K, PySem.W.Frag.In.keeps hK k, ⟨c.t, c.more, c.hd, c.out, fun p hp => k _ _ (c.empty p hp)⟩⟩
def obL (s : PySem.W.SharedT) : He.AlX := obF (HandSHeadRun.getT s)
theorem obL_eq (s : PySem.W.SharedT) : obL s = hkL.obs s.abs := by
  have e : HandSHeadRun.getT s = s.abs.heap.get? := funext (HandSHeadRun.getT_eq s)
  unfold obL
  rw [e]
  rfl
/-! the look in parts (each part in a run of its own) -/
def obW {α : Type} (f : (Addr → Option Obj) → PySem.W.Frag → α) (s : PySem.W.SharedT) : α := asB (HandSHeadRun.getT s) 4 fun as => frF (He.frT (HandSHeadRun.getT s) as) fun K => f (HandSHeadRun.getT s) K
theorem obW_eq {α : Type} (f : (Addr → Option Obj) → PySem.W.Frag → α) (s : PySem.W.SharedT) : obW f s = f (HandSHeadRun.getT s) (He.frT (HandSHeadRun.getT s) (asB (HandSHeadRun.getT s) 4 id)) := by
  unfold obW asB
  rw [bfsN_eq, frF_eq]
def fnL1 : List He.DefD := fnL.take 45
def fnL2 : List He.DefD := fnL.drop 45
def obA (g : Addr → Option Obj) (K : PySem.W.Frag) : Bool × List (Option (List (Option (Str × Int)))) := ((faL.all fun f => f.ok K) && (exL K && He.tabsB g tfL K), tsL.map fun t => He.dicW K (t.1 K))
def obB (fn : List He.DefD) (_ : Addr → Option Obj) (K : PySem.W.Frag) : He.AlD := (fn.all fun d => d.ok K, fn.map fun d => He.fnW K d.at_)
theorem obL_of {s : PySem.W.SharedT} {w : World} (h1 : obW obA s = (true, tsL.map fun t => some (He.keysIn w.params t.2))) (h2 : obW (obB fnL1) s = He.valD fnL1) (h3 : obW (obB fnL2) s = He.valD fnL2) : obL s = hkL.val w := by
  rw [obW_eq] at h1 h2 h3
  unfold obL
  rw [obF_eq]
  generalize He.frT (HandSHeadRun.getT s) (asB (HandSHeadRun.getT s) 4 id) = K at h1 h2 h3 ⊢
  generalize HandSHeadRun.getT s = g at h1 h2 h3 ⊢
  obtain ⟨a1, a2⟩ := Prod.mk.inj h1
  obtain ⟨b1, b2⟩ := Prod.mk.inj h2
  obtain ⟨c1, c2⟩ := Prod.mk.inj h3
  obtain ⟨d1, d2⟩ := Bool.and_eq_true_iff.mp a1
  have hf : fnL = fnL1 ++ fnL2 := (List.take_append_drop 45 fnL).symm
  have e1 : (fnL.all fun d => d.ok K) = true := by
    rw [hf, List.all_append, b1, c1]
    rfl
  have e2 : (fnL.map fun d => He.fnW K d.at_) = fnL.map He.DefD.val := by
    rw [hf, List.map_append, List.map_append, b2, c2]
  show ((((faL.all fun f => f.ok K) && fnL.all fun d => d.ok K, fnL.map fun d => He.fnW K d.at_), tsL.map fun t => He.dicW K (t.1 K)), exL K && He.tabsB g tfL K) = (((true, fnL.map He.DefD.val), tsL.map fun t => some (He.keysIn w.params t.2)), true)
  rw [d1, e1, e2, a2, d2]
  rfl
end Cab
set_option Elab.async false
set_option linter.all false
set_option maxRecDepth 100000
set_option maxHeartbeats 0
/-! The head's run, where the row special-get-raises says false. -/
namespace Cab
open PySem L2 PySem.Spec PyProof.Rows PySem.W
theorem rRunA1 (w : World) (os : OsState) : (HandSHeadRun.endF (HandSHeadRun.stepQ (HandSHeadRun.denQ HandSHeadRun.tabQ) Rw.prog (w.withFollow "special-get-raises" false)) 20000 Rw.prog (w.withFollow "special-get-raises" false) os).map (fun s => (HandSHeadRun.looksF Rw.prog (boot_heap (w.withFollow "special-get-raises" false).params) s.abs, HandSHeadRun.seenQ (PySem.W.view Rw.prog [108]) looseN (importedModules Rw.prog.main.body) (fun s => xlAt (PySem.W.view Rw.prog [108]) [] s && recOk Rw.toRowW.records s) s.abs)) = some (true, openGood (PySem.W.view Rw.prog [108]) looseN) := by kernel_rfl
theorem rRunA2 (w : World) (os : OsState) : (HandSHeadRun.endF (HandSHeadRun.stepQ (HandSHeadRun.denQ HandSHeadRun.tabQ) Rw.prog (w.withFollow "special-get-raises" false)) 20000 Rw.prog (w.withFollow "special-get-raises" false) os).map (fun s => obW obA s) = some ((true, tsL.map fun t => some (He.keysIn (w.withFollow "special-get-raises" false).params t.2))) := by kernel_rfl
theorem rRunA3 (w : World) (os : OsState) : (HandSHeadRun.endF (HandSHeadRun.stepQ (HandSHeadRun.denQ HandSHeadRun.tabQ) Rw.prog (w.withFollow "special-get-raises" false)) 20000 Rw.prog (w.withFollow "special-get-raises" false) os).map (fun s => obW (obB fnL1) s) = some (He.valD fnL1) := by kernel_rfl
theorem rRunA4 (w : World) (os : OsState) : (HandSHeadRun.endF (HandSHeadRun.stepQ (HandSHeadRun.denQ HandSHeadRun.tabQ) Rw.prog (w.withFollow "special-get-raises" false)) 20000 Rw.prog (w.withFollow "special-get-raises" false) os).map (fun s => obW (obB fnL2) s) = some (He.valD fnL2) := by kernel_rfl
end Cab
set_option Elab.async false
set_option linter.all false
set_option maxRecDepth 100000
set_option maxHeartbeats 0
/-! The head's run, where the row special-get-raises says true. -/
namespace Cab
open PySem L2 PySem.Spec PyProof.Rows PySem.W
theorem rRunB1 (w : World) (os : OsState) : (HandSHeadRun.endF (HandSHeadRun.stepQ (HandSHeadRun.denQ HandSHeadRun.tabQ) Rw.prog (w.withFollow "special-get-raises" true)) 20000 Rw.prog (w.withFollow "special-get-raises" true) os).map (fun s => (HandSHeadRun.looksF Rw.prog (boot_heap (w.withFollow "special-get-raises" true).params) s.abs, HandSHeadRun.seenQ (PySem.W.view Rw.prog [108]) looseN (importedModules Rw.prog.main.body) (fun s => xlAt (PySem.W.view Rw.prog [108]) [] s && recOk Rw.toRowW.records s) s.abs)) = some (true, openGood (PySem.W.view Rw.prog [108]) looseN) := by kernel_rfl
theorem rRunB2 (w : World) (os : OsState) : (HandSHeadRun.endF (HandSHeadRun.stepQ (HandSHeadRun.denQ HandSHeadRun.tabQ) Rw.prog (w.withFollow "special-get-raises" true)) 20000 Rw.prog (w.withFollow "special-get-raises" true) os).map (fun s => obW obA s) = some ((true, tsL.map fun t => some (He.keysIn (w.withFollow "special-get-raises" true).params t.2))) := by kernel_rfl
theorem rRunB3 (w : World) (os : OsState) : (HandSHeadRun.endF (HandSHeadRun.stepQ (HandSHeadRun.denQ HandSHeadRun.tabQ) Rw.prog (w.withFollow "special-get-raises" true)) 20000 Rw.prog (w.withFollow "special-get-raises" true) os).map (fun s => obW (obB fnL1) s) = some (He.valD fnL1) := by kernel_rfl
theorem rRunB4 (w : World) (os : OsState) : (HandSHeadRun.endF (HandSHeadRun.stepQ (HandSHeadRun.denQ HandSHeadRun.tabQ) Rw.prog (w.withFollow "special-get-raises" true)) 20000 Rw.prog (w.withFollow "special-get-raises" true) os).map (fun s => obW (obB fnL2) s) = some (He.valD fnL2) := by kernel_rfl
end Cab
set_option Elab.async false
set_option linter.all false
set_option maxRecDepth 100000
set_option maxHeartbeats 0
/-! The head's run. -/
namespace Cab
open PySem L2 PySem.Spec PyProof.Rows
theorem join5 {α β : Type} {w : World} {x : Option PySem.W.SharedT} {f : PySem.W.SharedT → α} {g : PySem.W.SharedT → β} {a : α} {b : β} (h1 : x.map (fun s => (f s, g s)) = some (a, b)) (h2 : x.map (fun s => obW obA s) = some (true, tsL.map fun t => some (He.keysIn w.params t.2)))
    (h3 : x.map (fun s => obW (obB fnL1) s) = some (He.valD fnL1)) (h4 : x.map (fun s => obW (obB fnL2) s) = some (He.valD fnL2)) : x.map (fun s => (f s, g s, obL s)) = some (a, b, hkL.val w) := by
  cases x with
  | none => cases h1
  | some s =>
    obtain ⟨e3, e4⟩ := Prod.mk.inj (show (f s, g s) = (a, b) from Option.some.inj h1)
    show some (f s, g s, obL s) = _
    rw [e3, e4, obL_of (Option.some.inj h2) (Option.some.inj h3) (Option.some.inj h4)]
    rfl
theorem runL (w : World) : HandSHeadRun.RunEq Rw (PySem.W.view Rw.prog [108]) hkL obL 20000 looseN w :=
  PySem.W.byRow2 "special-get-raises" (P := fun w => HandSHeadRun.RunEq Rw (PySem.W.view Rw.prog [108]) hkL obL 20000 looseN w) (fun w os => join5 (rRunA1 w os) (rRunA2 w os) (rRunA3 w os) (rRunA4 w os)) (fun w os => join5 (rRunB1 w os) (rRunB2 w os) (rRunB3 w os) (rRunB4 w os)) w
end Cab
set_option Elab.async false
set_option linter.all false
set_option maxRecDepth 100000
set_option maxHeartbeats 0
/-! Each def of the text, as the head leaves it (printed by gen_ir.py, mode facts). -/
namespace Cab
open PySem L2 PySem.Spec PyProof.Rows
theorem cons_all {α : Type} {p : α → Prop} {a : α} {l : List α} (h : p a) (t : ∀ x ∈ l, p x) : ∀ x ∈ a :: l, p x := fun x hx => (List.mem_cons.mp hx).elim (fun e => e ▸ h) (t x)
theorem df_is_integer {K : PySem.W.Frag} {h : Heap} {mg : Str → Option Value} (X : K.In h) (G : h.Ns mainGlobals mg) (c : He.SaysD faL fnL K) : ∃ fd, Df K mg ("is_integer" : Str) (defBody (topS 19)) (defScope (topS 19)) [("value" : Str)] (He.ga K ("is_integer" : Str)) fd := by
  obtain ⟨fd, F⟩ := c.def_ 0 (d := dTop ("is_integer" : Str) 19) rfl
  exact ⟨fd, ⟨_, _, F⟩, He.glo_ok X G (c.fact 0 (f := .glo ("is_integer" : Str)) rfl), FunD.bindsN F fun _ _ _ _ _ _ us hl => match us, hl with | [_], _ => rfl⟩
theorem df_is_between {K : PySem.W.Frag} {h : Heap} {mg : Str → Option Value} (X : K.In h) (G : h.Ns mainGlobals mg) (c : He.SaysD faL fnL K) : ∃ fd, Df K mg ("is_between" : Str) (defBody (topS 20)) (defScope (topS 20)) [("value" : Str), ("low" : Str), ("high" : Str)] (He.ga K ("is_between" : Str)) fd := by
  obtain ⟨fd, F⟩ := c.def_ 1 (d := dTop ("is_between" : Str) 20) rfl
  exact ⟨fd, ⟨_, _, F⟩, He.glo_ok X G (c.fact 1 (f := .glo ("is_between" : Str)) rfl), FunD.bindsN F fun _ _ _ _ _ _ us hl => match us, hl with | [_, _, _], _ => rfl⟩
theorem df_common {K : PySem.W.Frag} {h : Heap} {mg : Str → Option Value} (X : K.In h) (G : h.Ns mainGlobals mg) (c : He.SaysD faL fnL K) : ∃ fd, Df K mg ("common" : Str) (defBody (topS 21)) (defScope (topS 21)) [("one" : Str), ("other" : Str)] (He.ga K ("common" : Str)) fd := by
  obtain ⟨fd, F⟩ := c.def_ 2 (d := dTop ("common" : Str) 21) rfl
  exact ⟨fd, ⟨_, _, F⟩, He.glo_ok X G (c.fact 2 (f := .glo ("common" : Str)) rfl), FunD.bindsN F fun _ _ _ _ _ _ us hl => match us, hl with | [_, _], _ => rfl⟩
theorem df_fraction {K : PySem.W.Frag} {h : Heap} {mg : Str → Option Value} (X : K.In h) (G : h.Ns mainGlobals mg) (c : He.SaysD faL fnL K) : ∃ fd, Df K mg ("fraction" : Str) (defBody (topS 22)) (defScope (topS 22)) [("top" : Str), ("bottom" : Str)] (He.ga K ("fraction" : Str)) fd := by
  obtain ⟨fd, F⟩ := c.def_ 3 (d := dTop ("fraction" : Str) 22) rfl
  exact ⟨fd, ⟨_, _, F⟩, He.glo_ok X G (c.fact 3 (f := .glo ("fraction" : Str)) rfl), FunD.bindsN F fun _ _ _ _ _ _ us hl => match us, hl with | [_, _], _ => rfl⟩
theorem df_is_fraction {K : PySem.W.Frag} {h : Heap} {mg : Str → Option Value} (X : K.In h) (G : h.Ns mainGlobals mg) (c : He.SaysD faL fnL K) : ∃ fd, Df K mg ("is_fraction" : Str) (defBody (topS 23)) (defScope (topS 23)) [("value" : Str)] (He.ga K ("is_fraction" : Str)) fd := by
  obtain ⟨fd, F⟩ := c.def_ 4 (d := dTop ("is_fraction" : Str) 23) rfl
  exact ⟨fd, ⟨_, _, F⟩, He.glo_ok X G (c.fact 4 (f := .glo ("is_fraction" : Str)) rfl), FunD.bindsN F fun _ _ _ _ _ _ us hl => match us, hl with | [_], _ => rfl⟩
theorem df_plus {K : PySem.W.Frag} {h : Heap} {mg : Str → Option Value} (X : K.In h) (G : h.Ns mainGlobals mg) (c : He.SaysD faL fnL K) : ∃ fd, Df K mg ("plus" : Str) (defBody (topS 24)) (defScope (topS 24)) [("one" : Str), ("other" : Str)] (He.ga K ("plus" : Str)) fd := by
  obtain ⟨fd, F⟩ := c.def_ 5 (d := dTop ("plus" : Str) 24) rfl
  exact ⟨fd, ⟨_, _, F⟩, He.glo_ok X G (c.fact 5 (f := .glo ("plus" : Str)) rfl), FunD.bindsN F fun _ _ _ _ _ _ us hl => match us, hl with | [_, _], _ => rfl⟩
theorem df_times {K : PySem.W.Frag} {h : Heap} {mg : Str → Option Value} (X : K.In h) (G : h.Ns mainGlobals mg) (c : He.SaysD faL fnL K) : ∃ fd, Df K mg ("times" : Str) (defBody (topS 25)) (defScope (topS 25)) [("number" : Str), ("one" : Str)] (He.ga K ("times" : Str)) fd := by
  obtain ⟨fd, F⟩ := c.def_ 6 (d := dTop ("times" : Str) 25) rfl
  exact ⟨fd, ⟨_, _, F⟩, He.glo_ok X G (c.fact 6 (f := .glo ("times" : Str)) rfl), FunD.bindsN F fun _ _ _ _ _ _ us hl => match us, hl with | [_, _], _ => rfl⟩
theorem df_is_less {K : PySem.W.Frag} {h : Heap} {mg : Str → Option Value} (X : K.In h) (G : h.Ns mainGlobals mg) (c : He.SaysD faL fnL K) : ∃ fd, Df K mg ("is_less" : Str) (defBody (topS 26)) (defScope (topS 26)) [("one" : Str), ("other" : Str)] (He.ga K ("is_less" : Str)) fd := by
  obtain ⟨fd, F⟩ := c.def_ 7 (d := dTop ("is_less" : Str) 26) rfl
  exact ⟨fd, ⟨_, _, F⟩, He.glo_ok X G (c.fact 7 (f := .glo ("is_less" : Str)) rfl), FunD.bindsN F fun _ _ _ _ _ _ us hl => match us, hl with | [_, _], _ => rfl⟩
theorem df_check_costs {K : PySem.W.Frag} {h : Heap} {mg : Str → Option Value} (X : K.In h) (G : h.Ns mainGlobals mg) (c : He.SaysD faL fnL K) : ∃ fd, Df K mg ("check_costs" : Str) (defBody (topS 29)) (defScope (topS 29)) [("value" : Str)] (He.ga K ("check_costs" : Str)) fd := by
  obtain ⟨fd, F⟩ := c.def_ 8 (d := dTop ("check_costs" : Str) 29) rfl
  exact ⟨fd, ⟨_, _, F⟩, He.glo_ok X G (c.fact 8 (f := .glo ("check_costs" : Str)) rfl), FunD.bindsN F fun _ _ _ _ _ _ us hl => match us, hl with | [_], _ => rfl⟩
theorem df_is_rider {K : PySem.W.Frag} {h : Heap} {mg : Str → Option Value} (X : K.In h) (G : h.Ns mainGlobals mg) (c : He.SaysD faL fnL K) : ∃ fd, Df K mg ("is_rider" : Str) (defBody (topS 30)) (defScope (topS 30)) [("value" : Str), ("stretches" : Str)] (He.ga K ("is_rider" : Str)) fd := by
  obtain ⟨fd, F⟩ := c.def_ 9 (d := dTop ("is_rider" : Str) 30) rfl
  exact ⟨fd, ⟨_, _, F⟩, He.glo_ok X G (c.fact 9 (f := .glo ("is_rider" : Str)) rfl), FunD.bindsN F fun _ _ _ _ _ _ us hl => match us, hl with | [_, _], _ => rfl⟩
theorem df_check_riders {K : PySem.W.Frag} {h : Heap} {mg : Str → Option Value} (X : K.In h) (G : h.Ns mainGlobals mg) (c : He.SaysD faL fnL K) : ∃ fd, Df K mg ("check_riders" : Str) (defBody (topS 31)) (defScope (topS 31)) [("value" : Str), ("stretches" : Str)] (He.ga K ("check_riders" : Str)) fd := by
  obtain ⟨fd, F⟩ := c.def_ 10 (d := dTop ("check_riders" : Str) 31) rfl
  exact ⟨fd, ⟨_, _, F⟩, He.glo_ok X G (c.fact 10 (f := .glo ("check_riders" : Str)) rfl), FunD.bindsN F fun _ _ _ _ _ _ us hl => match us, hl with | [_, _], _ => rfl⟩
theorem df_aboard_at {K : PySem.W.Frag} {h : Heap} {mg : Str → Option Value} (X : K.In h) (G : h.Ns mainGlobals mg) (c : He.SaysD faL fnL K) : ∃ fd, Df K mg ("aboard_at" : Str) (defBody (topS 32)) (defScope (topS 32)) [("riders" : Str), ("stretch" : Str)] (He.ga K ("aboard_at" : Str)) fd := by
  obtain ⟨fd, F⟩ := c.def_ 11 (d := dTop ("aboard_at" : Str) 32) rfl
  exact ⟨fd, ⟨_, _, F⟩, He.glo_ok X G (c.fact 11 (f := .glo ("aboard_at" : Str)) rfl), FunD.bindsN F fun _ _ _ _ _ _ us hl => match us, hl with | [_, _], _ => rfl⟩
theorem df_place_of {K : PySem.W.Frag} {h : Heap} {mg : Str → Option Value} (X : K.In h) (G : h.Ns mainGlobals mg) (c : He.SaysD faL fnL K) : ∃ fd, Df K mg ("place_of" : Str) (defBody (topS 33)) (defScope (topS 33)) [("riders" : Str), ("order" : Str), ("place" : Str)] (He.ga K ("place_of" : Str)) fd := by
  obtain ⟨fd, F⟩ := c.def_ 12 (d := dTop ("place_of" : Str) 33) rfl
  exact ⟨fd, ⟨_, _, F⟩, He.glo_ok X G (c.fact 12 (f := .glo ("place_of" : Str)) rfl), FunD.bindsN F fun _ _ _ _ _ _ us hl => match us, hl with | [_, _, _], _ => rfl⟩
theorem df_ranked_at {K : PySem.W.Frag} {h : Heap} {mg : Str → Option Value} (X : K.In h) (G : h.Ns mainGlobals mg) (c : He.SaysD faL fnL K) : ∃ fd, Df K mg ("ranked_at" : Str) (defBody (topS 34)) (defScope (topS 34)) [("riders" : Str), ("order" : Str), ("stretch" : Str)] (He.ga K ("ranked_at" : Str)) fd := by
  obtain ⟨fd, F⟩ := c.def_ 13 (d := dTop ("ranked_at" : Str) 34) rfl
  exact ⟨fd, ⟨_, _, F⟩, He.glo_ok X G (c.fact 13 (f := .glo ("ranked_at" : Str)) rfl), FunD.bindsN F fun _ _ _ _ _ _ us hl => match us, hl with | [_, _, _], _ => rfl⟩
theorem df_is_crowded {K : PySem.W.Frag} {h : Heap} {mg : Str → Option Value} (X : K.In h) (G : h.Ns mainGlobals mg) (c : He.SaysD faL fnL K) : ∃ fd, Df K mg ("is_crowded" : Str) (defBody (topS 35)) (defScope (topS 35)) [("stretches" : Str), ("riders" : Str)] (He.ga K ("is_crowded" : Str)) fd := by
  obtain ⟨fd, F⟩ := c.def_ 14 (d := dTop ("is_crowded" : Str) 35) rfl
  exact ⟨fd, ⟨_, _, F⟩, He.glo_ok X G (c.fact 14 (f := .glo ("is_crowded" : Str)) rfl), FunD.bindsN F fun _ _ _ _ _ _ us hl => match us, hl with | [_, _], _ => rfl⟩
theorem df_check_stretch {K : PySem.W.Frag} {h : Heap} {mg : Str → Option Value} (X : K.In h) (G : h.Ns mainGlobals mg) (c : He.SaysD faL fnL K) : ∃ fd, Df K mg ("check_stretch" : Str) (defBody (topS 37)) (defScope (topS 37)) [("value" : Str), ("ride" : Str)] (He.ga K ("check_stretch" : Str)) fd := by
  obtain ⟨fd, F⟩ := c.def_ 15 (d := dTop ("check_stretch" : Str) 37) rfl
  exact ⟨fd, ⟨_, _, F⟩, He.glo_ok X G (c.fact 15 (f := .glo ("check_stretch" : Str)) rfl), FunD.bindsN F fun _ _ _ _ _ _ us hl => match us, hl with | [_, _], _ => rfl⟩
theorem df_places {K : PySem.W.Frag} {h : Heap} {mg : Str → Option Value} (X : K.In h) (G : h.Ns mainGlobals mg) (c : He.SaysD faL fnL K) : ∃ fd, Df K mg ("places" : Str) (defBody (topS 40)) (defScope (topS 40)) [] (He.ga K ("places" : Str)) fd := by
  obtain ⟨fd, F⟩ := c.def_ 16 (d := dTop ("places" : Str) 40) rfl
  exact ⟨fd, ⟨_, _, F⟩, He.glo_ok X G (c.fact 16 (f := .glo ("places" : Str)) rfl), FunD.bindsN F fun _ _ _ _ _ _ us hl => match us, hl with | [], _ => rfl⟩
theorem df_place_in_row {K : PySem.W.Frag} {h : Heap} {mg : Str → Option Value} (X : K.In h) (G : h.Ns mainGlobals mg) (c : He.SaysD faL fnL K) : ∃ fd, Df K mg ("place_in_row" : Str) (defBody (topS 41)) (defScope (topS 41)) [("count" : Str), ("rank" : Str)] (He.ga K ("place_in_row" : Str)) fd := by
  obtain ⟨fd, F⟩ := c.def_ 17 (d := dTop ("place_in_row" : Str) 41) rfl
  exact ⟨fd, ⟨_, _, F⟩, He.glo_ok X G (c.fact 17 (f := .glo ("place_in_row" : Str)) rfl), FunD.bindsN F fun _ _ _ _ _ _ us hl => match us, hl with | [_, _], _ => rfl⟩
theorem df_form_of {K : PySem.W.Frag} {h : Heap} {mg : Str → Option Value} (X : K.In h) (G : h.Ns mainGlobals mg) (c : He.SaysD faL fnL K) : ∃ fd, Df K mg ("form_of" : Str) (defBody (topS 42)) (defScope (topS 42)) [("number" : Str), ("parts" : Str)] (He.ga K ("form_of" : Str)) fd := by
  obtain ⟨fd, F⟩ := c.def_ 18 (d := dTop ("form_of" : Str) 42) rfl
  exact ⟨fd, ⟨_, _, F⟩, He.glo_ok X G (c.fact 18 (f := .glo ("form_of" : Str)) rfl), FunD.bindsN F fun _ _ _ _ _ _ us hl => match us, hl with | [_, _], _ => rfl⟩
theorem df_fare_form {K : PySem.W.Frag} {h : Heap} {mg : Str → Option Value} (X : K.In h) (G : h.Ns mainGlobals mg) (c : He.SaysD faL fnL K) : ∃ fd, Df K mg ("fare_form" : Str) (defBody (topS 43)) (defScope (topS 43)) [("ride" : Str), ("order" : Str), ("rider" : Str)] (He.ga K ("fare_form" : Str)) fd := by
  obtain ⟨fd, F⟩ := c.def_ 19 (d := dTop ("fare_form" : Str) 43) rfl
  exact ⟨fd, ⟨_, _, F⟩, He.glo_ok X G (c.fact 19 (f := .glo ("fare_form" : Str)) rfl), FunD.bindsN F fun _ _ _ _ _ _ us hl => match us, hl with | [_, _, _], _ => rfl⟩
theorem df_joined {K : PySem.W.Frag} {h : Heap} {mg : Str → Option Value} (X : K.In h) (G : h.Ns mainGlobals mg) (c : He.SaysD faL fnL K) : ∃ fd, Df K mg ("joined" : Str) (defBody (topS 44)) (defScope (topS 44)) [("one" : Str), ("factor" : Str), ("other" : Str), ("other_factor" : Str)] (He.ga K ("joined" : Str)) fd := by
  obtain ⟨fd, F⟩ := c.def_ 20 (d := dTop ("joined" : Str) 44) rfl
  exact ⟨fd, ⟨_, _, F⟩, He.glo_ok X G (c.fact 20 (f := .glo ("joined" : Str)) rfl), FunD.bindsN F fun _ _ _ _ _ _ us hl => match us, hl with | [_, _, _, _], _ => rfl⟩
theorem df_corners {K : PySem.W.Frag} {h : Heap} {mg : Str → Option Value} (X : K.In h) (G : h.Ns mainGlobals mg) (c : He.SaysD faL fnL K) : ∃ fd, Df K mg ("corners" : Str) (defBody (topS 45)) (defScope (topS 45)) [("form" : Str)] (He.ga K ("corners" : Str)) fd := by
  obtain ⟨fd, F⟩ := c.def_ 21 (d := dTop ("corners" : Str) 45) rfl
  exact ⟨fd, ⟨_, _, F⟩, He.glo_ok X G (c.fact 21 (f := .glo ("corners" : Str)) rfl), FunD.bindsN F fun _ _ _ _ _ _ us hl => match us, hl with | [_], _ => rfl⟩
theorem df_greatest_of {K : PySem.W.Frag} {h : Heap} {mg : Str → Option Value} (X : K.In h) (G : h.Ns mainGlobals mg) (c : He.SaysD faL fnL K) : ∃ fd, Df K mg ("greatest_of" : Str) (defBody (topS 46)) (defScope (topS 46)) [("form" : Str)] (He.ga K ("greatest_of" : Str)) fd := by
  obtain ⟨fd, F⟩ := c.def_ 22 (d := dTop ("greatest_of" : Str) 46) rfl
  exact ⟨fd, ⟨_, _, F⟩, He.glo_ok X G (c.fact 22 (f := .glo ("greatest_of" : Str)) rfl), FunD.bindsN F fun _ _ _ _ _ _ us hl => match us, hl with | [_], _ => rfl⟩
theorem df_is_row {K : PySem.W.Frag} {h : Heap} {mg : Str → Option Value} (X : K.In h) (G : h.Ns mainGlobals mg) (c : He.SaysD faL fnL K) : ∃ fd, Df K mg ("is_row" : Str) (defBody (topS 48)) (defScope (topS 48)) [("value" : Str), ("count" : Str)] (He.ga K ("is_row" : Str)) fd := by
  obtain ⟨fd, F⟩ := c.def_ 23 (d := dTop ("is_row" : Str) 48) rfl
  exact ⟨fd, ⟨_, _, F⟩, He.glo_ok X G (c.fact 23 (f := .glo ("is_row" : Str)) rfl), FunD.bindsN F fun _ _ _ _ _ _ us hl => match us, hl with | [_, _], _ => rfl⟩
theorem df_lasting_clauses {K : PySem.W.Frag} {h : Heap} {mg : Str → Option Value} (X : K.In h) (G : h.Ns mainGlobals mg) (c : He.SaysD faL fnL K) : ∃ fd, Df K mg ("lasting_clauses" : Str) (defBody (topS 49)) (defScope (topS 49)) [] (He.ga K ("lasting_clauses" : Str)) fd := by
  obtain ⟨fd, F⟩ := c.def_ 24 (d := dTop ("lasting_clauses" : Str) 49) rfl
  exact ⟨fd, ⟨_, _, F⟩, He.glo_ok X G (c.fact 24 (f := .glo ("lasting_clauses" : Str)) rfl), FunD.bindsN F fun _ _ _ _ _ _ us hl => match us, hl with | [], _ => rfl⟩
theorem df_halved_clauses {K : PySem.W.Frag} {h : Heap} {mg : Str → Option Value} (X : K.In h) (G : h.Ns mainGlobals mg) (c : He.SaysD faL fnL K) : ∃ fd, Df K mg ("halved_clauses" : Str) (defBody (topS 50)) (defScope (topS 50)) [] (He.ga K ("halved_clauses" : Str)) fd := by
  obtain ⟨fd, F⟩ := c.def_ 25 (d := dTop ("halved_clauses" : Str) 50) rfl
  exact ⟨fd, ⟨_, _, F⟩, He.glo_ok X G (c.fact 25 (f := .glo ("halved_clauses" : Str)) rfl), FunD.bindsN F fun _ _ _ _ _ _ us hl => match us, hl with | [], _ => rfl⟩
theorem df_is_clause {K : PySem.W.Frag} {h : Heap} {mg : Str → Option Value} (X : K.In h) (G : h.Ns mainGlobals mg) (c : He.SaysD faL fnL K) : ∃ fd, Df K mg ("is_clause" : Str) (defBody (topS 52)) (defScope (topS 52)) [("value" : Str)] (He.ga K ("is_clause" : Str)) fd := by
  obtain ⟨fd, F⟩ := c.def_ 26 (d := dTop ("is_clause" : Str) 52) rfl
  exact ⟨fd, ⟨_, _, F⟩, He.glo_ok X G (c.fact 26 (f := .glo ("is_clause" : Str)) rfl), FunD.bindsN F fun _ _ _ _ _ _ us hl => match us, hl with | [_], _ => rfl⟩
theorem df_is_custom {K : PySem.W.Frag} {h : Heap} {mg : Str → Option Value} (X : K.In h) (G : h.Ns mainGlobals mg) (c : He.SaysD faL fnL K) : ∃ fd, Df K mg ("is_custom" : Str) (defBody (topS 53)) (defScope (topS 53)) [("value" : Str)] (He.ga K ("is_custom" : Str)) fd := by
  obtain ⟨fd, F⟩ := c.def_ 27 (d := dTop ("is_custom" : Str) 53) rfl
  exact ⟨fd, ⟨_, _, F⟩, He.glo_ok X G (c.fact 27 (f := .glo ("is_custom" : Str)) rfl), FunD.bindsN F fun _ _ _ _ _ _ us hl => match us, hl with | [_], _ => rfl⟩
theorem df_clauses_of {K : PySem.W.Frag} {h : Heap} {mg : Str → Option Value} (X : K.In h) (G : h.Ns mainGlobals mg) (c : He.SaysD faL fnL K) : ∃ fd, Df K mg ("clauses_of" : Str) (defBody (topS 54)) (defScope (topS 54)) [("custom" : Str)] (He.ga K ("clauses_of" : Str)) fd := by
  obtain ⟨fd, F⟩ := c.def_ 28 (d := dTop ("clauses_of" : Str) 54) rfl
  exact ⟨fd, ⟨_, _, F⟩, He.glo_ok X G (c.fact 28 (f := .glo ("clauses_of" : Str)) rfl), FunD.bindsN F fun _ _ _ _ _ _ us hl => match us, hl with | [_], _ => rfl⟩
theorem df_clause_form {K : PySem.W.Frag} {h : Heap} {mg : Str → Option Value} (X : K.In h) (G : h.Ns mainGlobals mg) (c : He.SaysD faL fnL K) : ∃ fd, Df K mg ("clause_form" : Str) (defBody (topS 55)) (defScope (topS 55)) [("clause" : Str)] (He.ga K ("clause_form" : Str)) fd := by
  obtain ⟨fd, F⟩ := c.def_ 29 (d := dTop ("clause_form" : Str) 55) rfl
  exact ⟨fd, ⟨_, _, F⟩, He.glo_ok X G (c.fact 29 (f := .glo ("clause_form" : Str)) rfl), FunD.bindsN F fun _ _ _ _ _ _ us hl => match us, hl with | [_], _ => rfl⟩
theorem df_is_amounts {K : PySem.W.Frag} {h : Heap} {mg : Str → Option Value} (X : K.In h) (G : h.Ns mainGlobals mg) (c : He.SaysD faL fnL K) : ∃ fd, Df K mg ("is_amounts" : Str) (defBody (topS 56)) (defScope (topS 56)) [("value" : Str), ("count" : Str)] (He.ga K ("is_amounts" : Str)) fd := by
  obtain ⟨fd, F⟩ := c.def_ 30 (d := dTop ("is_amounts" : Str) 56) rfl
  exact ⟨fd, ⟨_, _, F⟩, He.glo_ok X G (c.fact 30 (f := .glo ("is_amounts" : Str)) rfl), FunD.bindsN F fun _ _ _ _ _ _ us hl => match us, hl with | [_, _], _ => rfl⟩
theorem df_is_receipt {K : PySem.W.Frag} {h : Heap} {mg : Str → Option Value} (X : K.In h) (G : h.Ns mainGlobals mg) (c : He.SaysD faL fnL K) : ∃ fd, Df K mg ("is_receipt" : Str) (defBody (topS 57)) (defScope (topS 57)) [("value" : Str)] (He.ga K ("is_receipt" : Str)) fd := by
  obtain ⟨fd, F⟩ := c.def_ 31 (d := dTop ("is_receipt" : Str) 57) rfl
  exact ⟨fd, ⟨_, _, F⟩, He.glo_ok X G (c.fact 31 (f := .glo ("is_receipt" : Str)) rfl), FunD.bindsN F fun _ _ _ _ _ _ us hl => match us, hl with | [_], _ => rfl⟩
theorem df_room_forms {K : PySem.W.Frag} {h : Heap} {mg : Str → Option Value} (X : K.In h) (G : h.Ns mainGlobals mg) (c : He.SaysD faL fnL K) : ∃ fd, Df K mg ("room_forms" : Str) (defBody (topS 58)) (defScope (topS 58)) [("custom" : Str), ("order" : Str), ("receipts" : Str)] (He.ga K ("room_forms" : Str)) fd := by
  obtain ⟨fd, F⟩ := c.def_ 32 (d := dTop ("room_forms" : Str) 58) rfl
  exact ⟨fd, ⟨_, _, F⟩, He.glo_ok X G (c.fact 32 (f := .glo ("room_forms" : Str)) rfl), FunD.bindsN F fun _ _ _ _ _ _ us hl => match us, hl with | [_, _, _], _ => rfl⟩
theorem df_worth {K : PySem.W.Frag} {h : Heap} {mg : Str → Option Value} (X : K.In h) (G : h.Ns mainGlobals mg) (c : He.SaysD faL fnL K) : ∃ fd, Df K mg ("worth" : Str) (defBody (topS 59)) (defScope (topS 59)) [("form" : Str), ("table" : Str)] (He.ga K ("worth" : Str)) fd := by
  obtain ⟨fd, F⟩ := c.def_ 33 (d := dTop ("worth" : Str) 59) rfl
  exact ⟨fd, ⟨_, _, F⟩, He.glo_ok X G (c.fact 33 (f := .glo ("worth" : Str)) rfl), FunD.bindsN F fun _ _ _ _ _ _ us hl => match us, hl with | [_, _], _ => rfl⟩
theorem df_keeps {K : PySem.W.Frag} {h : Heap} {mg : Str → Option Value} (X : K.In h) (G : h.Ns mainGlobals mg) (c : He.SaysD faL fnL K) : ∃ fd, Df K mg ("keeps" : Str) (defBody (topS 60)) (defScope (topS 60)) [("table" : Str), ("forms" : Str)] (He.ga K ("keeps" : Str)) fd := by
  obtain ⟨fd, F⟩ := c.def_ 34 (d := dTop ("keeps" : Str) 60) rfl
  exact ⟨fd, ⟨_, _, F⟩, He.glo_ok X G (c.fact 34 (f := .glo ("keeps" : Str)) rfl), FunD.bindsN F fun _ _ _ _ _ _ us hl => match us, hl with | [_, _], _ => rfl⟩
theorem df_ride_of {K : PySem.W.Frag} {h : Heap} {mg : Str → Option Value} (X : K.In h) (G : h.Ns mainGlobals mg) (c : He.SaysD faL fnL K) : ∃ fd, Df K mg ("ride_of" : Str) (defBody (topS 64)) (defScope (topS 64)) [("value" : Str)] (He.ga K ("ride_of" : Str)) fd := by
  obtain ⟨fd, F⟩ := c.def_ 35 (d := dTop ("ride_of" : Str) 64) rfl
  exact ⟨fd, ⟨_, _, F⟩, He.glo_ok X G (c.fact 35 (f := .glo ("ride_of" : Str)) rfl), FunD.bindsN F fun _ _ _ _ _ _ us hl => match us, hl with | [_], _ => rfl⟩
theorem df_receipts_of {K : PySem.W.Frag} {h : Heap} {mg : Str → Option Value} (X : K.In h) (G : h.Ns mainGlobals mg) (c : He.SaysD faL fnL K) : ∃ fd, Df K mg ("receipts_of" : Str) (defBody (topS 65)) (defScope (topS 65)) [("value" : Str)] (He.ga K ("receipts_of" : Str)) fd := by
  obtain ⟨fd, F⟩ := c.def_ 36 (d := dTop ("receipts_of" : Str) 65) rfl
  exact ⟨fd, ⟨_, _, F⟩, He.glo_ok X G (c.fact 36 (f := .glo ("receipts_of" : Str)) rfl), FunD.bindsN F fun _ _ _ _ _ _ us hl => match us, hl with | [_], _ => rfl⟩
theorem df_is_table {K : PySem.W.Frag} {h : Heap} {mg : Str → Option Value} (X : K.In h) (G : h.Ns mainGlobals mg) (c : He.SaysD faL fnL K) : ∃ fd, Df K mg ("is_table" : Str) (defBody (topS 66)) (defScope (topS 66)) [("value" : Str)] (He.ga K ("is_table" : Str)) fd := by
  obtain ⟨fd, F⟩ := c.def_ 37 (d := dTop ("is_table" : Str) 66) rfl
  exact ⟨fd, ⟨_, _, F⟩, He.glo_ok X G (c.fact 37 (f := .glo ("is_table" : Str)) rfl), FunD.bindsN F fun _ _ _ _ _ _ us hl => match us, hl with | [_], _ => rfl⟩
theorem df_fare_told {K : PySem.W.Frag} {h : Heap} {mg : Str → Option Value} (X : K.In h) (G : h.Ns mainGlobals mg) (c : He.SaysD faL fnL K) : ∃ fd, Df K mg ("fare_told" : Str) (defBody (topS 67)) (defScope (topS 67)) [("value" : Str), ("rider" : Str), ("order" : Str)] (He.ga K ("fare_told" : Str)) fd := by
  obtain ⟨fd, F⟩ := c.def_ 38 (d := dTop ("fare_told" : Str) 67) rfl
  exact ⟨fd, ⟨_, _, F⟩, He.glo_ok X G (c.fact 38 (f := .glo ("fare_told" : Str)) rfl), FunD.bindsN F fun _ _ _ _ _ _ us hl => match us, hl with | [_, _, _], _ => rfl⟩
theorem df_aim_of {K : PySem.W.Frag} {h : Heap} {mg : Str → Option Value} (X : K.In h) (G : h.Ns mainGlobals mg) (c : He.SaysD faL fnL K) : ∃ fd, Df K mg ("aim_of" : Str) (defBody (topS 68)) (defScope (topS 68)) [("claim" : Str)] (He.ga K ("aim_of" : Str)) fd := by
  obtain ⟨fd, F⟩ := c.def_ 39 (d := dTop ("aim_of" : Str) 68) rfl
  exact ⟨fd, ⟨_, _, F⟩, He.glo_ok X G (c.fact 39 (f := .glo ("aim_of" : Str)) rfl), FunD.bindsN F fun _ _ _ _ _ _ us hl => match us, hl with | [_], _ => rfl⟩
theorem df_by_table {K : PySem.W.Frag} {h : Heap} {mg : Str → Option Value} (X : K.In h) (G : h.Ns mainGlobals mg) (c : He.SaysD faL fnL K) : ∃ fd, Df K mg ("by_table" : Str) (defBody (topS 69)) (defScope (topS 69)) [("word" : Str), ("aim" : Str), ("rooms" : Str), ("paper" : Str)] (He.ga K ("by_table" : Str)) fd := by
  obtain ⟨fd, F⟩ := c.def_ 40 (d := dTop ("by_table" : Str) 69) rfl
  exact ⟨fd, ⟨_, _, F⟩, He.glo_ok X G (c.fact 40 (f := .glo ("by_table" : Str)) rfl), FunD.bindsN F fun _ _ _ _ _ _ us hl => match us, hl with | [_, _, _, _], _ => rfl⟩
theorem df_is_natural {K : PySem.W.Frag} {h : Heap} {mg : Str → Option Value} (X : K.In h) (G : h.Ns mainGlobals mg) (c : He.SaysD faL fnL K) : ∃ fd, Df K mg ("is_natural" : Str) (defBody (topS 70)) (defScope (topS 70)) [("value" : Str)] (He.ga K ("is_natural" : Str)) fd := by
  obtain ⟨fd, F⟩ := c.def_ 41 (d := dTop ("is_natural" : Str) 70) rfl
  exact ⟨fd, ⟨_, _, F⟩, He.glo_ok X G (c.fact 41 (f := .glo ("is_natural" : Str)) rfl), FunD.bindsN F fun _ _ _ _ _ _ us hl => match us, hl with | [_], _ => rfl⟩
theorem df_is_pair {K : PySem.W.Frag} {h : Heap} {mg : Str → Option Value} (X : K.In h) (G : h.Ns mainGlobals mg) (c : He.SaysD faL fnL K) : ∃ fd, Df K mg ("is_pair" : Str) (defBody (topS 71)) (defScope (topS 71)) [("paper" : Str), ("count" : Str)] (He.ga K ("is_pair" : Str)) fd := by
  obtain ⟨fd, F⟩ := c.def_ 42 (d := dTop ("is_pair" : Str) 71) rfl
  exact ⟨fd, ⟨_, _, F⟩, He.glo_ok X G (c.fact 42 (f := .glo ("is_pair" : Str)) rfl), FunD.bindsN F fun _ _ _ _ _ _ us hl => match us, hl with | [_, _], _ => rfl⟩
theorem df_by_numbers {K : PySem.W.Frag} {h : Heap} {mg : Str → Option Value} (X : K.In h) (G : h.Ns mainGlobals mg) (c : He.SaysD faL fnL K) : ∃ fd, Df K mg ("by_numbers" : Str) (defBody (topS 72)) (defScope (topS 72)) [("word" : Str), ("aim" : Str), ("scale" : Str), ("rooms" : Str), ("paper" : Str)] (He.ga K ("by_numbers" : Str)) fd := by
  obtain ⟨fd, F⟩ := c.def_ 43 (d := dTop ("by_numbers" : Str) 72) rfl
  exact ⟨fd, ⟨_, _, F⟩, He.glo_ok X G (c.fact 43 (f := .glo ("by_numbers" : Str)) rfl), FunD.bindsN F fun _ _ _ _ _ _ us hl => match us, hl with | [_, _, _, _, _], _ => rfl⟩
theorem df_holds {K : PySem.W.Frag} {h : Heap} {mg : Str → Option Value} (X : K.In h) (G : h.Ns mainGlobals mg) (c : He.SaysD faL fnL K) : ∃ fd, Df K mg ("holds" : Str) (defBody (topS 73)) (defScope (topS 73)) [("claim" : Str), ("paper" : Str)] (He.ga K ("holds" : Str)) fd := by
  obtain ⟨fd, F⟩ := c.def_ 44 (d := dTop ("holds" : Str) 73) rfl
  exact ⟨fd, ⟨_, _, F⟩, He.glo_ok X G (c.fact 44 (f := .glo ("holds" : Str)) rfl), FunD.bindsN F fun _ _ _ _ _ _ us hl => match us, hl with | [_, _], _ => rfl⟩
theorem df__law_from {K : PySem.W.Frag} {h : Heap} {mg : Str → Option Value} (X : K.In h) (G : h.Ns mainGlobals mg) (c : He.SaysD faL fnL K) : ∃ fd, Df K mg ("_law_from" : Str) (defBody (topS 75)) (defScope (topS 75)) [("_law_thing" : Str)] (He.ga K ("_law_from" : Str)) fd := by
  obtain ⟨fd, F⟩ := c.def_ 45 (d := dTop ("_law_from" : Str) 75) rfl
  exact ⟨fd, ⟨_, _, F⟩, He.glo_ok X G (c.fact 45 (f := .glo ("_law_from" : Str)) rfl), FunD.bindsN F fun _ _ _ _ _ _ us hl => match us, hl with | [_], _ => rfl⟩
theorem df__law_bag {K : PySem.W.Frag} {h : Heap} {mg : Str → Option Value} (X : K.In h) (G : h.Ns mainGlobals mg) (c : He.SaysD faL fnL K) : ∃ fd, Df K mg ("_law_bag" : Str) (defBody (topS 76)) (defScope (topS 76)) [("_law_script" : Str), ("_law_spot" : Str)] (He.ga K ("_law_bag" : Str)) fd := by
  obtain ⟨fd, F⟩ := c.def_ 46 (d := dTop ("_law_bag" : Str) 76) rfl
  exact ⟨fd, ⟨_, _, F⟩, He.glo_ok X G (c.fact 46 (f := .glo ("_law_bag" : Str)) rfl), FunD.bindsN F fun _ _ _ _ _ _ us hl => match us, hl with | [_, _], _ => rfl⟩
theorem df__law_take {K : PySem.W.Frag} {h : Heap} {mg : Str → Option Value} (X : K.In h) (G : h.Ns mainGlobals mg) (c : He.SaysD faL fnL K) : ∃ fd, Df K mg ("_law_take" : Str) (defBody (topS 77)) (defScope (topS 77)) [("_law_bag_here" : Str), ("_law_many" : Str)] (He.ga K ("_law_take" : Str)) fd := by
  obtain ⟨fd, F⟩ := c.def_ 47 (d := dTop ("_law_take" : Str) 77) rfl
  exact ⟨fd, ⟨_, _, F⟩, He.glo_ok X G (c.fact 47 (f := .glo ("_law_take" : Str)) rfl), FunD.bindsN F fun _ _ _ _ _ _ us hl => match us, hl with | [_, _], _ => rfl⟩
theorem df__law_of {K : PySem.W.Frag} {h : Heap} {mg : Str → Option Value} (X : K.In h) (G : h.Ns mainGlobals mg) (c : He.SaysD faL fnL K) : ∃ fd, Df K mg ("_law_of" : Str) (defBody (topS 78)) (defScope (topS 78)) [("_law_bag_here" : Str), ("_law_things" : Str)] (He.ga K ("_law_of" : Str)) fd := by
  obtain ⟨fd, F⟩ := c.def_ 48 (d := dTop ("_law_of" : Str) 78) rfl
  exact ⟨fd, ⟨_, _, F⟩, He.glo_ok X G (c.fact 48 (f := .glo ("_law_of" : Str)) rfl), FunD.bindsN F fun _ _ _ _ _ _ us hl => match us, hl with | [_, _], _ => rfl⟩
theorem df__law_whole {K : PySem.W.Frag} {h : Heap} {mg : Str → Option Value} (X : K.In h) (G : h.Ns mainGlobals mg) (c : He.SaysD faL fnL K) : ∃ fd, Df K mg ("_law_whole" : Str) (defBody (topS 79)) (defScope (topS 79)) [("_law_thing" : Str), ("_law_low" : Str), ("_law_high" : Str)] (He.ga K ("_law_whole" : Str)) fd := by
  obtain ⟨fd, F⟩ := c.def_ 49 (d := dTop ("_law_whole" : Str) 79) rfl
  exact ⟨fd, ⟨_, _, F⟩, He.glo_ok X G (c.fact 49 (f := .glo ("_law_whole" : Str)) rfl), FunD.bindsN F fun _ _ _ _ _ _ us hl => match us, hl with | [_, _, _], _ => rfl⟩
theorem df__law_less {K : PySem.W.Frag} {h : Heap} {mg : Str → Option Value} (X : K.In h) (G : h.Ns mainGlobals mg) (c : He.SaysD faL fnL K) : ∃ fd, Df K mg ("_law_less" : Str) (defBody (topS 80)) (defScope (topS 80)) [("_law_top_here" : Str), ("_law_bottom" : Str)] (He.ga K ("_law_less" : Str)) fd := by
  obtain ⟨fd, F⟩ := c.def_ 50 (d := dTop ("_law_less" : Str) 80) rfl
  exact ⟨fd, ⟨_, _, F⟩, He.glo_ok X G (c.fact 50 (f := .glo ("_law_less" : Str)) rfl), FunD.bindsN F fun _ _ _ _ _ _ us hl => match us, hl with | [_, _], _ => rfl⟩
theorem df__law_plus {K : PySem.W.Frag} {h : Heap} {mg : Str → Option Value} (X : K.In h) (G : h.Ns mainGlobals mg) (c : He.SaysD faL fnL K) : ∃ fd, Df K mg ("_law_plus" : Str) (defBody (topS 81)) (defScope (topS 81)) [("_law_one" : Str), ("_law_two" : Str)] (He.ga K ("_law_plus" : Str)) fd := by
  obtain ⟨fd, F⟩ := c.def_ 51 (d := dTop ("_law_plus" : Str) 81) rfl
  exact ⟨fd, ⟨_, _, F⟩, He.glo_ok X G (c.fact 51 (f := .glo ("_law_plus" : Str)) rfl), FunD.bindsN F fun _ _ _ _ _ _ us hl => match us, hl with | [_, _], _ => rfl⟩
theorem df__law_is_part {K : PySem.W.Frag} {h : Heap} {mg : Str → Option Value} (X : K.In h) (G : h.Ns mainGlobals mg) (c : He.SaysD faL fnL K) : ∃ fd, Df K mg ("_law_is_part" : Str) (defBody (topS 82)) (defScope (topS 82)) [("_law_thing" : Str)] (He.ga K ("_law_is_part" : Str)) fd := by
  obtain ⟨fd, F⟩ := c.def_ 52 (d := dTop ("_law_is_part" : Str) 82) rfl
  exact ⟨fd, ⟨_, _, F⟩, He.glo_ok X G (c.fact 52 (f := .glo ("_law_is_part" : Str)) rfl), FunD.bindsN F fun _ _ _ _ _ _ us hl => match us, hl with | [_], _ => rfl⟩
theorem df__law_is_sheet {K : PySem.W.Frag} {h : Heap} {mg : Str → Option Value} (X : K.In h) (G : h.Ns mainGlobals mg) (c : He.SaysD faL fnL K) : ∃ fd, Df K mg ("_law_is_sheet" : Str) (defBody (topS 83)) (defScope (topS 83)) [("_law_thing" : Str)] (He.ga K ("_law_is_sheet" : Str)) fd := by
  obtain ⟨fd, F⟩ := c.def_ 53 (d := dTop ("_law_is_sheet" : Str) 83) rfl
  exact ⟨fd, ⟨_, _, F⟩, He.glo_ok X G (c.fact 53 (f := .glo ("_law_is_sheet" : Str)) rfl), FunD.bindsN F fun _ _ _ _ _ _ us hl => match us, hl with | [_], _ => rfl⟩
theorem df__law_full {K : PySem.W.Frag} {h : Heap} {mg : Str → Option Value} (X : K.In h) (G : h.Ns mainGlobals mg) (c : He.SaysD faL fnL K) : ∃ fd, Df K mg ("_law_full" : Str) (defBody (topS 84)) (defScope (topS 84)) [("_law_riders_here" : Str), ("_law_many" : Str)] (He.ga K ("_law_full" : Str)) fd := by
  obtain ⟨fd, F⟩ := c.def_ 54 (d := dTop ("_law_full" : Str) 84) rfl
  exact ⟨fd, ⟨_, _, F⟩, He.glo_ok X G (c.fact 54 (f := .glo ("_law_full" : Str)) rfl), FunD.bindsN F fun _ _ _ _ _ _ us hl => match us, hl with | [_, _], _ => rfl⟩
theorem df__law_told {K : PySem.W.Frag} {h : Heap} {mg : Str → Option Value} (X : K.In h) (G : h.Ns mainGlobals mg) (c : He.SaysD faL fnL K) : ∃ fd, Df K mg ("_law_told" : Str) (defBody (topS 85)) (defScope (topS 85)) [("_law_bag_here" : Str)] (He.ga K ("_law_told" : Str)) fd := by
  obtain ⟨fd, F⟩ := c.def_ 55 (d := dTop ("_law_told" : Str) 85) rfl
  exact ⟨fd, ⟨_, _, F⟩, He.glo_ok X G (c.fact 55 (f := .glo ("_law_told" : Str)) rfl), FunD.bindsN F fun _ _ _ _ _ _ us hl => match us, hl with | [_], _ => rfl⟩
theorem df__law_ranked {K : PySem.W.Frag} {h : Heap} {mg : Str → Option Value} (X : K.In h) (G : h.Ns mainGlobals mg) (c : He.SaysD faL fnL K) : ∃ fd, Df K mg ("_law_ranked" : Str) (defBody (topS 86)) (defScope (topS 86)) [("_law_riders_here" : Str), ("_law_word" : Str), ("_law_t" : Str)] (He.ga K ("_law_ranked" : Str)) fd := by
  obtain ⟨fd, F⟩ := c.def_ 56 (d := dTop ("_law_ranked" : Str) 86) rfl
  exact ⟨fd, ⟨_, _, F⟩, He.glo_ok X G (c.fact 56 (f := .glo ("_law_ranked" : Str)) rfl), FunD.bindsN F fun _ _ _ _ _ _ us hl => match us, hl with | [_, _, _], _ => rfl⟩
theorem df__law_fare {K : PySem.W.Frag} {h : Heap} {mg : Str → Option Value} (X : K.In h) (G : h.Ns mainGlobals mg) (c : He.SaysD faL fnL K) : ∃ fd, Df K mg ("_law_fare" : Str) (defBody (topS 87)) (defScope (topS 87)) [("_law_told_here" : Str), ("_law_word" : Str), ("_law_k" : Str)] (He.ga K ("_law_fare" : Str)) fd := by
  obtain ⟨fd, F⟩ := c.def_ 57 (d := dTop ("_law_fare" : Str) 87) rfl
  exact ⟨fd, ⟨_, _, F⟩, He.glo_ok X G (c.fact 57 (f := .glo ("_law_fare" : Str)) rfl), FunD.bindsN F fun _ _ _ _ _ _ us hl => match us, hl with | [_, _, _], _ => rfl⟩
theorem df__law_mix {K : PySem.W.Frag} {h : Heap} {mg : Str → Option Value} (X : K.In h) (G : h.Ns mainGlobals mg) (c : He.SaysD faL fnL K) : ∃ fd, Df K mg ("_law_mix" : Str) (defBody (topS 88)) (defScope (topS 88)) [("_law_one" : Str), ("_law_by" : Str), ("_law_two" : Str), ("_law_more" : Str)] (He.ga K ("_law_mix" : Str)) fd := by
  obtain ⟨fd, F⟩ := c.def_ 58 (d := dTop ("_law_mix" : Str) 88) rfl
  exact ⟨fd, ⟨_, _, F⟩, He.glo_ok X G (c.fact 58 (f := .glo ("_law_mix" : Str)) rfl), FunD.bindsN F fun _ _ _ _ _ _ us hl => match us, hl with | [_, _, _, _], _ => rfl⟩
theorem df__law_at {K : PySem.W.Frag} {h : Heap} {mg : Str → Option Value} (X : K.In h) (G : h.Ns mainGlobals mg) (c : He.SaysD faL fnL K) : ∃ fd, Df K mg ("_law_at" : Str) (defBody (topS 89)) (defScope (topS 89)) [("_law_thing" : Str), ("_law_sheet" : Str)] (He.ga K ("_law_at" : Str)) fd := by
  obtain ⟨fd, F⟩ := c.def_ 59 (d := dTop ("_law_at" : Str) 89) rfl
  exact ⟨fd, ⟨_, _, F⟩, He.glo_ok X G (c.fact 59 (f := .glo ("_law_at" : Str)) rfl), FunD.bindsN F fun _ _ _ _ _ _ us hl => match us, hl with | [_, _], _ => rfl⟩
theorem df__law_top {K : PySem.W.Frag} {h : Heap} {mg : Str → Option Value} (X : K.In h) (G : h.Ns mainGlobals mg) (c : He.SaysD faL fnL K) : ∃ fd, Df K mg ("_law_top" : Str) (defBody (topS 90)) (defScope (topS 90)) [("_law_thing" : Str)] (He.ga K ("_law_top" : Str)) fd := by
  obtain ⟨fd, F⟩ := c.def_ 60 (d := dTop ("_law_top" : Str) 90) rfl
  exact ⟨fd, ⟨_, _, F⟩, He.glo_ok X G (c.fact 60 (f := .glo ("_law_top" : Str)) rfl), FunD.bindsN F fun _ _ _ _ _ _ us hl => match us, hl with | [_], _ => rfl⟩
theorem df__law_rules {K : PySem.W.Frag} {h : Heap} {mg : Str → Option Value} (X : K.In h) (G : h.Ns mainGlobals mg) (c : He.SaysD faL fnL K) : ∃ fd, Df K mg ("_law_rules" : Str) (defBody (topS 91)) (defScope (topS 91)) [("_law_word" : Str)] (He.ga K ("_law_rules" : Str)) fd := by
  obtain ⟨fd, F⟩ := c.def_ 61 (d := dTop ("_law_rules" : Str) 91) rfl
  exact ⟨fd, ⟨_, _, F⟩, He.glo_ok X G (c.fact 61 (f := .glo ("_law_rules" : Str)) rfl), FunD.bindsN F fun _ _ _ _ _ _ us hl => match us, hl with | [_], _ => rfl⟩
theorem df__law_rooms {K : PySem.W.Frag} {h : Heap} {mg : Str → Option Value} (X : K.In h) (G : h.Ns mainGlobals mg) (c : He.SaysD faL fnL K) : ∃ fd, Df K mg ("_law_rooms" : Str) (defBody (topS 92)) (defScope (topS 92)) [("_law_custom_here" : Str), ("_law_word" : Str), ("_law_slips" : Str)] (He.ga K ("_law_rooms" : Str)) fd := by
  obtain ⟨fd, F⟩ := c.def_ 62 (d := dTop ("_law_rooms" : Str) 92) rfl
  exact ⟨fd, ⟨_, _, F⟩, He.glo_ok X G (c.fact 62 (f := .glo ("_law_rooms" : Str)) rfl), FunD.bindsN F fun _ _ _ _ _ _ us hl => match us, hl with | [_, _, _], _ => rfl⟩
theorem df__law_keeps {K : PySem.W.Frag} {h : Heap} {mg : Str → Option Value} (X : K.In h) (G : h.Ns mainGlobals mg) (c : He.SaysD faL fnL K) : ∃ fd, Df K mg ("_law_keeps" : Str) (defBody (topS 93)) (defScope (topS 93)) [("_law_sheet" : Str), ("_law_rooms_here" : Str)] (He.ga K ("_law_keeps" : Str)) fd := by
  obtain ⟨fd, F⟩ := c.def_ 63 (d := dTop ("_law_keeps" : Str) 93) rfl
  exact ⟨fd, ⟨_, _, F⟩, He.glo_ok X G (c.fact 63 (f := .glo ("_law_keeps" : Str)) rfl), FunD.bindsN F fun _ _ _ _ _ _ us hl => match us, hl with | [_, _], _ => rfl⟩
theorem df__law_is_told {K : PySem.W.Frag} {h : Heap} {mg : Str → Option Value} (X : K.In h) (G : h.Ns mainGlobals mg) (c : He.SaysD faL fnL K) : ∃ fd, Df K mg ("_law_is_told" : Str) (defBody (topS 94)) (defScope (topS 94)) [("_law_thing" : Str)] (He.ga K ("_law_is_told" : Str)) fd := by
  obtain ⟨fd, F⟩ := c.def_ 64 (d := dTop ("_law_is_told" : Str) 94) rfl
  exact ⟨fd, ⟨_, _, F⟩, He.glo_ok X G (c.fact 64 (f := .glo ("_law_is_told" : Str)) rfl), FunD.bindsN F fun _ _ _ _ _ _ us hl => match us, hl with | [_], _ => rfl⟩
theorem df__law_is_custom {K : PySem.W.Frag} {h : Heap} {mg : Str → Option Value} (X : K.In h) (G : h.Ns mainGlobals mg) (c : He.SaysD faL fnL K) : ∃ fd, Df K mg ("_law_is_custom" : Str) (defBody (topS 95)) (defScope (topS 95)) [("_law_thing" : Str)] (He.ga K ("_law_is_custom" : Str)) fd := by
  obtain ⟨fd, F⟩ := c.def_ 65 (d := dTop ("_law_is_custom" : Str) 95) rfl
  exact ⟨fd, ⟨_, _, F⟩, He.glo_ok X G (c.fact 65 (f := .glo ("_law_is_custom" : Str)) rfl), FunD.bindsN F fun _ _ _ _ _ _ us hl => match us, hl with | [_], _ => rfl⟩
theorem df__law_are_slips {K : PySem.W.Frag} {h : Heap} {mg : Str → Option Value} (X : K.In h) (G : h.Ns mainGlobals mg) (c : He.SaysD faL fnL K) : ∃ fd, Df K mg ("_law_are_slips" : Str) (defBody (topS 96)) (defScope (topS 96)) [("_law_thing" : Str)] (He.ga K ("_law_are_slips" : Str)) fd := by
  obtain ⟨fd, F⟩ := c.def_ 66 (d := dTop ("_law_are_slips" : Str) 96) rfl
  exact ⟨fd, ⟨_, _, F⟩, He.glo_ok X G (c.fact 66 (f := .glo ("_law_are_slips" : Str)) rfl), FunD.bindsN F fun _ _ _ _ _ _ us hl => match us, hl with | [_], _ => rfl⟩
theorem df__law_excess {K : PySem.W.Frag} {h : Heap} {mg : Str → Option Value} (X : K.In h) (G : h.Ns mainGlobals mg) (c : He.SaysD faL fnL K) : ∃ fd, Df K mg ("_law_excess" : Str) (defBody (topS 97)) (defScope (topS 97)) [("_law_asked_here" : Str)] (He.ga K ("_law_excess" : Str)) fd := by
  obtain ⟨fd, F⟩ := c.def_ 67 (d := dTop ("_law_excess" : Str) 97) rfl
  exact ⟨fd, ⟨_, _, F⟩, He.glo_ok X G (c.fact 67 (f := .glo ("_law_excess" : Str)) rfl), FunD.bindsN F fun _ _ _ _ _ _ us hl => match us, hl with | [_], _ => rfl⟩
theorem df__law_by_sheet {K : PySem.W.Frag} {h : Heap} {mg : Str → Option Value} (X : K.In h) (G : h.Ns mainGlobals mg) (c : He.SaysD faL fnL K) : ∃ fd, Df K mg ("_law_by_sheet" : Str) (defBody (topS 98)) (defScope (topS 98)) [("_law_asked_here" : Str), ("_law_proof_here" : Str)] (He.ga K ("_law_by_sheet" : Str)) fd := by
  obtain ⟨fd, F⟩ := c.def_ 68 (d := dTop ("_law_by_sheet" : Str) 98) rfl
  exact ⟨fd, ⟨_, _, F⟩, He.glo_ok X G (c.fact 68 (f := .glo ("_law_by_sheet" : Str)) rfl), FunD.bindsN F fun _ _ _ _ _ _ us hl => match us, hl with | [_, _], _ => rfl⟩
theorem df__law_by_sum {K : PySem.W.Frag} {h : Heap} {mg : Str → Option Value} (X : K.In h) (G : h.Ns mainGlobals mg) (c : He.SaysD faL fnL K) : ∃ fd, Df K mg ("_law_by_sum" : Str) (defBody (topS 99)) (defScope (topS 99)) [("_law_asked_here" : Str), ("_law_proof_here" : Str)] (He.ga K ("_law_by_sum" : Str)) fd := by
  obtain ⟨fd, F⟩ := c.def_ 69 (d := dTop ("_law_by_sum" : Str) 99) rfl
  exact ⟨fd, ⟨_, _, F⟩, He.glo_ok X G (c.fact 69 (f := .glo ("_law_by_sum" : Str)) rfl), FunD.bindsN F fun _ _ _ _ _ _ us hl => match us, hl with | [_, _], _ => rfl⟩
theorem df__law_said {K : PySem.W.Frag} {h : Heap} {mg : Str → Option Value} (X : K.In h) (G : h.Ns mainGlobals mg) (c : He.SaysD faL fnL K) : ∃ fd, Df K mg ("_law_said" : Str) (defBody (topS 100)) (defScope (topS 100)) [("_law_asked_here" : Str), ("_law_proof_here" : Str), ("_law_due" : Str)] (He.ga K ("_law_said" : Str)) fd := by
  obtain ⟨fd, F⟩ := c.def_ 70 (d := dTop ("_law_said" : Str) 100) rfl
  exact ⟨fd, ⟨_, _, F⟩, He.glo_ok X G (c.fact 70 (f := .glo ("_law_said" : Str)) rfl), FunD.bindsN F fun _ _ _ _ _ _ us hl => match us, hl with | [_, _, _], _ => rfl⟩
theorem df__law_is_asked {K : PySem.W.Frag} {h : Heap} {mg : Str → Option Value} (X : K.In h) (G : h.Ns mainGlobals mg) (c : He.SaysD faL fnL K) : ∃ fd, Df K mg ("_law_is_asked" : Str) (defBody (topS 101)) (defScope (topS 101)) [("_law_asked_here" : Str)] (He.ga K ("_law_is_asked" : Str)) fd := by
  obtain ⟨fd, F⟩ := c.def_ 71 (d := dTop ("_law_is_asked" : Str) 101) rfl
  exact ⟨fd, ⟨_, _, F⟩, He.glo_ok X G (c.fact 71 (f := .glo ("_law_is_asked" : Str)) rfl), FunD.bindsN F fun _ _ _ _ _ _ us hl => match us, hl with | [_], _ => rfl⟩
theorem df__law_judge {K : PySem.W.Frag} {h : Heap} {mg : Str → Option Value} (X : K.In h) (G : h.Ns mainGlobals mg) (c : He.SaysD faL fnL K) : ∃ fd, Df K mg ("_law_judge" : Str) (defBody (topS 102)) (defScope (topS 102)) [("_law_asked_here" : Str), ("_law_proof_here" : Str)] (He.ga K ("_law_judge" : Str)) fd := by
  obtain ⟨fd, F⟩ := c.def_ 72 (d := dTop ("_law_judge" : Str) 102) rfl
  exact ⟨fd, ⟨_, _, F⟩, He.glo_ok X G (c.fact 72 (f := .glo ("_law_judge" : Str)) rfl), FunD.bindsN F fun _ _ _ _ _ _ us hl => match us, hl with | [_, _], _ => rfl⟩
theorem df__law_bent_told {K : PySem.W.Frag} {h : Heap} {mg : Str → Option Value} (X : K.In h) (G : h.Ns mainGlobals mg) (c : He.SaysD faL fnL K) : ∃ fd, Df K mg ("_law_bent_told" : Str) (defBody (topS 103)) (defScope (topS 103)) [("_law_bag_here" : Str), ("_law_told_here" : Str)] (He.ga K ("_law_bent_told" : Str)) fd := by
  obtain ⟨fd, F⟩ := c.def_ 73 (d := dTop ("_law_bent_told" : Str) 103) rfl
  exact ⟨fd, ⟨_, _, F⟩, He.glo_ok X G (c.fact 73 (f := .glo ("_law_bent_told" : Str)) rfl), FunD.bindsN F fun _ _ _ _ _ _ us hl => match us, hl with | [_, _], _ => rfl⟩
theorem df__law_bent_slips {K : PySem.W.Frag} {h : Heap} {mg : Str → Option Value} (X : K.In h) (G : h.Ns mainGlobals mg) (c : He.SaysD faL fnL K) : ∃ fd, Df K mg ("_law_bent_slips" : Str) (defBody (topS 104)) (defScope (topS 104)) [("_law_bag_here" : Str), ("_law_slips" : Str)] (He.ga K ("_law_bent_slips" : Str)) fd := by
  obtain ⟨fd, F⟩ := c.def_ 74 (d := dTop ("_law_bent_slips" : Str) 104) rfl
  exact ⟨fd, ⟨_, _, F⟩, He.glo_ok X G (c.fact 74 (f := .glo ("_law_bent_slips" : Str)) rfl), FunD.bindsN F fun _ _ _ _ _ _ us hl => match us, hl with | [_, _], _ => rfl⟩
theorem df__law_bent_custom {K : PySem.W.Frag} {h : Heap} {mg : Str → Option Value} (X : K.In h) (G : h.Ns mainGlobals mg) (c : He.SaysD faL fnL K) : ∃ fd, Df K mg ("_law_bent_custom" : Str) (defBody (topS 105)) (defScope (topS 105)) [("_law_bag_here" : Str)] (He.ga K ("_law_bent_custom" : Str)) fd := by
  obtain ⟨fd, F⟩ := c.def_ 75 (d := dTop ("_law_bent_custom" : Str) 105) rfl
  exact ⟨fd, ⟨_, _, F⟩, He.glo_ok X G (c.fact 75 (f := .glo ("_law_bent_custom" : Str)) rfl), FunD.bindsN F fun _ _ _ _ _ _ us hl => match us, hl with | [_], _ => rfl⟩
theorem df__law_asked {K : PySem.W.Frag} {h : Heap} {mg : Str → Option Value} (X : K.In h) (G : h.Ns mainGlobals mg) (c : He.SaysD faL fnL K) : ∃ fd, Df K mg ("_law_asked" : Str) (defBody (topS 106)) (defScope (topS 106)) [("_law_bag_here" : Str), ("_law_kind" : Str), ("_law_custom_here" : Str), ("_law_word" : Str), ("_law_slips" : Str), ("_law_told_here" : Str)] (He.ga K ("_law_asked" : Str)) fd := by
  obtain ⟨fd, F⟩ := c.def_ 76 (d := dTop ("_law_asked" : Str) 106) rfl
  exact ⟨fd, ⟨_, _, F⟩, He.glo_ok X G (c.fact 76 (f := .glo ("_law_asked" : Str)) rfl), FunD.bindsN F fun _ _ _ _ _ _ us hl => match us, hl with | [_, _, _, _, _, _], _ => rfl⟩
theorem df__law_right {K : PySem.W.Frag} {h : Heap} {mg : Str → Option Value} (X : K.In h) (G : h.Ns mainGlobals mg) (c : He.SaysD faL fnL K) : ∃ fd, Df K mg ("_law_right" : Str) (defBody (topS 107)) (defScope (topS 107)) [("_law_bag_here" : Str)] (He.ga K ("_law_right" : Str)) fd := by
  obtain ⟨fd, F⟩ := c.def_ 77 (d := dTop ("_law_right" : Str) 107) rfl
  exact ⟨fd, ⟨_, _, F⟩, He.glo_ok X G (c.fact 77 (f := .glo ("_law_right" : Str)) rfl), FunD.bindsN F fun _ _ _ _ _ _ us hl => match us, hl with | [_], _ => rfl⟩
theorem df_law {K : PySem.W.Frag} {h : Heap} {mg : Str → Option Value} (X : K.In h) (G : h.Ns mainGlobals mg) (c : He.SaysD faL fnL K) : ∃ fd, Df K mg ("law" : Str) (defBody (topS 108)) (defScope (topS 108)) [("_law_script" : Str)] (He.ga K ("law" : Str)) fd := by
  obtain ⟨fd, F⟩ := c.def_ 78 (d := dTop ("law" : Str) 108) rfl
  exact ⟨fd, ⟨_, _, F⟩, He.glo_ok X G (c.fact 78 (f := .glo ("law" : Str)) rfl), FunD.bindsN F fun _ _ _ _ _ _ us hl => match us, hl with | [_], _ => rfl⟩
theorem tab_all {K : PySem.W.Frag} {h : Heap} {mg : Str → Option Value} (X : K.In h) (G : h.Ns mainGlobals mg) (c : He.SaysD faL fnL K) : ∀ p ∈ tabL, TabOk gw K mg p.1 p.2 := by
  have nil : ∀ p ∈ ([] : List (Str × Fn)), TabOk gw K mg p.1 p.2 := fun p hp => by cases hp
  unfold tabL
  refine cons_all ?_ (cons_all ?_ (cons_all ?_ (cons_all ?_ (cons_all ?_ (cons_all ?_ (cons_all ?_ (cons_all ?_ (cons_all ?_ (cons_all ?_ (cons_all ?_ (cons_all ?_ (cons_all ?_ (cons_all ?_ (cons_all ?_ (cons_all ?_ (cons_all ?_ (cons_all ?_ (cons_all ?_ (cons_all ?_ (cons_all ?_ (cons_all ?_ (cons_all ?_ (cons_all ?_ (cons_all ?_ (cons_all ?_ (cons_all ?_ (cons_all ?_ (cons_all ?_ (cons_all ?_ (cons_all ?_ (cons_all ?_ (cons_all ?_ (cons_all ?_ (cons_all ?_ (cons_all ?_ (cons_all ?_ (cons_all ?_ (cons_all ?_ (cons_all ?_ (cons_all ?_ (cons_all ?_ (cons_all ?_ (cons_all ?_ (cons_all ?_ (cons_all ?_ (cons_all ?_ (cons_all ?_ (cons_all ?_ (cons_all ?_ (cons_all ?_ (cons_all ?_ (cons_all ?_ (cons_all ?_ (cons_all ?_ (cons_all ?_ (cons_all ?_ (cons_all ?_ (cons_all ?_ (cons_all ?_ (cons_all ?_ (cons_all ?_ (cons_all ?_ (cons_all ?_ (cons_all ?_ (cons_all ?_ (cons_all ?_ (cons_all ?_ nil)))))))))))))))))))))))))))))))))))))))))))))))))))))))))))))))))))
  · obtain ⟨fd, D⟩ := df_is_integer X G c
    exact ⟨⟨_, _, _, n_is_integer, [], _, fd, 60, D, sc_is_integer, by decide, ck_is_integer, rfl, rfl, rfl⟩⟩
  · obtain ⟨fd, D⟩ := df_is_between X G c
    exact ⟨⟨_, _, _, n_is_between, [], _, fd, 60, D, sc_is_between, by decide, ck_is_between, rfl, rfl, rfl⟩⟩
  · obtain ⟨fd, D⟩ := df_fraction X G c
    exact ⟨⟨_, _, _, n_fraction, [], _, fd, 60, D, sc_fraction, by decide, ck_fraction, rfl, rfl, rfl⟩⟩
  · obtain ⟨fd, D⟩ := df_is_fraction X G c
    exact ⟨⟨_, _, _, n_is_fraction, [], _, fd, 60, D, sc_is_fraction, by decide, ck_is_fraction, rfl, rfl, rfl⟩⟩
  · obtain ⟨fd, D⟩ := df_plus X G c
    exact ⟨⟨_, _, _, n_plus, [], _, fd, 60, D, sc_plus, by decide, ck_plus, rfl, rfl, rfl⟩⟩
  · obtain ⟨fd, D⟩ := df_times X G c
    exact ⟨⟨_, _, _, n_times, [], _, fd, 60, D, sc_times, by decide, ck_times, rfl, rfl, rfl⟩⟩
  · obtain ⟨fd, D⟩ := df_is_less X G c
    exact ⟨⟨_, _, _, n_is_less, [], _, fd, 60, D, sc_is_less, by decide, ck_is_less, rfl, rfl, rfl⟩⟩
  · obtain ⟨fd, D⟩ := df_is_rider X G c
    exact ⟨⟨_, _, _, n_is_rider, [], _, fd, 60, D, sc_is_rider, by decide, ck_is_rider, rfl, rfl, rfl⟩⟩
  · obtain ⟨fd, D⟩ := df_aboard_at X G c
    exact ⟨⟨_, _, _, n_aboard_at, [], _, fd, 60, D, sc_aboard_at, by decide, ck_aboard_at, rfl, rfl, rfl⟩⟩
  · obtain ⟨fd, D⟩ := df_place_of X G c
    exact ⟨⟨_, _, _, n_place_of, [], _, fd, 60, D, sc_place_of, by decide, ck_place_of, rfl, rfl, rfl⟩⟩
  · obtain ⟨fd, D⟩ := df_is_crowded X G c
    exact ⟨⟨_, _, _, n_is_crowded, [], _, fd, 60, D, sc_is_crowded, by decide, ck_is_crowded, rfl, rfl, rfl⟩⟩
  · obtain ⟨fd, D⟩ := df_places X G c
    exact ⟨⟨_, _, _, n_places, [], _, fd, 60, D, sc_places, by decide, ck_places, rfl, rfl, rfl⟩⟩
  · obtain ⟨fd, D⟩ := df_place_in_row X G c
    exact ⟨⟨_, _, _, n_place_in_row, [], _, fd, 60, D, sc_place_in_row, by decide, ck_place_in_row, rfl, rfl, rfl⟩⟩
  · obtain ⟨fd, D⟩ := df_form_of X G c
    exact ⟨⟨_, _, _, n_form_of, [2], _, fd, 60, D, sc_form_of, by decide, ck_form_of, rfl, rfl, rfl⟩⟩
  · obtain ⟨fd, D⟩ := df_fare_form X G c
    exact ⟨⟨_, _, _, n_fare_form, [3], _, fd, 60, D, sc_fare_form, by decide, ck_fare_form, rfl, rfl, rfl⟩⟩
  · obtain ⟨fd, D⟩ := df_joined X G c
    exact ⟨⟨_, _, _, n_joined, [], _, fd, 60, D, sc_joined, by decide, ck_joined, rfl, rfl, rfl⟩⟩
  · obtain ⟨fd, D⟩ := df_corners X G c
    exact ⟨⟨_, _, _, n_corners, [1], _, fd, 60, D, sc_corners, by decide, ck_corners, rfl, rfl, rfl⟩⟩
  · obtain ⟨fd, D⟩ := df_greatest_of X G c
    exact ⟨⟨_, _, _, n_greatest_of, [], _, fd, 60, D, sc_greatest_of, by decide, ck_greatest_of, rfl, rfl, rfl⟩⟩
  · obtain ⟨fd, D⟩ := df_is_row X G c
    exact ⟨⟨_, _, _, n_is_row, [], _, fd, 60, D, sc_is_row, by decide, ck_is_row, rfl, rfl, rfl⟩⟩
  · obtain ⟨fd, D⟩ := df_lasting_clauses X G c
    exact ⟨⟨_, _, _, n_lasting_clauses, [0], _, fd, 60, D, sc_lasting_clauses, by decide, ck_lasting_clauses, rfl, rfl, rfl⟩⟩
  · obtain ⟨fd, D⟩ := df_halved_clauses X G c
    exact ⟨⟨_, _, _, n_halved_clauses, [0], _, fd, 60, D, sc_halved_clauses, by decide, ck_halved_clauses, rfl, rfl, rfl⟩⟩
  · obtain ⟨fd, D⟩ := df_is_clause X G c
    exact ⟨⟨_, _, _, n_is_clause, [], _, fd, 60, D, sc_is_clause, by decide, ck_is_clause, rfl, rfl, rfl⟩⟩
  · obtain ⟨fd, D⟩ := df_is_custom X G c
    exact ⟨⟨_, _, _, n_is_custom, [], _, fd, 60, D, sc_is_custom, by decide, ck_is_custom, rfl, rfl, rfl⟩⟩
  · obtain ⟨fd, D⟩ := df_clauses_of X G c
    exact ⟨⟨_, _, _, n_clauses_of, [], _, fd, 60, D, sc_clauses_of, by decide, ck_clauses_of, rfl, rfl, rfl⟩⟩
  · obtain ⟨fd, D⟩ := df_clause_form X G c
    exact ⟨⟨_, _, _, n_clause_form, [], _, fd, 60, D, sc_clause_form, by decide, ck_clause_form, rfl, rfl, rfl⟩⟩
  · obtain ⟨fd, D⟩ := df_is_amounts X G c
    exact ⟨⟨_, _, _, n_is_amounts, [], _, fd, 60, D, sc_is_amounts, by decide, ck_is_amounts, rfl, rfl, rfl⟩⟩
  · obtain ⟨fd, D⟩ := df_is_receipt X G c
    exact ⟨⟨_, _, _, n_is_receipt, [], _, fd, 60, D, sc_is_receipt, by decide, ck_is_receipt, rfl, rfl, rfl⟩⟩
  · obtain ⟨fd, D⟩ := df_room_forms X G c
    exact ⟨⟨_, _, _, n_room_forms, [3], _, fd, 60, D, sc_room_forms, by decide, ck_room_forms, rfl, rfl, rfl⟩⟩
  · obtain ⟨fd, D⟩ := df_worth X G c
    exact ⟨⟨_, _, _, n_worth, [], _, fd, 60, D, sc_worth, by decide, ck_worth, rfl, rfl, rfl⟩⟩
  · obtain ⟨fd, D⟩ := df_keeps X G c
    exact ⟨⟨_, _, _, n_keeps, [], _, fd, 60, D, sc_keeps, by decide, ck_keeps, rfl, rfl, rfl⟩⟩
  · obtain ⟨fd, D⟩ := df_receipts_of X G c
    exact ⟨⟨_, _, _, n_receipts_of, [1], _, fd, 60, D, sc_receipts_of, by decide, ck_receipts_of, rfl, rfl, rfl⟩⟩
  · obtain ⟨fd, D⟩ := df_is_table X G c
    exact ⟨⟨_, _, _, n_is_table, [], _, fd, 60, D, sc_is_table, by decide, ck_is_table, rfl, rfl, rfl⟩⟩
  · obtain ⟨fd, D⟩ := df_fare_told X G c
    exact ⟨⟨_, _, _, n_fare_told, [], _, fd, 60, D, sc_fare_told, by decide, ck_fare_told, rfl, rfl, rfl⟩⟩
  · obtain ⟨fd, D⟩ := df_aim_of X G c
    exact ⟨⟨_, _, _, n_aim_of, [], _, fd, 60, D, sc_aim_of, by decide, ck_aim_of, rfl, rfl, rfl⟩⟩
  · obtain ⟨fd, D⟩ := df_by_table X G c
    exact ⟨⟨_, _, _, n_by_table, [], _, fd, 60, D, sc_by_table, by decide, ck_by_table, rfl, rfl, rfl⟩⟩
  · obtain ⟨fd, D⟩ := df_is_natural X G c
    exact ⟨⟨_, _, _, n_is_natural, [], _, fd, 60, D, sc_is_natural, by decide, ck_is_natural, rfl, rfl, rfl⟩⟩
  · obtain ⟨fd, D⟩ := df_is_pair X G c
    exact ⟨⟨_, _, _, n_is_pair, [], _, fd, 60, D, sc_is_pair, by decide, ck_is_pair, rfl, rfl, rfl⟩⟩
  · obtain ⟨fd, D⟩ := df_by_numbers X G c
    exact ⟨⟨_, _, _, n_by_numbers, [], _, fd, 60, D, sc_by_numbers, by decide, ck_by_numbers, rfl, rfl, rfl⟩⟩
  · obtain ⟨fd, D⟩ := df_holds X G c
    exact ⟨⟨_, _, _, n_holds, [], _, fd, 60, D, sc_holds, by decide, ck_holds, rfl, rfl, rfl⟩⟩
  · obtain ⟨fd, D⟩ := df__law_from X G c
    exact ⟨⟨_, _, _, n__law_from, [], _, fd, 60, D, sc__law_from, by decide, ck__law_from, rfl, rfl, rfl⟩⟩
  · obtain ⟨fd, D⟩ := df__law_of X G c
    exact ⟨⟨_, _, _, n__law_of, [], _, fd, 60, D, sc__law_of, by decide, ck__law_of, rfl, rfl, rfl⟩⟩
  · obtain ⟨fd, D⟩ := df__law_whole X G c
    exact ⟨⟨_, _, _, n__law_whole, [], _, fd, 60, D, sc__law_whole, by decide, ck__law_whole, rfl, rfl, rfl⟩⟩
  · obtain ⟨fd, D⟩ := df__law_plus X G c
    exact ⟨⟨_, _, _, n__law_plus, [], _, fd, 60, D, sc__law_plus, by decide, ck__law_plus, rfl, rfl, rfl⟩⟩
  · obtain ⟨fd, D⟩ := df__law_is_part X G c
    exact ⟨⟨_, _, _, n__law_is_part, [], _, fd, 60, D, sc__law_is_part, by decide, ck__law_is_part, rfl, rfl, rfl⟩⟩
  · obtain ⟨fd, D⟩ := df__law_is_sheet X G c
    exact ⟨⟨_, _, _, n__law_is_sheet, [], _, fd, 60, D, sc__law_is_sheet, by decide, ck__law_is_sheet, rfl, rfl, rfl⟩⟩
  · obtain ⟨fd, D⟩ := df__law_full X G c
    exact ⟨⟨_, _, _, n__law_full, [], _, fd, 60, D, sc__law_full, by decide, ck__law_full, rfl, rfl, rfl⟩⟩
  · obtain ⟨fd, D⟩ := df__law_told X G c
    exact ⟨⟨_, _, _, n__law_told, [3], _, fd, 60, D, sc__law_told, by decide, ck__law_told, rfl, rfl, rfl⟩⟩
  · obtain ⟨fd, D⟩ := df__law_ranked X G c
    exact ⟨⟨_, _, _, n__law_ranked, [3], _, fd, 60, D, sc__law_ranked, by decide, ck__law_ranked, rfl, rfl, rfl⟩⟩
  · obtain ⟨fd, D⟩ := df__law_fare X G c
    exact ⟨⟨_, _, _, n__law_fare, [3], _, fd, 60, D, sc__law_fare, by decide, ck__law_fare, rfl, rfl, rfl⟩⟩
  · obtain ⟨fd, D⟩ := df__law_mix X G c
    exact ⟨⟨_, _, _, n__law_mix, [], _, fd, 60, D, sc__law_mix, by decide, ck__law_mix, rfl, rfl, rfl⟩⟩
  · obtain ⟨fd, D⟩ := df__law_at X G c
    exact ⟨⟨_, _, _, n__law_at, [], _, fd, 60, D, sc__law_at, by decide, ck__law_at, rfl, rfl, rfl⟩⟩
  · obtain ⟨fd, D⟩ := df__law_top X G c
    exact ⟨⟨_, _, _, n__law_top, [], _, fd, 60, D, sc__law_top, by decide, ck__law_top, rfl, rfl, rfl⟩⟩
  · obtain ⟨fd, D⟩ := df__law_rules X G c
    exact ⟨⟨_, _, _, n__law_rules, [], _, fd, 60, D, sc__law_rules, by decide, ck__law_rules, rfl, rfl, rfl⟩⟩
  · obtain ⟨fd, D⟩ := df__law_rooms X G c
    exact ⟨⟨_, _, _, n__law_rooms, [3, 10], _, fd, 60, D, sc__law_rooms, by decide, ck__law_rooms, rfl, rfl, rfl⟩⟩
  · obtain ⟨fd, D⟩ := df__law_keeps X G c
    exact ⟨⟨_, _, _, n__law_keeps, [], _, fd, 60, D, sc__law_keeps, by decide, ck__law_keeps, rfl, rfl, rfl⟩⟩
  · obtain ⟨fd, D⟩ := df__law_is_told X G c
    exact ⟨⟨_, _, _, n__law_is_told, [], _, fd, 60, D, sc__law_is_told, by decide, ck__law_is_told, rfl, rfl, rfl⟩⟩
  · obtain ⟨fd, D⟩ := df__law_is_custom X G c
    exact ⟨⟨_, _, _, n__law_is_custom, [], _, fd, 60, D, sc__law_is_custom, by decide, ck__law_is_custom, rfl, rfl, rfl⟩⟩
  · obtain ⟨fd, D⟩ := df__law_are_slips X G c
    exact ⟨⟨_, _, _, n__law_are_slips, [], _, fd, 60, D, sc__law_are_slips, by decide, ck__law_are_slips, rfl, rfl, rfl⟩⟩
  · obtain ⟨fd, D⟩ := df__law_excess X G c
    exact ⟨⟨_, _, _, n__law_excess, [], _, fd, 60, D, sc__law_excess, by decide, ck__law_excess, rfl, rfl, rfl⟩⟩
  · obtain ⟨fd, D⟩ := df__law_by_sheet X G c
    exact ⟨⟨_, _, _, n__law_by_sheet, [], _, fd, 60, D, sc__law_by_sheet, by decide, ck__law_by_sheet, rfl, rfl, rfl⟩⟩
  · obtain ⟨fd, D⟩ := df__law_by_sum X G c
    exact ⟨⟨_, _, _, n__law_by_sum, [], _, fd, 60, D, sc__law_by_sum, by decide, ck__law_by_sum, rfl, rfl, rfl⟩⟩
  · obtain ⟨fd, D⟩ := df__law_is_asked X G c
    exact ⟨⟨_, _, _, n__law_is_asked, [], _, fd, 60, D, sc__law_is_asked, by decide, ck__law_is_asked, rfl, rfl, rfl⟩⟩
  · obtain ⟨fd, D⟩ := df__law_judge X G c
    exact ⟨⟨_, _, _, n__law_judge, [], _, fd, 60, D, sc__law_judge, by decide, ck__law_judge, rfl, rfl, rfl⟩⟩
  · obtain ⟨fd, D⟩ := df__law_bent_told X G c
    exact ⟨⟨_, _, _, n__law_bent_told, [], _, fd, 60, D, sc__law_bent_told, by decide, ck__law_bent_told, rfl, rfl, rfl⟩⟩
  · obtain ⟨fd, D⟩ := df__law_bent_slips X G c
    exact ⟨⟨_, _, _, n__law_bent_slips, [], _, fd, 60, D, sc__law_bent_slips, by decide, ck__law_bent_slips, rfl, rfl, rfl⟩⟩
  · obtain ⟨fd, D⟩ := df__law_bent_custom X G c
    exact ⟨⟨_, _, _, n__law_bent_custom, [], _, fd, 60, D, sc__law_bent_custom, by decide, ck__law_bent_custom, rfl, rfl, rfl⟩⟩
  · obtain ⟨fd, D⟩ := df__law_asked X G c
    exact ⟨⟨_, _, _, n__law_asked, [], _, fd, 60, D, sc__law_asked, by decide, ck__law_asked, rfl, rfl, rfl⟩⟩
  · obtain ⟨fd, D⟩ := df__law_right X G c
    exact ⟨⟨_, _, _, n__law_right, [], _, fd, 60, D, sc__law_right, by decide, ck__law_right, rfl, rfl, rfl⟩⟩
end Cab
set_option Elab.async false
set_option linter.all false
set_option maxRecDepth 100000
set_option maxHeartbeats 0
/-! From the head's Bools: an own exception's class. -/
namespace Cab
open PySem L2 PySem.Spec PyProof.Rows
theorem oex_base {K : PySem.W.Frag} {x : Str} {tail : List Value} {newId : String} (h : oexB K x tail newId = true) :
    (∃ nm q N bs bm sn sub ab col dd k0 k1 k2 k3 k5, K.lookup (He.ga K x) = some (excClassObj nm q (He.ga K x) N bs bm true sn sub ab col dd k0 k1 k2 k3 k5 newId) ∧ refsOf tail bm = true) ∧
      PySem.W.findIn K (.ref (He.ga K x)) "__setattr__" = some (some (.builtin "object.__setattr__")) ∧ PySem.W.findIn K (.ref (He.ga K x)) "__init__" = some (some (.ref (He.ma K (He.ga K x) "__init__"))) ∧
      PySem.W.typeIn K (.ref (He.ma K (He.ga K x) "__init__")) = some (.type "function") ∧ PySem.W.subIn K (.ref (He.ga K x)) (.type "BaseException") = some true ∧ PySem.W.typeIn K (.ref (He.ga K x)) = some (.type "type") := by
  unfold oexB at h
  simp only [Bool.and_eq_true, decide_eq_true_eq] at h
  obtain ⟨⟨⟨⟨⟨h1, h2⟩, h3⟩, h4⟩, h5⟩, h6⟩ := h
  refine ⟨?_, He.eqO_ok h2, He.eqO_ok h3, h4, h5, h6⟩
  split at h1
  · rename_i dd cd sl ho
    split at h1
    · rename_i C' bm k0 k1 k2 k3 n k5 hm hs
      simp only [Bool.and_eq_true, beq_iff_eq, Bool.not_eq_true'] at h1
      obtain ⟨⟨⟨⟨e1, e2⟩, hdel⟩, hd⟩, ht⟩ := h1
      subst e1 e2
      obtain ⟨nm, bs, mro, ns, qn, hd', sn, sub, ab, col, del⟩ := cd
      dsimp only at hm hdel hd
      subst hm hdel hd
      have hsl : sl = #[k0, k1, k2, k3, some (.builtin n), k5] := by
        obtain ⟨l⟩ := sl
        simp only at hs
        rw [hs]
      subst hsl
      exact ⟨nm, qn, ns, bs, bm, sn, sub, ab, col, dd, k0, k1, k2, k3, k5, ho, ht⟩
    · cases h1
  · cases h1
theorem ownX_of {K : PySem.W.Frag} {mg : Str → Option Value} {x f qual : Str} {B newId initId : String} {tail : List Value} {params : Arguments} {body : List Stmt} {scope : Scope} {fd : FuncData} {q1 q2 q3 q4 : Pos} (h : oexB K x tail newId = true) (FB : ExcBaseFacts B newId initId tail) (TO : TailOk tail)
    (gC : mg x = some (.ref (He.ga K x))) (kC : PySem.W.keepIn K (.ref (He.ga K x)) = true) (noN : NoAttr K (He.ga K x) f) (F : FunD K "__init__" qual params body scope [] [] (He.ma K (He.ga K x) "__init__") fd) (eb : body = iB f q1 q2 q3 q4) (es : scope = iS f)
    (hb : ∀ (kV doc pm : Value) (an : Option Addr) (cdv ct u v : Value), bindArgs (PySem.W.fnOf "__init__" qual params (iB f q1 q2 q3 q4) (iS f) .none kV doc pm an cdv ct) ⟨[u, v], []⟩ = pure [(("self" : Str), u), (f, v)]) (fs : (f == ("self" : Str)) = false ∧ (f == ("__debug__" : Str)) = false) :
    OwnX K mg x f (He.ga K x) (He.ma K (He.ga K x) "__init__") := by
  obtain ⟨h1, h2, h3, h4, h5, h6⟩ := oex_base h
  obtain ⟨oc, od, dV, kV, doc, pm, an, cdv, ct, osl, e, lk, hcd, dd, _⟩ := F.ex
  subst eb es e
  have ed : dV = .none := by
    rcases dd with ⟨_, e⟩ | ⟨e, _⟩
    · exact e
    · exact absurd rfl e
  subst ed
  exact ⟨gC, ⟨B, newId, initId, tail, FB, TO, h1⟩, h2, noN, h3, h4, kC, h5, h6, ⟨qual, kV, oc, od, doc, pm, an, cdv, ct, osl, params, q1, q2, q3, q4, lk, hcd, fun u v => hb _ _ _ _ _ _ u v⟩, fs⟩
end Cab
set_option Elab.async false
set_option linter.all false
set_option maxRecDepth 100000
set_option maxHeartbeats 0
/-! The world's facts, as the head leaves them. -/
namespace Cab
open PySem L2 PySem.Spec PyProof.Rows
theorem look_mem {α : Type} {x : Str} {v : α} : ∀ {l : List (Str × α)}, l.lookup x = some v → (x, v) ∈ l := fun h => PySem.mem_of_lookup h
theorem lkD_mem {z : Str} {i : Int} {l : List (Str × Int)} (h : lkD l z = some i) : (z, i) ∈ l := look_mem h
theorem dic_none {K : PySem.W.Frag} {p : Params} {a : Addr} {ks : List Str} {z : Str} (h : He.dicW K a = some (He.keysIn p ks)) (hz : z ∉ ks) : PySem.W.nsIn K a z = some none := by
  unfold He.dicW at h
  split at h
  · rename_i c es n sl e
    split at h
    · have h := Option.some.inj h
      have key : ∀ x ∈ es.toList, ∃ y t, x.key = .str y t ∧ y ∈ ks := fun x hx => by
        have hm : He.keyOf x ∈ He.keysIn p ks := by rw [← h]; exact List.mem_map.mpr ⟨x, hx, rfl⟩
        obtain ⟨y, hy, ey⟩ := List.mem_map.mp hm
        unfold He.keyOf at ey
        split at ey
        · rename_i u t q
          have q2 := Option.some.inj ey
          obtain ⟨q3, _⟩ := Prod.mk.inj q2
          exact ⟨u, t, q, by rw [← q3]; exact hy⟩
        · cases ey
      unfold PySem.W.nsIn
      rw [e]
      have f1 : es.toList.find? (fun x => x.key.isStr z) = none := List.find?_eq_none.mpr fun x hx q => by
        obtain ⟨y, t, ek, hy⟩ := key x hx
        rw [ek] at q
        have q : (y == z) = true := q
        exact hz (by rw [← eq_of_beq q]; exact hy)
      have f2 : es.toList.any (fun x => x.refKey) = false := List.any_eq_false.mpr fun x hx q => by
        obtain ⟨y, t, ek, hy⟩ := key x hx
        unfold DictEntry.refKey at q
        rw [ek] at q
        cases q
      dsimp only
      rw [f1]
      dsimp only
      rw [f2]
      rfl
    · cases h
  · cases h
section
variable {K : PySem.W.Frag} {h base : Heap} {mg : Str → Option Value} {w : World} {P : Program}
theorem ex_all (c : He.SaysX faL fnL tsL tfL exL w h K) : oexB K "InvalidCosts" vTail "ValueError.__new__" = true ∧ oexB K "InvalidRiders" vTail "ValueError.__new__" = true ∧ oexB K "TooMany" aTail "ArithmeticError.__new__" = true ∧
    He.tupB K "ORDERS" (g_ORDERS.map .str) = true ∧ He.tupB K "WORDS" (g_WORDS.map .str) = true ∧ He.tupB K "BY_TABLE" (g_BY_TABLE.map .str) = true ∧ He.valsB K (He.ga K "LENGTHS") (g_LENGTHS.map fun p => (p.1, .int p.2)) = true ∧
    PySem.W.findIn K (.ref (He.ga K "Ride")) "__class__" = some (some (.builtin "object.__class__")) ∧ PySem.W.specialIn K (.builtin "object.__class__") "__get__" = some (some (.builtin "getset_descriptor.__get__")) ∧
    PySem.W.takesIn K (.builtin "object.__class__") = some true ∧ PySem.W.mroIn K (He.ga K "Ride") (.type "object") = some true ∧ PySem.W.kitOne K (.ref (He.ga K "Ride")) (.ref (He.ga K "Ride")) = some true ∧
    PySem.W.kitOne K (.type "NoneType") (.ref (He.ga K "Ride")) = some false ∧ (∀ x ∈ (["InvalidCosts", "InvalidRiders", "TooMany"] : List String), PySem.W.exmAny K (.ref (He.ga K x)) [.ref (He.ga K "InvalidCosts"), .ref (He.ga K "InvalidRiders"), .ref (He.ga K "TooMany")] = some true) := by
  have e := c.more
  unfold exL at e
  simp only [Bool.and_eq_true, decide_eq_true_eq, List.all_eq_true] at e
  obtain ⟨⟨⟨⟨⟨⟨⟨⟨⟨⟨⟨⟨⟨e1, e2⟩, e3⟩, e4⟩, e5⟩, e6⟩, e7⟩, e8⟩, e9⟩, e10⟩, e11⟩, e12⟩, e13⟩, e14⟩ := e
  exact ⟨e1, e2, e3, e4, e5, e6, e7, He.eqO_ok e8, He.eqO_ok e9, e10, e11, e12, e13, e14⟩
theorem wb_of (X : K.In h) (G : h.Ns mainGlobals mg) (c : He.SaysX faL fnL tsL tfL exL w h K) (Fl : ∃ fd, Binds K fd ["self"] [] ∧ FnOk P w K mg base CX0 1 (He.ma K (He.ga K "Ride") "__len__") fd ["self"] (fun vs H Q _ => ∃ a dx vc vr vt xs, vs = [V.ref a] ∧ H a = some (.ins (He.ga K "Ride") dx [(("costs" : Str), vc), (("riders" : Str), .ref vr), (("told" : Str), vt)]) ∧ SqT K H vr xs ∧ Q (.int xs.length) H)) :
    WB gw (He.ga K "Ride") P w K mg base 1 := by
  obtain ⟨e1, e2, e3, e4, e5, e6, e7, e8, e9, e10, e11, e12, e13, e14⟩ := ex_all c
  have cd := c.t.d
  have fa : ∀ f ∈ faL, f.ok K = true := fun f hf => cd.facts hf
  have mg1 : ∀ x, x ∈ gloN → mg x = some (.ref (He.ga K x)) := fun x hx => He.glo_ok X G (fa _ (List.mem_append_left _ (List.mem_append_left _ (List.mem_append_left _ (List.mem_map.mpr ⟨x, hx, rfl⟩)))))
  have mg2 : ∀ x, x ∈ freeN → mg x = none := fun x hx => He.free_ok X G (fa _ (List.mem_append_left _ (List.mem_append_left _ (List.mem_append_right _ (List.mem_map.mpr ⟨x, hx, rfl⟩)))))
  have mg3 : ∀ q, q ∈ globL → ∃ t, mg q.1 = some (.int q.2 t) := fun q hq => He.int_ok X G (fa _ (List.mem_append_left _ (List.mem_append_right _ (List.mem_map.mpr ⟨q, hq, rfl⟩))))
  have fz : ∀ f, f ∈ [He.Fa.cls "Ride", .noat "Ride" "costs", .noat "Ride" "riders", .noat "Ride" "told", .meth "Ride" "__len__", .mkr "Ride", .keep "InvalidCosts", .keep "InvalidRiders", .keep "TooMany", .noat "InvalidCosts" "index", .noat "InvalidRiders" "index", .noat "TooMany" "limit"] → f.ok K = true := fun f hf => fa _ (List.mem_append_right _ hf)
  refine {
    glob := fun x i e => ?_
    gdic := fun x kvs e => ?_
    gtup := fun x ws e => ?_
    gdb1 := fun x i e => ?_
    gdb2 := fun x i e => ?_
    gdb3 := fun x i e => ?_
    fdb := fun f m e => ?_
    blt := fun x hx => ?_
    rcls := mg1 _ (by decide +kernel)
    cls := He.cls_ok (fz (.cls "Ride") (by simp))
    fc := He.noat_ok (fz (.noat "Ride" "costs") (by simp))
    fr := He.noat_ok (fz (.noat "Ride" "riders") (by simp))
    ia := e8
    ib := e9
    ic := e10
    id := e11
    irr := e12
    inr := e13
    len := ?_ }
  · exact mg3 (x, i) (look_mem e)
  · have e' := look_mem e
    have e' : (x, kvs) = (("LENGTHS" : Str), g_LENGTHS) := List.mem_singleton.mp e'
    obtain ⟨rfl, rfl⟩ := Prod.mk.inj e'
    obtain ⟨es, n, kd⟩ := c.t.tab 0 (t := ((fun K => He.ga K "LENGTHS"), g_LENGTHS.map (·.1))) rfl
    refine ⟨_, es, n, mg1 _ (by decide +kernel), kd, fun z => ⟨fun i hi => ?_, fun hn => ?_⟩⟩
    · have hm : (z, i) ∈ g_LENGTHS := lkD_mem hi
      obtain ⟨u, hu, ru⟩ := He.valsB_ok e7 (q := (z, .int i)) (List.mem_map.mpr ⟨(z, i), hm, rfl⟩)
      obtain ⟨t, e⟩ := (show ∃ t, u = Value.int i t from ru)
      subst e
      exact ⟨t, hu⟩
    · have e : [He.dicW K (He.ga K "LENGTHS")] = [some (He.keysIn w.params (g_LENGTHS.map (·.1)))] := congrArg (fun z : He.AlT => z.2) c.t
      refine dic_none (List.cons.inj e).1 fun hz => ?_
      obtain ⟨q, hq, eq⟩ := List.mem_map.mp hz
      have hn : List.lookup z g_LENGTHS = none := hn
      rw [List.lookup_eq_none_iff] at hn
      have := hn q hq
      simp [eq] at this
  · have e' := look_mem e
    have hm : (x, ws) = (("ORDERS" : Str), g_ORDERS) ∨ (x, ws) = (("WORDS" : Str), g_WORDS) ∨ (x, ws) = (("BY_TABLE" : Str), g_BY_TABLE) := by
      have e' : (x, ws) ∈ [(("ORDERS" : Str), g_ORDERS), (("WORDS" : Str), g_WORDS), (("BY_TABLE" : Str), g_BY_TABLE)] := e'
      simpa using e'
    have tp : ∀ (y : Str) (l : List Str), He.tupB K y (l.map .str) = true → ∀ H, SqT K H (He.ga K y) (l.map V.str) := fun y l hl H => by
      have q := He.tupB_ok hl H
      rw [List.map_map] at q
      exact q
    rcases hm with hm | hm | hm <;> obtain ⟨rfl, rfl⟩ := Prod.mk.inj hm
    · exact ⟨_, mg1 _ (by decide +kernel), tp _ _ e4⟩
    · exact ⟨_, mg1 _ (by decide +kernel), tp _ _ e5⟩
    · exact ⟨_, mg1 _ (by decide +kernel), tp _ _ e6⟩
  · exact (by decide +kernel : ∀ p ∈ globL, (p.1 == ("__debug__" : Str)) = false) _ (look_mem e)
  · exact (by decide +kernel : ∀ p ∈ gdicL, (p.1 == ("__debug__" : Str)) = false) _ (look_mem e)
  · exact (by decide +kernel : ∀ p ∈ gtupL, (p.1 == ("__debug__" : Str)) = false) _ (look_mem e)
  · exact (by decide +kernel : ∀ p ∈ fnsL, (p.1 == ("__debug__" : Str)) = false) _ (look_mem e)
  · exact mg2 x ((by decide +kernel : ∀ x ∈ blts, x ∈ freeN) x hx)
  · obtain ⟨fd, b, F⟩ := Fl
    have m := He.meth_ok (fz (.meth "Ride" "__len__") (by simp))
    exact ⟨_, fd, m.1, m.2, b, F⟩
end
end Cab
set_option Elab.async false
set_option linter.all false
set_option maxRecDepth 100000
set_option maxHeartbeats 4000000
/-! The defs by hand: the two loops of the greatest divisor, the bag's draw. -/
namespace Cab
open PySem L2 LamX Evl CabR PyProof.Rows PySem.Spec

def pCommon : List D → Bg → Option (D × Bg)
  | [.int a, .int b], B => some (.int (Int.gcd a b : Nat), B)
  | _, _ => none
def pLess : List D → Bg → Option (D × Bg)
  | [.int t, .int b], B => if 0 < b ∧ (Int.gcd t b : Int) < 1073741824 then some (.tup [.int (t / (Int.gcd t b : Nat)), .int (b / (Int.gcd t b : Nat))], B) else none
  | _, _ => none
def seedN (B : Bg) : Int := (B.1 * 39373 + B.1 / 4093 * (B.1 / 4093) + 92821 * (B.2.2 + 1) + 5) % 2147483587
def pTake : List D → Bg → Option (D × Bg)
  | [.bag, .int n], B => if 0 < n ∧ n < 1073741824 ∧ smallM (B.1 / 4093) = true then
      (if B.2.1 > 0 then some (.int (B.2.1 % n), (seedN B, B.2.1 / n, B.2.2 + 1)) else some (.int (seedN B / 512 % n), (seedN B, B.2.1, B.2.2 + 1))) else none
  | _, _ => none
def nCommon : List Str := ["one", "other", "high", "low"]
def nLess : List Str := ["_law_top_here", "_law_bottom", "_law_high", "_law_low"]
def nTake : List Str := ["_law_bag_here", "_law_many", "_law_seed", "_law_high", "_law_digit"]
theorem scCommon : FnScope nCommon ["one", "other"] (defScope (topS 21)) := ⟨rfl, rfl, rfl, by decide +kernel, rfl, by decide +kernel, by decide +kernel⟩
theorem scLess : FnScope nLess ["_law_top_here", "_law_bottom"] (defScope (topS 80)) := ⟨rfl, rfl, rfl, by decide +kernel, rfl, by decide +kernel, by decide +kernel⟩
theorem scTake : FnScope nTake ["_law_bag_here", "_law_many"] (defScope (topS 77)) := ⟨rfl, rfl, rfl, by decide +kernel, rfl, by decide +kernel, by decide +kernel⟩

section
variable {P : Program} {w : World} {K : PySem.W.Frag} {mg : Str → Option Value} {base : Heap} {CR : Addr} {T : List (Addr × Str)} {f : Addr} {fd : FuncData}
theorem gcd_loop {x y : Int} (h0 : 0 ≤ x) (h : 0 < y) : Int.gcd y (x % y) = Int.gcd x y := by
  obtain ⟨m, rfl⟩ := Int.eq_ofNat_of_zero_le h0
  obtain ⟨n, rfl⟩ := Int.eq_ofNat_of_zero_le (Int.le_of_lt h)
  have e : ((m : Int) % (n : Int)) = ((m % n : Nat) : Int) := rfl
  rw [e]
  show Nat.gcd n (m % n) = Nat.gcd m n
  rw [Nat.gcd_comm n (m % n), Nat.gcd_comm m n, Nat.gcd_rec n m]
theorem ifT {c : Bool} {p q : Prop} (e : c = true) (h : p) : if c = true then p else q := by rw [if_pos e]; exact h
theorem ifF {c : Bool} {p q : Prop} (e : c = false) (h : q) : if c = true then p else q := by rw [e]; exact itF h
theorem ok_common (F : ∃ qual params, FunD K "common" qual params (defBody (topS 21)) (defScope (topS 21)) [] [] f fd) (gA : mg "abs" = none) : PrimOk gu P w K mg base CR T 1 pCommon 2 f fd ["one", "other"] := by
  obtain ⟨qual, params, F⟩ := F
  refine FnG.of (F.ok (k := 0) scCommon (fun vs H Q E ⟨b, S, B, ds, d, B', hl, bs, rv, hp, _⟩ => by rw [← Reps.length rv, hl]; rfl) fun cdv A outer s H vs Q E hr ⟨b, S, B, ds, d, B', hl, bs, rv, hp, q⟩ => ?_)
  refine ⟨_, PSs.nox (pss_cons (ps_par rfl scCommon.nd (i := 2) (j := 3) rfl rfl (by decide) rfl rfl (pa_cons (pe_callB call_abs rfl gA boot_abs (pa_cons (pv 0) pa_nil)) (pa_cons (pe_callB call_abs rfl gA boot_abs (pa_cons (pv 1) pa_nil)) pa_nil)) (by rfl))
    (pss_cons (ps_while PassesOwn.never (pt_cmpR op_gt (pv 3) pe_int (nomark _)) (pss_one (ps_par rfl scCommon.nd (i := 2) (j := 3) rfl rfl (by decide) rfl rfl (pa_cons (pv 3) (pa_cons (pe_op op_mod (pv 2) (pv 3)) pa_nil)) (by rfl))))
    (pss_one (ps_ret (pv 2))))), ?_⟩
  match ds, hp, rv with
  | [.int a, .int c], hp, rv =>
    cases hp
    obtain ⟨v1, v2, rfl, r1, r2⟩ := two_rep rv
    cases r1
    cases r2
    refine ⟨_, rfl, a, rfl, _, rfl, c, rfl, _, _, rfl, ?_⟩
    refine while_by (fun σ H' => H' = H ∧ ∃ x y : Int, σ = [some (.int a), some (.int c), some (.int x), some (.int y)] ∧ 0 ≤ x ∧ 0 ≤ y ∧ Int.gcd x y = Int.gcd a c) (fun σ _ => match σ with
      | [_, _, _, some (.int y)] => y.toNat
      | _ => 0) ⟨rfl, _, _, rfl, by split <;> omega, by split <;> omega, ?_⟩ ?_ ?_
    · split <;> split <;> simp [Int.gcd, Int.natAbs_neg]
    · rintro σ H' ⟨rfl, x, y, rfl, hx, hy, hg⟩
      refine ⟨_, rfl, _, _, rfl, rfl, _, rfl, ?_⟩
      by_cases hpos : 0 < y
      · refine ifT (decide_eq_true hpos) ?_
        have hm := Int.emod_nonneg x (show y ≠ 0 by omega)
        have hm2 := Int.emod_lt_of_pos x hpos
        refine ⟨_, rfl, _, rfl, _, rfl, _, _, rfl, rfl, hpos, _, _, rfl, ⟨rfl, _, _, rfl, hy, hm, ?_⟩, ?_⟩
        · rw [gcd_loop hx hpos, hg]
        · show (x % y).toNat < y.toNat
          omega
      · refine ifF (decide_eq_false hpos) ?_
        have e : y = 0 := by omega
        subst e
        refine ⟨_, rfl, ?_⟩
        have e2 : x = (Int.gcd a c : Nat) := by
          rw [← hg]
          simp [Int.gcd]
          omega
        rw [e2]
        exact q _ S _ (Gr.refl b S _) bs rfl
    · rintro σ H' Q1 Q2 hq ⟨v, h1, i, j, h2, h3, k, h4, h5⟩
      exact ⟨v, h1, i, j, h2, h3, k, h4, hq _ _ h5⟩
theorem gcd_end {x : Int} {a c : Int} (hx : 0 ≤ x) (hg : Int.gcd x 0 = Int.gcd a c) : x = (Int.gcd a c : Nat) := by
  rw [← hg]
  simp [Int.gcd]
  omega
theorem ok_less (F : ∃ qual params, FunD K "_law_less" qual params (defBody (topS 80)) (defScope (topS 80)) [] [] f fd) (gA : mg "abs" = none) (gI : mg "int" = none) : PrimOk gu P w K mg base CR T 1 pLess 2 f fd ["_law_top_here", "_law_bottom"] := by
  obtain ⟨qual, params, F⟩ := F
  refine FnG.of (F.ok (k := 0) scLess (fun vs H Q E ⟨b, S, B, ds, d, B', hl, bs, rv, hp, _⟩ => by rw [← Reps.length rv, hl]; rfl) fun cdv A outer s H vs Q E hr ⟨b, S, B, ds, d, B', hl, bs, rv, hp, q⟩ => ?_)
  refine ⟨_, PSs.nox (pss_cons (ps_par rfl scLess.nd (i := 2) (j := 3) rfl rfl (by decide) rfl rfl (pa_cons (pe_callB call_abs rfl gA boot_abs (pa_cons (pv 0) pa_nil)) (pa_cons (pv 1) pa_nil)) (by rfl))
    (pss_cons (ps_while PassesOwn.never (pt_cmpR op_gt (pv 3) pe_int (nomark _)) (pss_one (ps_par rfl scLess.nd (i := 2) (j := 3) rfl rfl (by decide) rfl rfl (pa_cons (pv 3) (pa_cons (pe_op op_mod (pe_callTy call_int1 rfl gI (by decide +kernel) (pa_cons (pv 2) pa_nil)) (pv 3)) pa_nil)) (by rfl))))
    (pss_one (ps_ret (pe_tup (pa_cons (pe_op op_fdiv (pv 0) (pv 2)) (pa_cons (pe_op op_fdiv (pv 1) (pv 2)) pa_nil))))))), ?_⟩
  match ds, hp, rv with
  | [.int a, .int c], hp, rv =>
    have hp : (if 0 < c ∧ (Int.gcd a c : Int) < 1073741824 then some (D.tup [.int (a / (Int.gcd a c : Nat)), .int (c / (Int.gcd a c : Nat))], B) else none) = some (d, B') := hp
    by_cases hcond : 0 < c ∧ (Int.gcd a c : Int) < 1073741824
    case neg =>
      rw [if_neg hcond] at hp
      cases hp
    rw [if_pos hcond] at hp
    cases hp
    obtain ⟨v1, v2, rfl, r1, r2⟩ := two_rep rv
    cases r1
    cases r2
    have gpos : 0 < (Int.gcd a c : Int) := by
      have := Int.gcd_pos_of_ne_zero_right a (show c ≠ 0 by omega)
      omega
    refine ⟨_, rfl, a, rfl, _, rfl, _, _, rfl, ?_⟩
    refine while_by (fun σ H' => H' = H ∧ ∃ x y : Int, σ = [some (.int a), some (.int c), some (.int x), some (.int y)] ∧ 0 ≤ x ∧ 0 ≤ y ∧ Int.gcd x y = Int.gcd a c) (fun σ _ => match σ with
      | [_, _, _, some (.int y)] => y.toNat
      | _ => 0) ⟨rfl, _, _, rfl, by split <;> omega, by omega, ?_⟩ ?_ ?_
    · split <;> simp [Int.gcd, Int.natAbs_neg]
    · rintro σ H' ⟨rfl, x, y, rfl, hx, hy, hg⟩
      refine ⟨_, rfl, _, _, rfl, rfl, _, rfl, ?_⟩
      by_cases hpos : 0 < y
      · refine ifT (decide_eq_true hpos) ?_
        have hm := Int.emod_nonneg x (show y ≠ 0 by omega)
        have hm2 := Int.emod_lt_of_pos x hpos
        refine ⟨_, rfl, _, rfl, .inl ⟨_, rfl, _, rfl, _, _, rfl, rfl, hpos, _, _, rfl, ⟨rfl, _, _, rfl, hy, hm, ?_⟩, ?_⟩⟩
        · rw [gcd_loop hx hpos, hg]
        · show (x % y).toNat < y.toNat
          omega
      · refine ifF (decide_eq_false hpos) ?_
        have e : y = 0 := by omega
        subst e
        have e2 := gcd_end hx hg
        subst e2
        refine ⟨_, rfl, _, rfl, _, _, rfl, rfl, ⟨gpos, hcond.2⟩, _, rfl, _, rfl, _, _, rfl, rfl, ⟨gpos, hcond.2⟩, by show 2 ≤ sizeLine; rw [sizeLine_eq]; decide, ?_⟩
        exact Wn.tup (xs := [.int _, .int _]) q bs ⟨_, _, rfl, rfl, _, _, rfl, rfl, rfl⟩
    · rintro σ H' Q1 Q2 hq ⟨v, h1, i, j, h2, h3, k, h4, h5⟩
      exact ⟨v, h1, i, j, h2, h3, k, h4, hq _ _ h5⟩
theorem Bas.bagW {b : Addr} {S H : Hp} {B B' : Bg} (bs : Bas T b S H B) : Bas T b S (upd H b (bagO B')) B' where
  sub := fun a o e => by
    have n : a ≠ b := fun z => by rw [z, bs.bS] at e; cases e
    rw [upd_ne n]
    exact bs.sub a o e
  bS := bs.bS
  bag := upd_same ..
  tabs := fun q hq => by
    obtain ⟨ps, h1, h2, h3⟩ := bs.tabs q hq
    have hb := bs.bag
    refine ⟨ps, by rw [upd_ne (fun z => by rw [z, hb] at h1; cases h1)]; exact h1, h2, fun pos cv hc => ?_⟩
    obtain ⟨c, e1, e2⟩ := h3 pos cv hc
    refine ⟨c, e1, ?_⟩
    have n : c ≠ b := fun z => by
      rw [z, hb] at e2
      have e3 := Option.some.inj e2
      unfold CodeO bagO at e3
      cases e3
    rw [upd_ne n]
    exact e2
  noT := bs.noT
theorem Gr.bagW {b : Addr} {S H : Hp} {B B' : Bg} (bs : Bas T b S H B) : Gr b S H S (upd H b (bagO B')) where
  s := Ex.refl S
  h := fun a o e n _ => by rw [upd_ne n]; exact e
  per := fun a h => by
    by_cases e : a = b
    · rw [e, upd_same]; simp
    · rw [upd_ne e]; exact h
  hid := fun a _ n => n
theorem ok_take (F : ∃ qual params, FunD K "_law_take" qual params (defBody (topS 77)) (defScope (topS 77)) [] [] f fd) (gI : mg "int" = none) (gD : mg "divmod" = none) : PrimOk gu P w K mg base CR T 1 pTake 2 f fd ["_law_bag_here", "_law_many"] := by
  obtain ⟨qual, params, F⟩ := F
  refine FnG.of (F.ok (k := 0) scTake (fun vs H Q E ⟨b, S, B, ds, d, B', hl, bs, rv, hp, _⟩ => by rw [← Reps.length rv, hl]; rfl) fun cdv A outer s H vs Q E hr ⟨b, S, B, ds, d, B', hl, bs, rv, hp, q⟩ => ?_)
  have gi : ∀ {X : Cx} {x : Str} {p pos : Pos} {e : Expr} {t : TE}, Gl X "int" → X.mg "int" = none → PE X e t → isStar e = false → PE X (.Call (.Name "int" p) [e] [] pos) _ := fun {X x p pos e t} h1 h2 h3 h4 => pe_callTy call_int1 h1 h2 (by decide +kernel) (pa_cons h3 pa_nil (star1 h4)) (by decide) (by decide) (star1 h4) rfl
  refine ⟨_, PSs.nox (pss_cons (ps_asg (pe_op op_add (pe_ix ix_list (pv 0) pe_int (fun _ _ => rfl)) pe_int) (pg_sub (pv 0) pe_int set_list))
    (pss_cons (ps_set (i := 2) scTake.nd rfl (.inl rfl) (pe_callTy call_int1 rfl gI (by decide +kernel) (pa_cons (pe_ix ix_list (pv 0) pe_int (fun _ _ => rfl)) pa_nil)))
    (pss_cons (ps_set (i := 3) scTake.nd rfl (.inl rfl) (pe_op op_fdiv (pv 2) pe_int))
    (pss_cons (ps_asg (pe_op op_mod (pe_callTy call_int1 rfl gI (by decide +kernel) (pa_cons (pe_op op_add (pe_op op_add (pe_op op_add (pe_op op_mul (pv 2) pe_int) (pe_op op_mul (pv 3) (pv 3))) (pe_op op_mul pe_int (pe_ix ix_list (pv 0) pe_int (fun _ _ => rfl)))) pe_int) pa_nil)) pe_int) (pg_sub (pv 0) pe_int set_list))
    (pss_cons (ps_if (pt_cmpR op_gt (pe_ix ix_list (pv 0) pe_int (fun _ _ => rfl)) pe_int (nomark _))
      (pss_cons (ps_asg (pe_callB call_divmod rfl gD (by decide +kernel) (pa_cons (pe_ix ix_list (pv 0) pe_int (fun _ _ => rfl)) (pa_cons (pv 1) pa_nil))) (pg_tup rfl (pgs_cons (pg_sub (pv 0) pe_int set_list) (pgs_cons (pg_name (i := 4) scTake.nd rfl (.inl rfl)) pgs_nil))))
        (pss_one (ps_ret (pv 4)))) pss_nil)
    (pss_one (ps_ret (pe_op op_mod (pe_callTy call_int1 rfl gI (by decide +kernel) (pa_cons (pe_op op_fdiv (pe_ix ix_list (pv 0) pe_int (fun _ _ => rfl)) pe_int) pa_nil)) (pv 1))))))))), ?_⟩
  match ds, hp, rv with
  | [.bag, .int n], hp, rv =>
    have hp : (if 0 < n ∧ n < 1073741824 ∧ smallM (B.1 / 4093) = true then
      (if B.2.1 > 0 then some (D.int (B.2.1 % n), (seedN B, B.2.1 / n, B.2.2 + 1)) else some (.int (seedN B / 512 % n), (seedN B, B.2.1, B.2.2 + 1))) else none) = some (d, B') := hp
    by_cases hcond : 0 < n ∧ n < 1073741824 ∧ smallM (B.1 / 4093) = true
    case neg =>
      rw [if_neg hcond] at hp
      cases hp
    rw [if_pos hcond] at hp
    obtain ⟨hn0, hn1, hsm⟩ := hcond
    obtain ⟨v1, v2, rfl, r1, r2⟩ := two_rep rv
    cases r1
    cases r2
    obtain ⟨B0, B1, B2⟩ := B
    have hb : H b = some (.lst [.int B0, .int B1, .int B2]) := bs.bag
    have hsm' := small_of hsm
    refine ⟨_, rfl, b, _, 2, _, rfl, rfl, .inl (.inl hb), rfl, _, _, rfl, rfl, _, rfl, b, _, 2, 2, rfl, rfl, hb, rfl, ?_⟩
    have hb1 : (upd H b (.lst [.int B0, .int B1, .int (B2 + 1)])) b = some (.lst [.int B0, .int B1, .int (B2 + 1)]) := upd_same ..
    refine ⟨_, rfl, b, _, 0, _, rfl, rfl, .inl (.inl hb1), rfl, .inl ⟨_, rfl, ?_⟩⟩
    refine ⟨_, rfl, _, _, rfl, rfl, ⟨by decide, by decide⟩, ?_⟩
    refine ⟨_, rfl, _, _, rfl, rfl, .inr ⟨by decide, by decide⟩, _, rfl, _, rfl, _, _, rfl, rfl, .inl hsm', _, _, rfl, rfl, _, rfl, b, _, 2, _, rfl, rfl, .inl (.inl hb1), rfl, _, _, rfl, rfl, .inl ⟨by decide, by decide⟩, _, _, rfl, rfl, _, _, rfl, rfl,
      .inl ⟨_, rfl, _, _, rfl, rfl, (by show (0 : Int) < 2147483587; decide), _, rfl, b, _, 0, 0, rfl, rfl, hb1, rfl, ?_⟩⟩
    have hb2 : (upd (upd H b (.lst [.int B0, .int B1, .int (B2 + 1)])) b (.lst [.int (seedN (B0, B1, B2)), .int B1, .int (B2 + 1)])) b = some (.lst [.int (seedN (B0, B1, B2)), .int B1, .int (B2 + 1)]) := upd_same ..
    refine ⟨_, rfl, b, _, 1, _, rfl, rfl, .inl (.inl hb2), rfl, _, _, rfl, rfl, _, rfl, ?_⟩
    by_cases hpos : B1 > 0
    · refine ifT (decide_eq_true hpos) ?_
      have hp : (if B1 > 0 then some (D.int (B1 % n), (seedN (B0, B1, B2), B1 / n, B2 + 1)) else some (.int (seedN (B0, B1, B2) / 512 % n), (seedN (B0, B1, B2), B1, B2 + 1))) = some (d, B') := hp
      rw [if_pos hpos] at hp
      cases hp
      refine ⟨_, rfl, b, _, 1, _, rfl, rfl, .inl (.inl hb2), rfl, _, rfl, _, _, rfl, ⟨hn0, hn1⟩, fun p np => ?_⟩
      have np' : (upd (upd H b (.lst [.int B0, .int B1, .int (B2 + 1)])) b (.lst [.int (seedN (B0, B1, B2)), .int B1, .int (B2 + 1)])) p = none := np
      have npb : b ≠ p := ne_of_none hb2 np'
      rw [upd_upd] at np'
      have bs2 : Bas T b S (upd H b (bagO (seedN (B0, B1, B2), B1, B2 + 1))) (seedN (B0, B1, B2), B1, B2 + 1) := bs.bagW
      have bs3 := bs2.new (o := .tup [.int (B1 / n), .int (B1 % n)]) np' (fun ps z => by cases z)
      refine ⟨p, _, rfl, .inl (.inl (upd_same ..)), rfl, _, _, rfl, ⟨_, rfl, b, _, 1, 1, rfl, rfl, (upd_ne npb).trans hb2, rfl, _, _, rfl, ⟨rfl, ?_⟩⟩⟩
      refine ⟨_, rfl, ?_⟩
      have e := (Gr.bagW (B' := (seedN (B0, B1, B2), B1, B2 + 1)) bs).trans ((Gr.new (o := .tup [.int (B1 / n), .int (B1 % n)]) bs2.sub np').trans (Gr.bagW (B' := (seedN (B0, B1, B2), B1 / n, B2 + 1)) bs3))
      rw [upd_upd]
      exact q _ _ _ e (bs3.bagW (B' := (seedN (B0, B1, B2), B1 / n, B2 + 1))) rfl
    · refine ifF (decide_eq_false hpos) ?_
      have hp : (if B1 > 0 then some (D.int (B1 % n), (seedN (B0, B1, B2), B1 / n, B2 + 1)) else some (.int (seedN (B0, B1, B2) / 512 % n), (seedN (B0, B1, B2), B1, B2 + 1))) = some (d, B') := hp
      rw [if_neg hpos] at hp
      cases hp
      refine ⟨_, rfl, b, _, 0, _, rfl, rfl, .inl (.inl hb2), rfl, _, _, rfl, rfl, ⟨by decide, by decide⟩, .inl ⟨_, rfl, _, rfl, _, _, rfl, rfl, hn0, ?_⟩⟩
      rw [upd_upd]
      exact q _ S _ (Gr.bagW (B' := (seedN (B0, B1, B2), B1, B2 + 1)) bs) (bs.bagW (B' := (seedN (B0, B1, B2), B1, B2 + 1))) rfl
end
end Cab
set_option Elab.async false
set_option linter.all false
set_option maxRecDepth 100000
set_option maxHeartbeats 4000000
/-! A lambda with one parameter: it is made, it is called. -/
namespace Cab
open PySem L2 LamX Evl PyProof.Rows PySem.Spec

section
variable {X : Cx} {pins : List (Addr × Obj)} {σ : L2.St} {H : Hp} {s : Shared}
/-- the heap behind the making: as before, or the table longer and a code object new -/
def Made (P : Addr) (q : Str) (H H1 : Hp) : Prop := H1 = H ∨ ∃ ps more c, H P = some (.tbl ps) ∧ H c = none ∧ H1 = upd (upd H P (.tbl (ps ++ more))) c (CodeO c q)
theorem Made.gr {P b : Addr} {q : Str} {S H1 : Hp} {B : Bg} (m : Made P q H H1) (bs : Bas [(P, q)] b S H B) (hT : Tabs [(P, q)] H1) : Bas [(P, q)] b S H1 B ∧ Gr b S H S H1 := by
  rcases m with e | ⟨ps, more, c, h1, h2, e⟩
  · subst e
    exact ⟨bs, Gr.refl b S _⟩
  · subst e
    have keep : ∀ a o, H a = some o → (∀ ps, o ≠ .tbl ps) → upd (upd H P (.tbl (ps ++ more))) c (CodeO c q) a = some o := fun a o e n => by
      rw [upd_ne (ne_of_none e h2), upd_ne (fun z => by rw [z, h1] at e; exact n ps (Option.some.inj e).symm)]
      exact e
    refine ⟨⟨fun a o e => keep a o (bs.sub a o e) (fun ps z => by subst z; exact bs.noT a ps e), bs.bS, keep b _ bs.bag (fun ps z => by cases z), hT, bs.noT⟩, ⟨Ex.refl S, fun a o e _ n => keep a o e n, fun a e => ?_, fun a _ n => n⟩⟩
    by_cases z : a = c
    · rw [z, upd_same]; simp
    · rw [upd_ne z]
      by_cases z2 : a = P
      · rw [z2, upd_same]; simp
      · rw [upd_ne z2]; exact e
theorem lam_make3 {c P : Addr} {params : Arguments} {body : Expr} {scope : Scope} {pos : Pos} {E : Value → Shared → Prop} {Q : Value → Shared → Prop} (I : Inv X pins σ H s) (TB : TabB X.base X.mg c P) (hcode : X.env.code = .ref c)
    (hT : Tabs [(P, X.env.qual ++ "<lambda>")] H) (hdef : defaultsOf params X.env = ([], [])) (hfree : ∀ y ∈ scope.names, y.2 = .free → ∃ c, X.env.cells.lookup y.1 = some c)
    (h : ∀ (f c' : Addr) (pm ctv : Value) (H1 : Hp) (s' : Shared), Inv X pins σ H1 s' → Made P (X.env.qual ++ "<lambda>") H H1 → Tabs [(P, X.env.qual ++ "<lambda>")] H1 → s.heap.objs.size ≤ f →
      s'.heap.get? f = some (PySem.W.kla_obj "<lambda>" (X.env.qual ++ "<lambda>") params body scope (cloFrom X.env.cells scope.names []) pm c' ctv) → H1 f = none → H1 c' = some (CodeO c' (X.env.qual ++ "<lambda>")) → Q (.ref f) s') :
    wpAny (model X.prog X.w) X.A (eval (.Lambda params body scope pos) X.env) Q E s := by
  obtain ⟨ps, hP, ht, ha⟩ := hT _ (List.mem_singleton.mpr rfl)
  refine PySem.W.kla_eval hdef ?_
  have inP := I.hok P _ hP
  have bP := TB.bm.keeps I.bk
  cases found : codeAmong pos ps.toList with
  | some cv =>
    obtain ⟨c', rfl, hco⟩ := ha pos cv found
    refine PySem.W.kla_makeFunctionHit (mg := X.mg) (c := c) (P := P) (ps := ps) (closure_ok hfree) I.ok.glob (I.mod.glob.keeps I.bk) hcode (TB.code.keeps I.bk) inP ht found bP fun ctv h2 tk kx hz => ?_
    exact h h2.objs.size c' ((X.mg "__name__").getD .none) ctv H _ (I.kept fun b o e => Heap.get?_push_of_some _ (kx b o e)) (.inl rfl) hT hz (Heap.get?_push_size _ rfl) (I.hok.fresh hz) hco
  | none =>
    refine PySem.W.kla_makeFunction (mg := X.mg) (c := c) (P := P) (ps := ps) (closure_ok hfree) I.ok.glob (I.mod.glob.keeps I.bk) hcode (TB.code.keeps I.bk) inP ht found TB.gP bP fun c' ctv h2 tk kx hge hlt hrec htb => ?_
    obtain ⟨c3, oc, vs, t, e3, hoc, hd, hv⟩ := hrec
    cases e3
    have hz : s.heap.objs.size ≤ h2.objs.size := Nat.le_trans hge (Nat.le_of_lt hlt)
    have nc : H c' = none := I.hok.fresh hge
    have J := inv_table (t' := tk) (more := #[rawInt pos.line, rawInt pos.col, .ref c']) (h' := h2.push (PySem.W.kla_obj "<lambda>" (X.env.qual ++ "<lambda>") params body scope (cloFrom X.env.cells scope.names []) ((X.mg "__name__").getD .none) c' ctv)) I hP
      (fun b o hb e => Heap.get?_push_of_some _ (kx b o hb e)) (Heap.get?_push_of_some _ htb) hge ⟨oc, vs, t, Heap.get?_push_of_some _ hoc, hd, hv⟩
    have nPc : P ≠ c' := ne_of_none hP nc
    refine h h2.objs.size c' ((X.mg "__name__").getD .none) ctv _ _ J (.inr ⟨ps, _, c', hP, nc, rfl⟩) (fun p hp => ?_) hz (Heap.get?_push_size _ rfl) ?_ upd_same
    · rw [List.mem_singleton.mp hp]
      have eL : (ps ++ #[rawInt pos.line, rawInt pos.col, .ref c']).toList = ps.toList ++ [rawInt pos.line, rawInt pos.col, .ref c'] := by simp
      refine ⟨_, by rw [upd_ne nPc, upd_same], by rw [eL]; exact PySem.TriplesOk_snoc _ _ _ _ ht, fun p' cv hcv => ?_⟩
      rw [eL] at hcv
      rcases among_app _ ht hcv with z | z
      · obtain ⟨c0, k1, k2⟩ := ha p' cv z
        refine ⟨c0, k1, ?_⟩
        by_cases w : c0 = c'
        · rw [w, nc] at k2
          cases k2
        · rw [upd_ne w, upd_ne (fun w2 => by rw [w2, hP] at k2; exact codeO_ne ps (Option.some.inj k2).symm)]
          exact k2
      · exact ⟨c', z, upd_same⟩
    · rw [upd_ne (Nat.ne_of_gt hlt), upd_ne (Nat.ne_of_gt (Nat.lt_of_lt_of_le (Heap.lt_size inP) hz))]
      exact I.hok.fresh hz
/-! ### the body of a lambda with one parameter -/
structure LamS1 (sc scope : Scope) (a : Str) : Prop where
  kind : scope.kind = .function
  co : scope.isCoroutine = false
  gen : scope.isGenerator = false
  par : scope.names.lookup a = some .local
  own : ∀ y ∈ scope.names, y.2 ≠ .cell
  free : ∀ y ∈ scope.names, y.2 = .free → sc.names.lookup y.1 = some .cell ∨ sc.names.lookup y.1 = some .free
theorem LamS1.has {scope : Scope} {a : Str} (L : LamS1 X.env.scope scope a) (ok : X.Ok) : ∀ y ∈ scope.names, y.2 = .free → ∃ c, X.env.cells.lookup y.1 = some c := fun y hy e => by
  rcases L.free y hy e with z | z
  · exact ok.has _ (.inl z)
  · exact ok.has _ (.inr z)
def lamC (X : Cx) (N : List Str) (A : Around) (outer : List PySem.Env) (s : Shared) (H : Hp) (scope : Scope) (f c' : Addr) : Cx where
  prog := X.prog
  w := X.w
  K := X.K
  mg := X.mg
  base := X.base
  A := A.deeper (lamEnv X scope s.heap.objs.size f c')
  N := N
  s_0 := s
  H_0 := H
  env := lamEnv X scope s.heap.objs.size f c'
  outer := outer
  stack := lamEnv X scope s.heap.objs.size f c' :: outer
  ex := []
  fn := fun _ => false
  calm := true
  pn := []
  xe := fun _ _ => False
theorem lam_start3 {A : Around} {outer : List PySem.Env} {scope : Scope} {a : Str} {f c' : Addr} {h1 : Heap} {tk : Nat} {u : Value} {va : V} {N : List Str} {τ : L2.St} {pins2 : List (Addr × Obj)} (I : Inv X pins2 σ H s) (L : LamS1 X.env.scope scope a) (e0 : Env0 X.prog X.w X.K X.mg X.base A outer s H) (hd : A.handled = none)
    (hns : h1.Ns s.heap.objs.size fun y => [(a, u)].reverse.lookup y) (kp : ∀ b o, s.heap.get? b = some o → h1.get? b = some o) (ru : RelV va u) (hl : τ.length = N.length)
    (hτ : ∀ (i : Nat) (x : Str) (v : V), N[i]? = some x → τ[i]? = some (some v) → (x = a ∧ v = va) ∨ (scope.names.lookup x = some .free ∧ ∃ j : Nat, X.N[j]? = some x ∧ σ[j]? = some (some v))) :
    Inv (lamC X N A outer s H scope f c') [] τ H { s with heap := h1, toks := tk } := by
  have hfree := L.has I.ok
  have back : ∀ {y c}, (cloFrom X.env.cells scope.names []).lookup y = some c → X.env.cells.lookup y = some c := fun {y c} e => by
    rcases cloFrom_mem (PySem.mem_of_lookup e) with m | ⟨m1, m2⟩
    · cases m
    · obtain ⟨c1, hc⟩ := hfree _ m1 rfl
      rw [m2]
      show X.env.cells.lookup y = some ((X.env.cells.lookup y).getD 0)
      rw [show X.env.cells.lookup y = some c1 from hc]
      rfl
  have look : ∀ {y}, scope.names.lookup y = some .free → ∃ c, (cloFrom X.env.cells scope.names []).lookup y = some c := fun {y} e => mem_lookup (cloFrom_has (cells := X.env.cells) (acc := []) (PySem.mem_of_lookup e))
  have cellK : ∀ {c : Addr} {v : Option Value}, s.heap.IsCell c v → h1.IsCell c v := fun {c v} ⟨o, ho, hdt⟩ => ⟨o, kp _ _ ho, hdt⟩
  have noA : ∀ b : Addr, b ∉ (lamC X N A outer s H scope f c').ex := fun b z => absurd (show b ∈ ([] : List Addr) from z) (by simp)
  refine ⟨⟨e0.mod, L.kind, rfl, rfl, Nat.le_refl _, fun y z c e1 e2 => I.ok.inj y z c (back e1) (back e2), fun y hy => ?_, fun y c z _ => ?_, fun _ => hd, Around.frames_deeper e0.frames, .inr ⟨rfl, rfl⟩, fun b z => absurd z (noA b), e0.bs, e0.bsz, fun b _ _ => noA b, fun b z => absurd z (noA b), e0.funs, e0.frf⟩,
    rfl, e0.bare, Un.kept kp, ⟨_, hns, fun i y v e1 e2 e3 => ?_⟩, fun y c e => ?_, e0.hok.fresh (Nat.le_refl _), fun y c e => I.freeC y c (back e), fun q hq => absurd (show q ∈ ([] : List (Addr × Obj)) ++ [] from hq) (by simp), e0.hok.kept kp, hl⟩
  · have hy : scope.names.lookup y = some .cell ∨ scope.names.lookup y = some .free := hy
    rcases hy with hy | hy
    · exact absurd rfl (L.own _ (PySem.mem_of_lookup hy))
    · exact look hy
  · have z : false = true := z
    cases z
  · rcases hτ i y v e1 e2 with ⟨rfl, rfl⟩ | ⟨hf, j, j1, j2⟩
    · exact ⟨u, ru, .inl ⟨L.par, by simp⟩⟩
    · obtain ⟨m, hn, hlk⟩ := I.loc
      have hvis : Vis X.env.scope y := (L.free _ (PySem.mem_of_lookup hf) rfl).elim (fun z => .inr (.inl z)) (fun z => .inr (.inr z))
      obtain ⟨w', rw', q⟩ := hlk j y v j1 j2 hvis
      obtain ⟨c2, h2⟩ := look hf
      refine ⟨w', rw', .inr ⟨.inr hf, c2, h2, ?_⟩⟩
      have c1 := back h2
      rcases q with ⟨kl, _⟩ | ⟨_, c3, e', z⟩
      · have kl : X.env.scope.names.lookup y = some .local := kl
        rcases L.free _ (PySem.mem_of_lookup hf) rfl with k2 | k2 <;> rw [show X.env.scope.names.lookup y = _ from k2] at kl <;> cases kl
      · rw [c1] at e'
        cases e'
        exact cellK z
  · obtain ⟨w', z⟩ := I.cell y c (back e)
    exact ⟨w', cellK z⟩
end
end Cab
set_option Elab.async false
set_option linter.all false
set_option maxRecDepth 100000
set_option maxHeartbeats 4000000
/-! sorted of a tuple by a lambda's key, made a tuple. -/
namespace Cab
open PySem L2 LamX Evl PyProof.Rows PySem.Spec

section
variable {X : Cx} {pins : List (Addr × Obj)} {σ : L2.St} {H : Hp} {s : Shared}
/-- the lambda at f is called with one value -/
theorem lam_call {A : Around} {params : Arguments} {body : Expr} {scope : Scope} {a : Str} {f c' : Addr} {pm ctv u : Value} {va : V} {N : List Str} {τ : L2.St} {tb : TE} {Q : VK} {k : Nat} (I : Inv X pins σ H s) (L : LamS1 X.env.scope scope a) (e0 : Env0 X.prog X.w X.K X.mg X.base A X.stack s H) (hr : Room (k + 1) A)
    (hf : s.heap.get? f = some (PySem.W.kla_obj "<lambda>" (X.env.qual ++ "<lambda>") params body scope (cloFrom X.env.cells scope.names []) pm c' ctv)) (hc : H c' = some (CodeO c' (X.env.qual ++ "<lambda>")))
    (hbind : bindArgs (PySem.W.kla_fn "<lambda>" (X.env.qual ++ "<lambda>") params body scope (cloFrom X.env.cells scope.names []) pm (.ref c') ctv) ⟨[u], []⟩ = pure [(a, u)]) (ru : RelV va u) (hl : τ.length = N.length)
    (hτ : ∀ (i : Nat) (x : Str) (v : V), N[i]? = some x → τ[i]? = some (some v) → (x = a ∧ v = va) ∨ (scope.names.lookup x = some .free ∧ ∃ j : Nat, X.N[j]? = some x ∧ σ[j]? = some (some v)))
    (hbody : Room k (A.deeper (lamEnv X scope s.heap.objs.size f c')) → PE (lamC X N A X.stack s H scope f c') body tb) (q : tb τ H Q) : wpAny (model X.prog X.w) A (call (.ref f) [u]) (EP X pins σ Q) (fun _ _ => False) s := by
  obtain ⟨⟨oc, vs, t, hoc, hdc, hvc⟩, _, _⟩ := I.hok c' _ hc
  have rc : codeAny (model X.prog X.w) A (.call (.ref f) ⟨[u], []⟩) (CR CX0 X.stack X.prog X.w H s Q E0) s := by
    refine PySem.W.kla_callFunE hr.depth hf rfl L.co L.gen rfl ⟨c', oc, vs, t, rfl, hoc, hdc, hvc⟩ ?_
    rw [hbind]
    refine wpAny_pure (wpAny_newFunctionEnv (fun y hy => L.own y hy) (fun y hy => by rw [List.mem_singleton.mp hy]; exact L.par) (fun h1 hns hsb => ⟨I.nolimit.fresh _ hsb, ?_⟩) L.kind)
    show codeAny _ _ (.expr body (lamEnv X scope s.heap.objs.size f c')) _ _
    have kp : ∀ b o, s.heap.get? b = some o → h1.get? b = some o := fun b o e => hsb.extBut b o (Nat.ne_of_lt (Heap.lt_size e)) (Heap.get?_push_of_some _ e)
    have J : Inv (lamC X N A X.stack s H scope f c') [] τ H { s with heap := h1, toks := s.toks + [(a, u)].length } := lam_start3 I L e0 hr.hd hns kp ru hl hτ
    refine PySem.W.kla_codeExpr (wpAny_mono ((hbody (hr.deeper _)).run [] _ _ H Q J q) (fun v s' hq => ?_) fun e s' hq => False.elim hq)
    obtain ⟨w', H', J', rv, hQ⟩ := hq
    exact ⟨w', H', J'.os, J'.bare, J'.base, J'.hok, rv, hQ⟩
  refine wpAny_call (codeAny_mono rc fun r s' hq => ?_)
  cases r with
  | error e => exact hq
  | ok fl =>
    cases fl with
    | ret w => exact I.after hq
    | next => exact hq
    | brk => exact hq
    | cont => exact hq
/-- what a turn of the sort leaves -/
structure RkT (P : Addr) (q : Str) (b : Addr) (S0 H0 : Hp) (B : Bg) (S H : Hp) : Prop where
  gr : Gr b S0 H0 S H
  bs : Bas [(P, q)] b S H B
def KeyAt (g : Int → Int) (S : Hp) (v : Value) (p : Int) : Prop := ∃ t, v = .ref t ∧ S t = some (.tup [.int (g p), .int p])
def keyD (g : Int → Int) (p : Int) : PyData := .tuple [.int (g p), .int p]
theorem each_mono {α β : Type} {R R' : α → β → Prop} (h : ∀ a b, R a b → R' a b) : ∀ {as : List α} {bs : List β}, PySem.W.EachIs R as bs → PySem.W.EachIs R' as bs
  | _, _, .nil => .nil
  | _, _, .cons r t => .cons (h _ _ r) (each_mono h t)
theorem each_snoc2 {α β : Type} {R : α → β → Prop} {a : α} {b : β} (r : R a b) : ∀ {as : List α} {bs : List β}, PySem.W.EachIs R as bs → PySem.W.EachIs R (as ++ [a]) (bs ++ [b])
  | _, _, .nil => .cons r .nil
  | _, _, .cons q t => .cons q (each_snoc2 r t)
theorem each_map {α β γ : Type} {R : α → γ → Prop} (k : β → γ) : ∀ {as : List α} {bs : List β}, PySem.W.EachIs (fun a b => R a (k b)) as bs → PySem.W.EachIs R as (bs.map k)
  | _, _, .nil => .nil
  | _, _, .cons q t => .cons q (each_map k t)
theorem key_reads {g : Int → Int} {S : Hp} {P b : Addr} {q : Str} {B : Bg} (I : Inv X pins σ H s) (bs : Bas [(P, q)] b S H B) {v : Value} {p : Int} (h : KeyAt g S v p) : ∃ as, Reads s.heap v (keyD g p) as := by
  obtain ⟨t, rfl, ht⟩ := h
  exact Dp.reads I (keyD g p) (.ref t) (.ref t) (.tup (.inl (.inl (bs.sub _ _ ht))) (.cons (.int _) (.cons (.int _) .nil))) rfl
/-- the keys one by one, then the sort -/
theorem rank_rest {f L kS : Addr} {fo : Obj} {g : Int → Int} {ps : List Int} {vs : List Value} {e1 : Nat} {P b : Addr} {q : Str} {S0 H0 : Hp} {B : Bg} {S : Hp} {A : Around} {Pf : PySem.Fin → Shared → Prop} {E : Value → Shared → Prop}
    (I : Inv X pins σ H s) (rk : RkT P q b S0 H0 B S H) (hL : s.heap.get? L = some (seqObj "list" #[] e1)) (fL : FpOk X pins H L) (hK : s.heap.get? kS = some (seqObj "list" #[] 0)) (fK : FpOk X pins H kS) (hKL : kS ≠ L)
    (hf : s.heap.get? f = some fo) (hfo : ∀ v, fo.data ≠ .cell v) (ff : FpOk X pins H f) (hfL : f ≠ L) (hfK : f ≠ kS)
    (hv : PySem.W.EachIs (fun v p => ∃ t, v = Value.int p t) vs ps) (hz : ps.length ≤ 1000) (hu : A.units + 64 < cLine)
    (turn : ∀ (pins2 : List (Addr × Obj)) (s2 : Shared) (S2 H2 : Hp) (p : Int) (t : Tok), p ∈ ps → Inv X pins2 σ H2 s2 → RkT P q b S0 H0 B S2 H2 → s2.heap.get? f = some fo →
      wpAny (model X.prog X.w) A (call (.ref f) [.int p t]) (EP X pins2 σ fun w H3 => ∃ t' S3, w = .ref t' ∧ S3 t' = some (.tup [.int (g p), .int p]) ∧ Ex S2 S3 ∧ RkT P q b S0 H0 B S3 H3) (fun _ _ => False) s2)
    (fin : ∀ (s' : Shared) (S' H' : Hp) (out : List Value) (c : Nat), Inv X pins σ H' s' → RkT P q b S0 H0 B S' H' → s'.heap.get? L = some (seqObj "list" out.toArray c) → out.length ≤ 1000 → PySem.W.EachIs (fun v p => ∃ t, v = Value.int p t) out (ps.mergeSort fun p r => decide (g p < g r ∨ (g p = g r ∧ p ≤ r))) → Pf (.done (.ret .none)) s') :
    wpAny (model X.prog X.w) A (ksk_rest L (.ref f) false vs.toArray e1 (.ref kS)) Pf E s := by
  have hlen : vs.length = ps.length := hv.length
  have hsl := sizeLine_eq
  unfold ksk_rest
  refine wpAny_bind (wpAny_rule ?_)
  rw [List.forIn_toArray]
  refine wpAny_bind (ksk_fold (fun i s' => ∃ (S' H' : Hp) (keys : Array Value) (e : Nat), Inv X pins σ H' s' ∧ RkT P q b S0 H0 B S' H' ∧ s'.heap.get? L = some (seqObj "list" #[] e1) ∧ FpOk X pins H' L ∧ s'.heap.get? kS = some (seqObj "list" keys e) ∧ FpOk X pins H' kS ∧
    s'.heap.get? f = some fo ∧ FpOk X pins H' f ∧ PySem.W.EachIs (KeyAt g S') keys.toList (ps.take i)) vs 0 s
    ⟨S, H, #[], 0, I, rk, hL, fL, hK, fK, hf, ff, by rw [List.take_zero]; exact .nil⟩ ?step ?done)
  case step =>
    rintro j x s' hx ⟨S', H', keys, e, I', rk', hL', fL', hK', fK', hf', ff', hk⟩
    simp only [Nat.zero_add] at hk ⊢
    have hj : j < vs.length := (List.getElem?_eq_some_iff.mp hx).1
    obtain ⟨p, hp⟩ : ∃ p, ps[j]? = some p := ⟨_, List.getElem?_eq_getElem (by omega)⟩
    have hmem : p ∈ ps := List.mem_of_getElem? hp
    obtain ⟨t, rfl⟩ : ∃ t, x = Value.int p t := by
      have z : (x, p) ∈ vs.zip ps := List.mem_of_getElem? (i := j) (by rw [List.getElem?_zip_eq_some]; exact ⟨hx, hp⟩)
      exact hv.zip _ z
    have hks : keys.size ≤ 1000 := by
      have q1 := hk.length
      rw [Array.length_toList, List.length_take] at q1
      omega
    have fps : ∀ c ∈ [L, kS, f], FpOk X pins H' c := fun c hc => by
      simp only [List.mem_cons, List.not_mem_nil, or_false] at hc
      rcases hc with z | z | z
      · rw [z]; exact fL'
      · rw [z]; exact fK'
      · rw [z]; exact ff'
    have obs : ∀ c ∈ [L, kS, f], ∃ o, s'.heap.get? c = some o ∧ ∀ v, o.data ≠ .cell v := fun c hc => by
      simp only [List.mem_cons, List.not_mem_nil, or_false] at hc
      rcases hc with z | z | z
      · rw [z]; exact ⟨_, hL', fun v z => nomatch z⟩
      · rw [z]; exact ⟨_, hK', fun v z => nomatch z⟩
      · rw [z]; exact ⟨_, hf', hfo⟩
    have J := I'.pinned fps obs
    refine wpAny_bind (wpAny_attempt (wpAny_mono (turn _ s' S' H' p t hmem J rk' hf') (fun v s2 he => ?_) fun _ _ hF => hF.elim))
    obtain ⟨w, H3, J3, rw3, t', S3, rfl, ht', ex3, rk3⟩ := he
    have rw3 : v = Value.ref t' := rw3
    subst rw3
    try dsimp only
    have pin3 : ∀ c o, c ∈ [L, kS, f] → s'.heap.get? c = some o → s2.heap.get? c = some o ∧ H3 c = none := fun c o hc ho => by
      have z := J3.pin (c, o) (List.mem_append_right _ (List.mem_append_right _ (mem_pinsAt hc ho)))
      exact ⟨z.1, z.2.1⟩
    have pL := pin3 L _ (by simp) hL'
    have pK := pin3 kS _ (by simp) hK'
    have pf := pin3 f _ (by simp) hf'
    have I3 : Inv X pins σ H3 s2 := J3.unpinned
    have fL3 : FpOk X pins H3 L := ⟨pL.2, fL'.2⟩
    have fK3 : FpOk X pins H3 kS := ⟨pK.2, fK'.2⟩
    have ff3 : FpOk X pins H3 f := ⟨pf.2, ff'.2⟩
    have sb := Heap.SameBut.update s2.heap kS (Obj.mapSeq (·.push (.ref t')))
    obtain ⟨c2, hc2⟩ : ∃ c2, (s2.heap.update kS (Obj.mapSeq (·.push (.ref t')))).get? kS = some (seqObj "list" (keys.push (.ref t')) c2) := ⟨_, get?_update_seq pK.1 (·.push (.ref t'))⟩
    refine wpAny_bind (listUpdate_at pK.1 rfl ?_ (by omega) (by rw [Array.size_push]; omega))
    have I4 := I3.turnedL (t' := s2.toks) (h' := s2.heap.update kS (Obj.mapSeq (·.push (.ref t')))) (ch := [kS]) (fun c o hc e => (sb.2 c (fun z => hc (by simp [z]))).trans e) (fun c hc => by rw [List.mem_singleton.mp hc]; exact fK3)
    refine wpAny_pure ⟨rfl, S3, H3, keys.push (.ref t'), c2, I4, rk3, (sb.2 L hKL.symm).trans pL.1, fL3, hc2, fK3, (sb.2 f hfK).trans pf.1, ff3, ?_⟩
    rw [Array.toList_push, List.take_add_one, hp]
    exact each_snoc2 ⟨t', rfl, ht'⟩ (each_mono (fun v p ⟨t, z1, z2⟩ => ⟨t, z1, ex3 _ _ z2⟩) hk)
  case done =>
    rintro s' ⟨S', H', keys, e, I', rk', hL', fL', hK', fK', hf', ff', hk⟩
    have tk : ps.take (0 + vs.length) = ps := List.take_of_length_le (by omega)
    rw [tk] at hk
    have hks : keys.size = vs.length := by
      have q1 := hk.length
      rw [Array.length_toList] at q1
      omega
    try dsimp only
    refine wpAny_bind (listItems_at hK' rfl ?_)
    have rd : PySem.W.EachIs (fun v d => ∃ as, Reads s'.heap v d as) keys.toList (ps.map (keyD g)) := each_map (keyD g) (each_mono (fun v p z => key_reads I' rk'.bs z) hk)
    have hal : PySem.W.AllAlike (ps.map (keyD g)) := PySem.W.AllAlike.of fun _ _ => by simp [PySem.W.alike, PySem.W.alikeAll, keyD]
    have hsk : PySem.W.Sortable (ps.map (keyD g)) := PySem.W.Sortable.tuples fun _ => ⟨_, _, rfl⟩
    have hdep : ∀ d, d ∈ ps.map (keyD g) → A.units + d.depth < cLine := fun d hd => by
      obtain ⟨p, _, rfl⟩ := List.mem_map.mp hd
      have : (keyD g p).depth = 1 := by simp [keyD, PyData.depth, PyData.depthAll]
      omega
    refine PySem.W.keyH_end (κ := PySem.W.dataKind s'.heap (ps.map (keyD g))) (h₁ := PySem.W.hideAll s'.heap [kS]) (fun c o _ z => PySem.W.of_hideAll _ z) (PySem.W.hideAll_none _ (by simp)) hK' hL' hKL
      (PySem.W.SortsAt.data rd hal hsk hdep) hks (by omega) fun h2 tk2 c kb hD => ?_
    have I4 := I'.turnedL (t' := tk2) (h' := h2) (ch := [L, kS]) (fun c o hc z => kb c o (fun z => hc (by simp [z])) (PySem.W.hideAll_get _ z (fun z => hc (by
      have := List.mem_singleton.mp z
      simp [this])))) (fun c hc => by
      simp only [List.mem_cons, List.not_mem_nil, or_false] at hc
      rcases hc with z | z
      · rw [z]; exact fL'
      · rw [z]; exact fK')
    have ko : PySem.W.KeyedOut false (ps.map (keyD g)) vs (PySem.W.sortVals (PySem.W.dataKind s'.heap (ps.map (keyD g))) false keys.toList vs) := ⟨s'.heap, keys.toList, hal, rfl, rd⟩
    have eo := PySem.W.keyedOut_each (keyD g) ko hv
    have ol := ko.length (by rw [List.length_map]; exact hlen.symm)
    rw [show keyD g = fun p => PyData.tuple [.int (g p), .int p] from rfl, PySem.W.dataLe_ii (β := Int) g (fun p => p)] at eo
    exact fin _ S' H' _ c I4 rk' hD (by omega) eo
theorem vals_ints {H : Hp} : ∀ {ps : List Int} {us : List Value}, Vals (ps.map V.int) us → PySem.W.EachIs (fun v p => ∃ t, v = Value.int p t) us ps
  | [], _, .nil => .nil
  | p :: ps, _, .cons ⟨t, e⟩ r => .cons ⟨t, e⟩ (vals_ints (H := H) r)
theorem ints_vals : ∀ {ps : List Int} {us : List Value}, PySem.W.EachIs (fun v p => ∃ t, v = Value.int p t) us ps → Vals (ps.map V.int) us
  | [], _, .nil => .nil
  | p :: ps, _, .cons ⟨t, e⟩ r => .cons ⟨t, e⟩ (ints_vals r)
/-- sorted(t, key=f) of a tuple of ints -/
theorem rank_sorted {f a : Addr} {fo : Obj} {g : Int → Int} {ps : List Int} {P b : Addr} {q : Str} {S0 H0 : Hp} {B : Bg} {S : Hp} {Q : Value → Shared → Prop} {E : Value → Shared → Prop}
    (I : Inv X pins σ H s) (rk : RkT P q b S0 H0 B S H) (hT : SqT X.K H a (ps.map V.int)) (hf : s.heap.get? f = some fo) (hfo : ∀ v, fo.data ≠ .cell v) (ff : FpOk X pins H f) (hz : ps.length ≤ 1000) (hu : X.A.units + 70 < cLine)
    (turn : ∀ (pins2 : List (Addr × Obj)) (s2 : Shared) (S2 H2 : Hp) (p : Int) (t : Tok), p ∈ ps → Inv X pins2 σ H2 s2 → RkT P q b S0 H0 B S2 H2 → s2.heap.get? f = some fo →
      wpAny (model X.prog X.w) X.A.in1.in1 (call (.ref f) [.int p t]) (EP X pins2 σ fun w H3 => ∃ t' S3, w = .ref t' ∧ S3 t' = some (.tup [.int (g p), .int p]) ∧ Ex S2 S3 ∧ RkT P q b S0 H0 B S3 H3) (fun _ _ => False) s2)
    (fin : ∀ (s' : Shared) (S' H' : Hp) (L : Addr) (out : List Value) (c : Nat), Inv X pins σ H' s' → RkT P q b S0 H0 B S' H' → s'.heap.get? L = some (seqObj "list" out.toArray c) → out.length ≤ 1000 → PySem.W.EachIs (fun v p => ∃ t, v = Value.int p t) out (ps.mergeSort fun p r => decide (g p < g r ∨ (g p = g r ∧ p ≤ r))) → Q (.ref L) s') :
    wpAny (model X.prog X.w) X.A (call (.builtin "sorted") [.ref a] [(Str.ofString "key", .ref f)]) Q E s := by
  have hsl := sizeLine_eq
  obtain ⟨its, rv, ⟨o, ho, hc, n, hd⟩, hzz⟩ := I.tuple hT
  have hv := vals_ints (H := H) rv
  have hlen : its.length = ps.length := hv.length
  refine call_function_entry_kw kind_sorted plain_sorted entry_sorted (ksk_s1 _ _) ?_
  unfold Builtin.«sorted»
  refine wpAny_bind (m := checkCount "sorted" 1 1 _) (wpAny_pure ?_)
  refine wpAny_bind (wpAny_collect_seq a (.inr rfl) ho hc hd (fun h1 k1 => ?_) (by rw [List.size_toArray]; omega))
  have e0 : its.toArray.toList = its := by simp
  rw [e0]
  have I1 : Inv X pins σ H { s with heap := h1 } := I.kept (t' := s.toks) k1
  refine wpAny_bind (wpAny_newList ?_ (by omega))
  have I2 : Inv X pins σ H { s with heap := h1.push (seqObj "list" its.toArray 0) } := I1.kept (t' := s.toks) fun b o e => Heap.get?_push_of_some _ e
  have hL : (h1.push (seqObj "list" its.toArray 0)).get? h1.objs.size = some (seqObj "list" its.toArray 0) := Heap.get?_push_size _ rfl
  have fL : FpOk X pins H h1.objs.size := I1.fpOk (Nat.le_refl _) (I1.hok.fresh (Nat.le_refl _))
  have hf1 : h1.get? f = some fo := k1 _ _ hf
  have hfL : f ≠ h1.objs.size := Nat.ne_of_lt (Heap.lt_size hf1)
  show wpAny _ _ _ _ _ { s with heap := h1.push (seqObj "list" its.toArray 0) }
  refine wpAny_bind (wpAny_holding (wpAny_call_entry_kw slot_list_sort ⟨_, hL, rfl⟩ entry_list_sort ?body (ksk_l1 _ _)))
  case body =>
    rw [ksk_t1]
    unfold ksk_tree
    refine wpAny_bind (listItems_at hL rfl ?_)
    refine wpAny_bind (listUpdate_at hL rfl ?_ (by rw [List.size_toArray]; omega) (Nat.zero_le _))
    obtain ⟨e1, hL1⟩ : ∃ e1, ((h1.push (seqObj "list" its.toArray 0)).update h1.objs.size (Obj.mapSeq fun _ => (#[] : Array Value))).get? h1.objs.size = some (seqObj "list" #[] e1) := ⟨_, get?_update_seq hL fun _ => #[]⟩
    have sb := Heap.SameBut.update (h1.push (seqObj "list" its.toArray 0)) h1.objs.size (Obj.mapSeq fun _ => (#[] : Array Value))
    have I3 := I2.turnedL (t' := s.toks) (h' := (h1.push (seqObj "list" its.toArray 0)).update h1.objs.size (Obj.mapSeq fun _ => (#[] : Array Value))) (ch := [h1.objs.size]) (fun c o hc e => (sb.2 c (fun z => hc (by simp [z]))).trans e) (fun c hc => by rw [List.mem_singleton.mp hc]; exact fL)
    refine wpAny_bind (seqEpoch_at hL1 rfl ?_)
    generalize hh : (h1.push (seqObj "list" its.toArray 0)).update h1.objs.size (Obj.mapSeq fun _ => (#[] : Array Value)) = h3 at hL1 sb I3 ⊢
    have hf3 : h3.get? f = some fo := (sb.2 f hfL).trans (Heap.get?_push_of_some _ hf1)
    refine wpAny_bind (wpAny_newTuple ?_ (by show its.toArray.toList.length ≤ _; rw [e0]; omega))
    refine wpAny_bind (wpAny_newList ?_ (Nat.zero_le _))
    refine wpAny_holding ?_
    have I4 : Inv X pins σ H { s with heap := h3.push (seqObj "tuple" its.toArray 0) } := I3.kept (t' := s.toks) fun b o e => Heap.get?_push_of_some _ e
    have I5 : Inv X pins σ H { s with heap := (h3.push (seqObj "tuple" its.toArray 0)).push (seqObj "list" #[] 0) } := I4.kept (t' := s.toks) fun b o e => Heap.get?_push_of_some _ e
    have fK : FpOk X pins H (h3.push (seqObj "tuple" its.toArray 0)).objs.size := I4.fpOk (Nat.le_refl _) (I4.hok.fresh (Nat.le_refl _))
    have lt3 : ∀ c o, h3.get? c = some o → c < (h3.push (seqObj "tuple" its.toArray 0)).objs.size := fun c o e => Heap.lt_size (Heap.get?_push_of_some _ e)
    exact rank_rest (s := { s with heap := (h3.push (seqObj "tuple" its.toArray 0)).push (seqObj "list" #[] 0) }) I5 rk (Heap.get?_push_of_some _ (Heap.get?_push_of_some _ hL1)) fL (Heap.get?_push_size _ rfl) fK (Nat.ne_of_gt (lt3 _ _ hL1)) (Heap.get?_push_of_some _ (Heap.get?_push_of_some _ hf3)) hfo ff hfL (Nat.ne_of_lt (lt3 _ _ hf3)) hv hz (by show X.A.units + 2 + 64 < cLine; omega) turn
      fun s' S' H' out c I' rk' hL' ho' eo => ⟨_, rfl, wpAny_pure ⟨_, rfl, fin s' S' H' _ out c I' rk' hL' ho' eo⟩⟩
end
end Cab
set_option Elab.async false
set_option linter.all false
set_option maxRecDepth 100000
set_option maxHeartbeats 4000000
/-! ranked_at. -/
namespace Cab
open PySem L2 LamX Evl PyProof.Rows PySem.Spec CabR

def nRank : List Str := ["riders", "order", "stretch"]
theorem scRank : FnScope nRank ["riders", "order", "stretch"] (defScope (topS 34)) := ⟨rfl, rfl, rfl, by decide +kernel, rfl, by decide +kernel, by decide +kernel⟩
section
variable {X : Cx}
/-- tuple(sorted(e, key=lambda a: body)) -/
def tRank (P : Addr) (q : Str) (tb : TE) (te : TE) : TE := fun σ H Q => ∃ (b : Addr) (S0 : Hp) (B : Bg) (g : Int → Int) (ps : List Int) (vr vo : V), σ[0]? = some (some vr) ∧ σ[1]? = some (some vo) ∧ Bas [(P, q)] b S0 H B ∧
  te σ H fun v H1 => ∃ a S1, v = .ref a ∧ RkT P q b S0 H B S1 H1 ∧ S1 a = some (.tup (ps.map V.int)) ∧ ps.length ≤ 1000 ∧
    (∀ p ∈ ps, ∀ S2 H2, RkT P q b S0 H B S2 H2 → tb [some vr, some vo, some (.int p)] H2 fun w H3 => ∃ t' S3, w = .ref t' ∧ S3 t' = some (.tup [.int (g p), .int p]) ∧ Gr b S2 H2 S3 H3 ∧ Bas [(P, q)] b S3 H3 B) ∧
    ∀ l o S' H', RkT P q b S0 H B S' H' → H' l = none → o.dict = none → Q (.ref l) (upd H' l (.frz o (.tup ((ps.mergeSort fun p r => decide (g p < g r ∨ (g p = g r ∧ p ≤ r))).map V.int))))
theorem pe_rank {e lb : Expr} {te tb : TE} {params : Arguments} {scope : Scope} {c P : Addr} {k : Nat} {p1 p2 pos1 pos2 lpos kpos : Pos} (hN : X.N = nRank) (he : PE X e te) (hs : isStar e = false) (TB : TabB X.base X.mg c P) (hcode : X.env.code = .ref c) (hdef : defaultsOf params X.env = ([], [])) (L : LamS1 X.env.scope scope "place")
    (hlk : scope.names.lookup ("riders" : Str) = some .free ∧ scope.names.lookup ("order" : Str) = some .free)
    (hbind : ∀ (c' : Addr) (pm ctv u : Value), bindArgs (PySem.W.kla_fn "<lambda>" (X.env.qual ++ "<lambda>") params lb scope (cloFrom X.env.cells scope.names []) pm (.ref c') ctv) ⟨[u], []⟩ = pure [(("place" : Str), u)]) (hr : Room (k + 3) X.A) (hg : Gl X "tuple") (hg2 : Gl X "sorted") (m1 : X.mg "tuple" = none) (m2 : X.mg "sorted" = none)
    (hb : ∀ s2 H2 f c', Room k (X.A.in1.in1.deeper (lamEnv X scope s2.heap.objs.size f c')) → PE (lamC X ["riders", "order", "place"] X.A.in1.in1 X.stack s2 H2 scope f c') lb tb) :
    PE X (.Call (.Name "tuple" p1) [.Call (.Name "sorted" p2) [e] [⟨some "key", .Lambda params lb scope lpos, kpos⟩] pos2] [] pos1) (tRank P (X.env.qual ++ "<lambda>") tb te) := by
  refine ⟨fun pins s σ H Q I ⟨b, S0, B, g, ps, vr, vo, e0, e1, bs0, h⟩ => ?_⟩
  refine wpAny_Call_Name_kw (ld_blt I hg m1 PyProof.Rows.boot_tuple ?_)
  refine PyProof.Rows.callWith_type1 (PyProof.Rows.args_cons ?_ rfl) rfl rfl
  refine wpAny_Call_Name_kw (ld_blt I hg2 m2 PyProof.Rows.boot_sorted ?_)
  refine PyProof.Rows.callWith_kw (PyProof.Rows.args_cons (thn (he.run pins s σ H _ I h) fun v s1 ⟨x, H1, I1, r1, q1⟩ => PyProof.Rows.args_nil ?_) (star1 hs)) (by rw [star1 hs]; rfl) (by rw [star1 hs]; rfl) rfl rfl
  obtain ⟨a, S1, rfl, rk1, ha, hz, hturn, hfin⟩ := q1
  have r1 : v = Value.ref a := r1
  subst r1
  show wpAny _ _ (evalAll ((do let v ← eval (.Lambda params lb scope lpos) X.env; standAt pos2; pure v) :: [])) _ _ s1
  refine wpAny_evalAll_cons (wpAny_bind (lam_make3 I1 TB hcode rk1.bs.tabs hdef (L.has I1.ok) fun f c' pm ctv H2 s2 I2 made hT2 hge hf hfn hc2 => wpAny_bind (wpAny_standAt (wpAny_pure ?_))))
  refine wpAny_evalAll_nil ?_
  obtain ⟨bs2, gr2⟩ := made.gr rk1.bs hT2
  have hu : X.A.units + 70 < cLine := by
    have := hr.un
    omega
  have hcb : c' ≠ b := fun z => by
    rw [z, bs2.bag] at hc2
    unfold CodeO bagO at hc2
    cases hc2
  refine rank_sorted (g := g) (ps := ps) (S := S1) (S0 := S1) (H0 := H2) I2 ⟨Gr.refl .., bs2⟩ (.inl (.inl (bs2.sub _ _ ha))) hf (fun v z => nomatch z) (I1.fpOk hge hfn) hz hu (fun pins2 s3 S3 H3 p t hp I3 rk3 hf3 => ?_) fun s' S' H' Lx out cx I' rk' hL hlen eo => ?_
  · have hc3 : H3 c' = some (CodeO c' (X.env.qual ++ "<lambda>")) := rk3.gr.h c' _ hc2 hcb (fun ps z => codeO_ne ps z)
    have rr : Room (k + 1) X.A.in1.in1 := (show Room (k + 2) X.A.in1 from hr.in1).in1
    have ht := hturn p hp S3 H3 ⟨rk1.gr.trans (gr2.trans rk3.gr), rk3.bs⟩
    refine wpAny_mono (lam_call (va := .int p) (N := ["riders", "order", "place"]) (τ := [some vr, some vo, some (.int p)]) I3 L I3.env0.in1.in1 rr hf3 hc3 (hbind _ _ _ _) ⟨t, rfl⟩ rfl (fun i x v hx hv => ?_) (hb _ _ _ _) ht) (fun w s4 hq => ?_) fun _ _ z => z
    · match i, hx, hv with
      | 0, hx, hv =>
        cases hx
        cases hv
        exact .inr ⟨hlk.1, 0, by rw [hN]; rfl, e0⟩
      | 1, hx, hv =>
        cases hx
        cases hv
        exact .inr ⟨hlk.2, 1, by rw [hN]; rfl, e1⟩
      | 2, hx, hv =>
        cases hx
        cases hv
        exact .inl ⟨rfl, rfl⟩
      | n + 3, hx, _ => cases hx
    · obtain ⟨w', H5, I5, rw5, t', S5, k1, k2, k3, k4⟩ := hq
      exact ⟨w', H5, I5, rw5, t', S5, k1, k2, k3.s, ⟨rk3.gr.trans k3, k4⟩⟩
  · have hsl := sizeLine_eq
    refine PyProof.Rows.args_nil (call_tuple_list (items := out.toArray) ⟨_, hL, rfl, _, rfl⟩ (fun h5 k5 => ?_) (by rw [List.size_toArray]; omega))
    have I5 : Inv X pins σ H' { s' with heap := h5 } := I'.kept (t' := s'.toks) k5
    have nn := I5.hok.fresh (Nat.le_refl _)
    have ob : ObjOk X.prog X.w (upd H' h5.objs.size (.frz { cls := .type "tuple", data := .seq out.toArray } (.tup ((ps.mergeSort fun p r => decide (g p < g r ∨ (g p = g r ∧ p ≤ r))).map V.int)))) (h5.push { cls := .type "tuple", data := .seq out.toArray }) h5.objs.size (.frz { cls := .type "tuple", data := .seq out.toArray } (.tup ((ps.mergeSort fun p r => decide (g p < g r ∨ (g p = g r ∧ p ≤ r))).map V.int))) := by
      have ol := eo.length
      exact ⟨Heap.get?_push_size _ rfl, by rw [List.length_map]; omega, out, ints_vals eo, IsTup.new _ _⟩
    exact ⟨.ref h5.objs.size, _, I5.laid (t' := s'.toks) (fun b o e => Heap.get?_push_of_some _ e) (Nat.le_refl _) ob, rfl, hfin _ { cls := .type "tuple", data := .seq out.toArray } S' H' ⟨rk1.gr.trans (gr2.trans rk'.gr), rk'.bs⟩ nn rfl⟩
end
end Cab
set_option Elab.async false
set_option linter.all false
set_option maxRecDepth 100000
set_option maxHeartbeats 4000000
/-! ranked_at. -/
namespace Cab
open PySem L2 LamX Evl PyProof.Rows PySem.Spec CabR

/-- the places aboard, and the key of each -/
structure RkK (k : Call) (r o t : D) (ps : List Int) (g : Int → Int) : Prop where
  ab : ∀ B, k "aboard_at" [r, t] B = some (.tup (ps.map D.int), B)
  len : ps.length ≤ 1000
  pl : ∀ p ∈ ps, ∀ B, k "place_of" [r, o, .int p] B = some (.tup [.int (g p), .int p], B)
/-- the ranks -/
def rkOf (ps : List Int) (g : Int → Int) : List D := (sortP (ps.map fun p => (g p, p))).map fun p => .int p.2
open Classical in
noncomputable def rkD (k : Call) (r o t : D) : Option (List D) := if h : ∃ q : List Int × (Int → Int), RkK k r o t q.1 q.2 then some (rkOf h.choose.1 h.choose.2) else none
noncomputable def pRanked (k : Call) : List D → Bg → Option (D × Bg)
  | [r, o, t], B => ob (rkD k r o t) fun l => some (.rtup l, B)
  | _, _ => none
theorem ints_inj : ∀ {as bs : List Int}, as.map D.int = bs.map D.int → as = bs
  | [], [], _ => rfl
  | [], _ :: _, h => by cases h
  | _ :: _, [], h => by cases h
  | a :: as, b :: bs, h => by
    rw [List.map_cons, List.map_cons] at h
    injection h with h1 h2
    cases h1
    rw [ints_inj h2]
theorem RkK.uniq {k : Call} {r o t : D} {ps qs : List Int} {g h : Int → Int} (x : RkK k r o t ps g) (y : RkK k r o t qs h) : rkOf ps g = rkOf qs h := by
  have e := x.ab (0, 0, 0)
  rw [y.ab (0, 0, 0)] at e
  injection e with e
  injection e with e _
  injection e with e
  have e := ints_inj e
  subst e
  unfold rkOf
  rw [List.map_congr_left (g := fun p => (h p, p)) fun p hp => by
    have e2 := x.pl p hp (0, 0, 0)
    rw [y.pl p hp (0, 0, 0)] at e2
    injection e2 with e2
    injection e2 with e2 _
    injection e2 with e2
    injection e2 with e2 _
    injection e2 with e2
    rw [e2]]
theorem evEs_l0 {k : Call} {env : Cab.Env} {B B' : Bg} {ds : List D} (h : evEs k .enil env B = some (ds, B')) : ds.length = 0 := by
  cases h
  rfl
theorem evEs_lS {k : Call} {a is : IE} {n : Nat} (ih : ∀ env B ds B', evEs k is env B = some (ds, B') → ds.length = n) (env : Cab.Env) (B : Bg) (ds : List D) (B' : Bg) (h : evEs k (.econs a is) env B = some (ds, B')) : ds.length = n + 1 := by
  obtain ⟨d, B1, e1, h⟩ := bd_inv h
  obtain ⟨es, B2, e2, h⟩ := bd_inv h
  cases h
  rw [List.length_cons, ih _ _ _ _ e2]
theorem ints_repM {CR b : Addr} {S : Hp} : ∀ {ns : List Int} {vs : List V}, Reps CR b S (ns.map D.int) vs → vs = ns.map V.int
  | [], _, r => r
  | n :: ns, _, ⟨v, us, h1, h2, h3⟩ => by
    rw [h1, ints_repM h3, show v = V.int n from h2]
    rfl
theorem ints_rep2 {CR b : Addr} {S : Hp} : ∀ (ns : List Int), Reps CR b S (ns.map D.int) (ns.map V.int)
  | [] => rfl
  | n :: ns => ⟨_, _, rfl, rfl, ints_rep2 ns⟩
theorem rkD_eq {k : Call} {r o t : D} {ps : List Int} {g : Int → Int} (x : RkK k r o t ps g) : rkD k r o t = some (rkOf ps g) := by
  have h : ∃ q : List Int × (Int → Int), RkK k r o t q.1 q.2 := ⟨(ps, g), x⟩
  unfold rkD
  rw [dif_pos h, h.choose_spec.uniq x]
theorem pRanked_eq {k : Call} {r o t : D} {ps : List Int} {g : Int → Int} (x : RkK k r o t ps g) (B : Bg) : pRanked k [r, o, t] B = some (.rtup (rkOf ps g), B) := by
  show ob (rkD k r o t) _ = _
  rw [rkD_eq x]
  rfl
theorem pRanked_inv {k : Call} {ds : List D} {B B' : Bg} {d : D} (h : pRanked k ds B = some (d, B')) : ∃ r o t ps g, ds = [r, o, t] ∧ RkK k r o t ps g ∧ d = .rtup (rkOf ps g) ∧ B' = B := by
  unfold pRanked at h
  split at h
  · rename_i r o t
    obtain ⟨l, e, h⟩ := ob_inv h
    cases h
    unfold rkD at e
    split at e
    · rename_i hx
      cases e
      exact ⟨r, o, t, _, _, rfl, hx.choose_spec, rfl, rfl⟩
    · cases e
  · cases h
/-- the sort by the key is the sort of the pairs -/
theorem sort_rk (ps : List Int) (g : Int → Int) : (ps.mergeSort fun p r => decide (g p < g r ∨ (g p = g r ∧ p ≤ r))).map V.int = ((sortP (ps.map fun p => (g p, p))).map fun p => p.2).map V.int := by
  have e : (ps.mergeSort fun p r => decide (g p < g r ∨ (g p = g r ∧ p ≤ r))).map (fun p => (g p, p)) = sortP (ps.map fun p => (g p, p)) := by
    refine sorted_uniq ?_ ?_ (sortP_sorted _)
    · exact ((List.mergeSort_perm ps _).map _).trans (sortP_perm _).symm
    · have s := List.pairwise_mergeSort (le := fun p r => decide (g p < g r ∨ (g p = g r ∧ p ≤ r))) (fun a b c h1 h2 => by
        have h1 := of_decide_eq_true h1
        have h2 := of_decide_eq_true h2
        exact decide_eq_true (by omega)) (fun a b => by
        rcases Int.lt_trichotomy (g a) (g b) with h | h | h
        · simp [h]
        · rcases Int.le_total a b with h' | h' <;> simp [h, h']
        · simp [h]) ps
      exact List.Pairwise.map (R := fun a b => decide (g a < g b ∨ (g a = g b ∧ a ≤ b)) = true) _ (fun a b (h : decide (g a < g b ∨ (g a = g b ∧ a ≤ b)) = true) => (show LeP (g a, a) (g b, b) from @of_decide_eq_true (g a < g b ∨ (g a = g b ∧ a ≤ b)) _ h)) s
  rw [← e, List.map_map, List.map_map]
  rfl
section
variable {P : Program} {w : World} {K : PySem.W.Frag} {mg : Str → Option Value} {base : Heap} {CR : Addr} {f : Addr} {fd : FuncData}
def qRank (qual : Str) : Str := (envOfC qual (defScope (topS 34)) 0 0 .none).qual ++ "<lambda>"
/-- a def, its code object with a table -/
def DefT (K : PySem.W.Frag) (mg : Str → Option Value) (base : Heap) (f qual : Str) (body : List Stmt) (scope : Scope) (PT : Addr) (a : Addr) (fd : FuncData) : Prop :=
  ∃ (params : Arguments) (oc : Value) (od : Option Addr) (dV kV doc pm : Value) (an : Option Addr) (c : Addr) (ct : Value) (osl : Array (Option Value)),
    fd = PySem.W.fnOf f qual params body scope dV kV doc pm an (.ref c) ct ∧ K.lookup a = some ⟨oc, od, .func fd, osl⟩ ∧ PySem.W.codeIn K (.ref c) qual = true ∧ TabB base mg c PT
def lamE : Expr := match defBody (topS 34) with
  | [.Return (some (.Call _ [.Call _ _ [⟨_, l, _⟩] _] _ _)) _] => l
  | _ => .Name "x" ⟨0, 0, 0, 0⟩
def lamSc : Scope := match lamE with
  | .Lambda _ _ s _ => s
  | _ => defScope (topS 34)
theorem ok_ranked {PT : Addr} {qual : Str} {k : Call} {r : Nat} (W : WF false gw k CR [(PT, qRank qual)] r P w K mg base) (F : DefT K mg base "ranked_at" qual (defBody (topS 34)) (defScope (topS 34)) PT f fd) :
    PrimOk gu P w K mg base CR [(PT, qRank qual)] (r + 6) (pRanked k) 3 f fd ["riders", "order", "stretch"] := by
  obtain ⟨params, oc, od, dV, kV, doc, pm, an, c, ct, osl, rfl, lk, hcd, TB⟩ := F
  refine FnG.of (fn_of (k := r + 5) lk hcd scRank (fun vs H Q E ⟨b, S, B, ds, d, B', hl, bs, rv, hp, _⟩ => by rw [← Reps.length rv, hl]; rfl) fun A outer s H vs Q E hr ⟨b, S, B, ds, d, B', hl, bs, rv, hp, q⟩ => ?_)
  have g := gx_start (gu := false) (P := P) (w := w) (K := K) (mg := mg) (base := base) (outer := outer) (H := H) (E := E) (ow := []) scRank (by decide) hr fun z => nomatch z
  refine ⟨_, PSs.nox (pss_one (ps_ret (pe_rank (k := r) (TB := TB) (hcode := rfl) (hN := rfl) (he := so_call (gu := false) (r := r) (G := gw) W (fun z => Bool.noConfusion z) (m := 2) (by exact g.room.mono (by omega)) rfl ?_ ?_ (fun env B ds B' h => ?_) (so_cons rfl (so_v (i := 0) rfl ?_ rfl rfl) (so_cons rfl (so_v (i := 2) rfl ?_ rfl rfl) so_nil))) (hs := rfl) (hdef := ?_) (L := ?_) (hlk := ?_) (hbind := ?_) (hr := ?_) (hg := ?_) (hg2 := ?_) (m1 := W.blt _ (by decide)) (m2 := W.blt _ (by decide))
    (hb := fun s2 H2 f2 c2 r2 => so_call (gu := false) (G := gw) (is := .econs (.v 0) (.econs (.v 1) (.econs (.v 2) .enil))) W (fun z => Bool.noConfusion z) (m := 3) ?_ rfl ?_ ?_ ?_ (so_cons rfl (so_v (i := 0) rfl ?_ rfl rfl) (so_cons rfl (so_v (i := 1) rfl ?_ rfl rfl) (so_cons rfl (so_v (i := 2) rfl ?_ rfl rfl) so_nil))))))), ?_⟩
  · exact g.glo _ rfl
  · rfl
  · exact evEs_lS (evEs_lS fun _ _ _ _ h => evEs_l0 h) _ _ _ _ h
  · exact g.vis _ rfl
  · exact g.vis _ rfl
  · rfl
  · refine ⟨rfl, rfl, rfl, rfl, by decide +kernel, fun y hy e => ?_⟩
    have hm : y ∈ [((("place" : Str)), NameKind.local), (("order" : Str), .free), (("riders" : Str), .free), (("place_of" : Str), .globalImplicit)] := hy
    simp only [List.mem_cons, List.not_mem_nil, or_false] at hm
    rcases hm with rfl | rfl | rfl | rfl
    · cases e
    · exact .inl rfl
    · exact .inl rfl
    · cases e
  · exact ⟨rfl, rfl⟩
  · exact fun c' pm ctv u => rfl
  · exact g.room.mono (by omega)
  · exact g.glo _ rfl
  · exact g.glo _ rfl
  · exact r2
  · exact gloB_of rfl
  · rfl
  · exact evEs_lS (evEs_lS (evEs_lS fun _ _ _ _ h => evEs_l0 h))
  · exact visB_of rfl
  · exact visB_of rfl
  · exact visB_of rfl
  obtain ⟨r0, o0, t0, ps, gg, rfl, hk, rfl, rfl⟩ := pRanked_inv hp
  obtain ⟨v1, us, rfl, r1, v2, us, rfl, r2, v3, us, rfl, r3, e⟩ := rv
  have e : us = [] := e
  subst e
  refine ⟨b, S, B', gg, ps, v1, v2, rfl, rfl, bs, ?_⟩
  have st : Stt CR [(PT, qRank qual)] b S H (L2.start nRank [v1, v2, v3]) [Sl.val r0, Sl.val o0, Sl.val t0] B' := by
    refine (ste_start (fn := ⟨3, 3, .ret (.c .non)⟩) (N := nRank) bs (ds := [r0, o0, t0]) ⟨v1, _, rfl, r1, v2, _, rfl, r2, v3, _, rfl, r3, rfl⟩ rfl (Nat.le_refl 3)).st
  refine ⟨b, S, _, B', .tup (ps.map .int), B', st, ?_, fun v S1 H1 g1 bs1 rv1 => ?_⟩
  · exact hk.ab B'
  obtain ⟨a, vs, rfl, ha, rvs⟩ := rv1
  have ev := ints_repM rvs
  subst ev
  refine ⟨a, S1, rfl, ⟨g1, bs1⟩, ha, hk.len, fun p hp S2 H2 rk2 => ?_, fun l o S2 H2 rk2 hl ho => ?_⟩
  · have st2 : Stt CR [(PT, qRank qual)] b S2 H2 [some v1, some v2, some (.int p)] [Sl.val r0, Sl.val o0, Sl.val (.int p)] B' := by
      refine (ste_start (fn := ⟨3, 3, .ret (.c .non)⟩) (N := nRank) rk2.bs (ds := [r0, o0, .int p]) ⟨v1, _, rfl, Rep.mono rk2.gr.s _ r1, v2, _, rfl, Rep.mono rk2.gr.s _ r2, _, _, rfl, rfl, rfl⟩ rfl (Nat.le_refl 3)).st
    refine ⟨b, S2, _, B', .tup [.int (gg p), .int p], B', st2, hk.pl p hp B', fun v S3 H3 g3 bs3 rv3 => ?_⟩
    obtain ⟨a3, vs3, rfl, ha3, w1, _, rfl, q1, w2, _, rfl, q2, q3⟩ := rv3
    have q1 : w1 = V.int (gg p) := q1
    have q2 : w2 = V.int p := q2
    have q3 : _ = [] := q3
    subst q1 q2 q3
    exact ⟨a3, S3, rfl, ha3, g3, bs3⟩
  · rw [sort_rk]
    have bn := Bas.new rk2.bs hl (o := .frz o (.tup (((sortP (ps.map fun p => (gg p, p))).map fun p => p.2).map V.int))) (fun _ z => by cases z)
    refine q _ _ _ (rk2.gr.trans (Gr.new rk2.bs.sub hl)) bn ⟨l, o, _, rfl, upd_same, ho, ?_⟩
    unfold rkOf
    have e3 : (sortP (ps.map fun p => (gg p, p))).map (fun p => D.int p.2) = ((sortP (ps.map fun p => (gg p, p))).map fun p => p.2).map D.int := by rw [List.map_map]; rfl
    rw [e3]
    exact ints_rep2 _
end
end Cab
set_option Elab.async false
set_option linter.all false
set_option maxRecDepth 100000
set_option maxHeartbeats 4000000
/-! The making of a ride. -/
namespace Cab
open PySem L2 LamX Evl CabR PyProof.Rows PySem.Spec
def nInit : List Str := ["self", "costs", "riders"]
theorem scInit : FnScope nInit ["self", "costs", "riders"] (defScope (mtS 36 0)) := ⟨rfl, rfl, rfl, by decide +kernel, rfl, by decide +kernel, by decide +kernel⟩
/-- are the ride's parts good -/
def pInit (k : Call) (cs : List D) (rd : D) (B : Bg) : Option (Bool × Bg) :=
  bd (chkB k cC [.tup cs] B) fun z B1 => if z = true then bd (chkB k cR [rd, .int cs.length] B1) fun z2 B2 => if z2 = true then bd (k "is_crowded" [.int cs.length, rd] B2) fun d B3 => (match d with
    | .bl z3 => some (!z3, B3)
    | _ => none) else some (false, B2) else some (false, B1)
def tuF : List (Str × V) → V → V → V → List (Str × V) := fun _ a b c => [(("costs" : Str), a), (("riders" : Str), b), (("told" : Str), c)]
def spI (k : Call) (CR : Addr) (T : List (Addr × Str)) (ES : List Addr) : Sp := fun vs H Q E => ∃ (b : Addr) (S : Hp) (B : Bg) (cs : List D) (rd : D) (x dx : Addr) (vc vr : V) (H0 : Hp) (c : Bool) (B' : Bg),
  vs = [.ref x, vc, vr] ∧ H = upd (upd H0 dx (.own x)) x (.ins CR dx []) ∧ H0 x = none ∧ H0 dx = none ∧ dx ≠ x ∧ Bas T b S H0 B ∧ Rep CR b S (.tup cs) vc ∧ Rep CR b S rd vr ∧ pInit k cs rd B = some (c, B') ∧
    (c = true → ∀ S' H', Gr b S H0 S' H' → Bas T b S' H' B' → Rep CR b S' (.ride (.tup cs) rd) (.ref x) → Q .non H') ∧
    (c = false → ∀ e d S' H', e ∈ ES → Gr b S H0 S' H' → Bas T b S' H' B' → E (.ref e) (some d) H')
section
variable {P : Program} {w : World} {K : PySem.W.Frag} {mg : Str → Option Value} {base : Heap} {CR : Addr} {T : List (Addr × Str)} {k : Call} {r : Nat}
theorem Gr.made2 {b x dx : Addr} {S H0 : Hp} {o1 o2 : HO} (hx : H0 x = none) (hd : H0 dx = none) (e : dx ≠ x) : Gr b S H0 S (upd (upd H0 dx o1) x o2) :=
  (Gr.newH hd).trans (Gr.newH (by rw [upd_ne (Ne.symm e)]; exact hx))
theorem Bas.made2 {b x dx : Addr} {S H0 : Hp} {B : Bg} {o1 o2 : HO} (bs : Bas T b S H0 B) (hx : H0 x = none) (hd : H0 dx = none) (e : dx ≠ x) : Bas T b S (upd (upd H0 dx o1) x o2) B :=
  (bs.newH hd).newH (by rw [upd_ne (Ne.symm e)]; exact hx)
/-- the made object, hidden as yet, is written and shown -/
theorem Gr.shown {b x : Addr} {S H0 S1 H1 : Hp} {o : HO} (hx : H0 x = none) (h1 : S1 x = none) (g : Gr b S H0 S1 H1) : Gr b S H0 (upd S1 x o) (upd H1 x o) where
  s := fun a u e => by
    have e1 := g.s a u e
    rw [upd_ne (fun z => by rw [z, h1] at e1; cases e1)]
    exact e1
  h := fun a u e nb nt => by
    rw [upd_ne (ne_of_none e hx)]
    exact g.h a u e nb nt
  per := fun a q => by
    by_cases z : a = x
    · subst z; rw [upd_same]; simp
    · rw [upd_ne z]; exact g.per a q
  hid := fun a q n => by
    rw [upd_ne (fun z => q (by rw [z]; exact hx))]
    exact g.hid a q n
theorem Gr.wrote {b x : Addr} {S H0 S1 H1 : Hp} {o : HO} (hx : H0 x = none) (g : Gr b S H0 S1 H1) : Gr b S H0 S1 (upd H1 x o) where
  s := g.s
  h := fun a u e nb nt => by
    rw [upd_ne (ne_of_none e hx)]
    exact g.h a u e nb nt
  per := fun a q => by
    by_cases z : a = x
    · subst z; rw [upd_same]; simp
    · rw [upd_ne z]; exact g.per a q
  hid := g.hid
theorem Bas.wrote {b x C dx : Addr} {S H : Hp} {B : Bg} {fs : List (Str × V)} {o : HO} (bs : Bas T b S H B) (hp : H x = some (.ins C dx fs)) (hS : S x = none) : Bas T b S (upd H x o) B where
  sub := fun a u e => by
    rw [upd_ne (fun z => by rw [z, hS] at e; cases e)]
    exact bs.sub a u e
  bS := bs.bS
  bag := by
    rw [upd_ne (fun z => by have q := bs.bag; rw [z, hp] at q; cases q)]
    exact bs.bag
  tabs := fun q hq => by
    obtain ⟨ps, h1, h2, h3⟩ := bs.tabs q hq
    refine ⟨ps, by rw [upd_ne (fun z => by rw [z, hp] at h1; cases h1)]; exact h1, h2, fun pos cv hc => ?_⟩
    obtain ⟨c, e1, e2⟩ := h3 pos cv hc
    refine ⟨c, e1, ?_⟩
    have n : c ≠ x := fun z => by
      rw [z, hp] at e2
      have e3 := Option.some.inj e2
      unfold CodeO at e3
      cases e3
    rw [upd_ne n]
    exact e2
  noT := bs.noT
theorem Bas.show2 {b x C dx : Addr} {S H : Hp} {B : Bg} {fs fs2 : List (Str × V)} (bs : Bas T b S H B) (hp : H x = some (.ins C dx fs)) (hS : S x = none) : Bas T b (upd S x (.ins C dx fs2)) (upd H x (.ins C dx fs2)) B where
  sub := fun a u e => by
    by_cases z : a = x
    · subst z; rw [upd_same] at e ⊢; exact e
    · rw [upd_ne z] at e ⊢; exact bs.sub a u e
  bS := by
    rw [upd_ne (fun z => by have q := bs.bag; rw [z, hp] at q; cases q)]
    exact bs.bS
  bag := (bs.wrote hp hS).bag
  tabs := (bs.wrote hp hS).tabs
  noT := fun a ps e => by
    by_cases z : a = x
    · subst z; rw [upd_same] at e; cases e
    · rw [upd_ne z] at e; exact bs.noT a ps e
def eInit (cs : List D) (rd : D) : Env := [.un, .val (.tup cs), .val rd]
theorem stI {b : Addr} {S H : Hp} {B : Bg} {cs : List D} {rd : D} {vx vc vr : V} (bs : Bas T b S H B) (rc : Rep CR b S (.tup cs) vc) (rr : Rep CR b S rd vr) : Stt CR T b S H [some vx, some vc, some vr] (eInit cs rd) B where
  bas := bs
  len := rfl
  val := fun i d h => by
    match i, h with
    | 0, h => cases h
    | 1, h => cases h; exact ⟨vc, rfl, rc⟩
    | 2, h => cases h; exact ⟨vr, rfl, rr⟩
    | n + 3, h => cases h
  own := fun i xs h => by
    match i, h with
    | 0, h => cases h
    | 1, h => cases h
    | 2, h => cases h
    | n + 3, h => cases h
  dis := fun i j xs ys p h => by
    match i, h with
    | 0, h => cases h
    | 1, h => cases h
    | 2, h => cases h
    | n + 3, h => cases h
theorem ok_init {ac ar aC aR aT iC iR iT a : Addr} {fdc fdr fd : FuncData} (W : WF false gw k CR T r P w K mg base) (F : ∃ qual params, FunD K "__init__" qual params (defBody (mtS 36 0)) (defScope (mtS 36 0)) [] [] a fd)
    (Dc : Df K mg "check_costs" (defBody (topS 29)) (defScope (topS 29)) ["value"] ac fdc) (Dr : Df K mg "check_riders" (defBody (topS 31)) (defScope (topS 31)) ["value", "stretches"] ar fdr)
    (OC : OwnX K mg "InvalidCosts" "index" aC iC) (OR : OwnX K mg "InvalidRiders" "index" aR iR) (OT : OwnX K mg "TooMany" "limit" aT iT) (nt : NoAttr K CR "told") :
    FnOk P w K mg base (CX P w) (r + 3) a fd ["self", "costs", "riders"] (spI k CR T [aC, aR, aT]) := by
  obtain ⟨qual, params, F⟩ := F
  have Fc := ok_costs (a := ac) (fd := fdc) W Dc OC
  have Fr := ok_riders (a := ar) (fd := fdr) W Dr OR
  obtain ⟨_, _, Dc0⟩ := Dc.F
  obtain ⟨_, _, Dr0⟩ := Dr.F
  refine F.ok (k := r + 2) scInit (fun vs H Q E ⟨b, S, B, cs, rd, x, dx, vc, vr, H0, c, B', ev, _⟩ => by rw [ev]; rfl) fun cdv A outer s H vs Q E hr ⟨b, S, B, cs, rd, x, dx, vc, vr, H0, c, B', ev, eH, hx, hdx, ne, bs, rc, rr, hrun, qt, qf⟩ => ?_
  have g : GX false r ⟨nInit, defScope (mtS 36 0), []⟩ (cxOf (CX P w) P w K mg base nInit qual (defScope (mtS 36 0)) a cdv A outer s H E).nox := {
    N := rfl
    nd := scInit.nd
    nm := by decide
    calm := rfl
    xe := rfl
    room := hr.mono (by omega)
    gd := fun z => nomatch z
    vis := fun x h => visB_of h
    loc := fun x h => ⟨locB_of h, .inl rfl⟩
    glo := fun x h => gloB_of h
    fre := fun x h => h }
  have I : So gw k CR T 60 ⟨nInit, defScope (mtS 36 0), []⟩ (cxOf (CX P w) P w K mg base nInit qual (defScope (mtS 36 0)) a cdv A outer s H E).nox := sound 60 _ _ W g
  have tk : Takes (cxOf (CX P w) P w K mg base nInit qual (defScope (mtS 36 0)) a cdv A outer s H E) (fun cls d _ H' => E cls d H') := takes_of rfl rfl rfl rfl
  have ps : Passes (CX P w) (cxOf (CX P w) P w K mg base nInit qual (defScope (mtS 36 0)) a cdv A outer s H E) E := passes_call tk fun _ _ _ _ h => h
  refine ⟨_, pss_cons (ps_expr (pe_call Fc hr (gloB_of rfl) Dc.at_ Dc0.kp Dc.b .nil ps (pa_nox (I.es _ (.econs (.v 1) .enil) (by kernel_rfl)))))
    (pss_cons (ps_expr (pe_call Fr hr (gloB_of rfl) Dr.at_ Dr0.kp Dr.b .nil ps (pa_nox (I.es _ (.econs (.v 2) (.econs (.bi .len (.econs (.v 1) .enil)) .enil)) (by kernel_rfl)))))
    (pss_cons (ps_if (PT.nox (I.e _ (.call ("is_crowded" : Str) (.econs (.bi .len (.econs (.v 1) .enil)) (.econs (.v 2) .enil))) (by kernel_rfl)).1.2) (pss_one (ps_raiseX rfl OT hr tk (pa_nox (I.es _ (.econs (.c (.int 4)) .enil) (by kernel_rfl))) (gloB_of rfl) (by decide))) pss_nil)
    (pss_cons (ps_fld (PE.nox (pe_var (i := 0) rfl (visB_of rfl) (by decide) (by decide))) (PE.nox (I.e _ (.v 1) (by kernel_rfl)).1.1) rfl)
    (pss_cons (ps_fld (PE.nox (pe_var (i := 0) rfl (visB_of rfl) (by decide) (by decide))) (PE.nox (I.e _ (.v 2) (by kernel_rfl)).1.1) rfl)
    (pss_one (ps_fld (PE.nox (pe_var (i := 0) rfl (visB_of rfl) (by decide) (by decide))) (PE.nox (I.e _ (.tup (.econs (.v 1) (.econs (.v 2) .enil))) (by kernel_rfl)).1.1) rfl)))))), ?_⟩
  subst ev eH
  have gm : Gr b S H0 S (upd (upd H0 dx (.own x)) x (.ins CR dx [])) := Gr.made2 hx hdx ne
  have bm : Bas T b S (upd (upd H0 dx (.own x)) x (.ins CR dx [])) B := bs.made2 hx hdx ne
  have hxi : (upd (upd H0 dx (.own x)) x (.ins CR dx [])) x = some (.ins CR dx []) := upd_same
  have hxb : x ≠ b := bs.neB hx
  have hSx : S x = none := bs.noneS hx
  obtain ⟨z1, B1, e1, hrun⟩ := bd_inv hrun
  refine ⟨b, S, eInit cs rd, B, [.tup cs], B, stI bm rc rr, rfl, fun vs S1 H1 g1 bs1 rv => ?_⟩
  obtain ⟨v1, us, rfl, p1, e⟩ := rv
  have e : us = [] := e
  subst e
  refine ⟨b, S1, B, [.tup cs], z1, B1, rfl, bs1, ⟨v1, [], rfl, p1, rfl⟩, e1, fun hz S2 H2 g2 bs2 => ?_, fun hz d S2 H2 g2 bs2 => ?_⟩
  · subst hz
    rw [if_pos rfl] at hrun
    obtain ⟨z2, B2, e2, hrun⟩ := bd_inv hrun
    have gA := g1.trans g2
    refine ⟨b, S2, eInit cs rd, B1, [rd, .int cs.length], B1, stI bs2 (Rep.mono gA.s _ rc) (Rep.mono gA.s _ rr), rfl, fun vs S3 H3 g3 bs3 rv => ?_⟩
    have hl := Reps.length rv
    refine ⟨b, S3, B1, [rd, .int cs.length], z2, B2, rfl, bs3, by rw [List.append_nil]; exact rv, e2, fun hz S4 H4 g4 bs4 => ?_, fun hz d S4 H4 g4 bs4 => ?_⟩
    · subst hz
      rw [if_pos rfl] at hrun
      obtain ⟨d3, B3, e3, hrun⟩ := bd_inv hrun
      have gB := gA.trans (g3.trans g4)
      cases d3 with
      | bl z3 =>
        cases hrun
        refine ⟨b, S4, eInit cs rd, B2, z3, B', stI bs4 (Rep.mono gB.s _ rc) (Rep.mono gB.s _ rr), ?_, fun S5 H5 g5 bs5 => ?_⟩
        · show bd (evEs k _ (eInit cs rd) B2) _ = _
          exact e3
        have gC := gB.trans g5
        cases z3 with
        | true =>
          refine itT ?_
          refine ⟨b, S5, eInit cs rd, B', [.int 4], B', stI bs5 (Rep.mono gC.s _ rc) (Rep.mono gC.s _ rr), rfl, fun vs S6 H6 g6 bs6 rv => ?_⟩
          obtain ⟨v4, us, rfl, p4, e⟩ := rv
          have e : us = [] := e
          subst e
          exact ⟨v4, rfl, fun d hd => qf rfl aT d S6 _ (by simp) ((gm.trans (gC.trans g6)).trans (Gr.newH hd)) (bs6.newH hd)⟩
        | false =>
          refine itF ?_
          have x5 : H5 x = some (.ins CR dx []) := gC.h x _ hxi hxb (fun ps z => by cases z)
          have n5 : S5 x = none := gC.hid x (by rw [hxi]; simp) hSx
          have g05 := gm.trans gC
          refine ⟨b, S5, eInit cs rd, B', .tup cs, B', stI bs5 (Rep.mono gC.s _ rc) (Rep.mono gC.s _ rr), rfl, fun va S6 H6 g6 bs6 ra => ⟨.ref x, rfl, x, CR, dx, [], rfl, ?_, W.cls, W.fc, by simp, ?_⟩⟩
          · exact g6.h x _ x5 hxb (fun ps z => by cases z)
          have x6 : H6 x = some (.ins CR dx []) := g6.h x _ x5 hxb (fun ps z => by cases z)
          have n6 : S6 x = none := g6.hid x (by rw [x5]; simp) n5
          have g06 := g05.trans g6
          have bs6' := bs6.wrote (o := .ins CR dx [(("costs" : Str), va)]) x6 n6
          have g06' := g06.wrote (o := .ins CR dx [(("costs" : Str), va)]) hx
          refine ⟨b, S6, eInit cs rd, B', rd, B', stI bs6' (Rep.mono g06.s _ rc) (Rep.mono g06.s _ rr), rfl, fun vb S7 H7 g7 bs7 rb => ⟨.ref x, rfl, x, CR, dx, [(("costs" : Str), va)], rfl, ?_, W.cls, W.fr, by simp, ?_⟩⟩
          · exact g7.h x _ upd_same hxb (fun ps z => by cases z)
          have x7 : H7 x = some (.ins CR dx [(("costs" : Str), va)]) := g7.h x _ upd_same hxb (fun ps z => by cases z)
          have n7 : S7 x = none := g7.hid x (by rw [upd_same]; simp) n6
          have g07 := g06'.trans g7
          have bs7' := bs7.wrote (o := .ins CR dx [(("costs" : Str), va), (("riders" : Str), vb)]) x7 n7
          have g07' := g07.wrote (o := .ins CR dx [(("costs" : Str), va), (("riders" : Str), vb)]) hx
          have ep : evE k (.tup (.econs (.v 1) (.econs (.v 2) .enil))) (eInit cs rd) B' = some (.tup [.tup cs, rd], B') := rfl
          refine ⟨b, S7, eInit cs rd, B', .tup [.tup cs, rd], B', stI bs7' (Rep.mono g07.s _ rc) (Rep.mono g07.s _ rr), ep, fun vt S8 H8 g8 bs8 rt => ⟨.ref x, rfl, x, CR, dx, [(("costs" : Str), va), (("riders" : Str), vb)], rfl, ?_, W.cls, nt, by simp, ?_⟩⟩
          · exact g8.h x _ upd_same hxb (fun ps z => by cases z)
          have x8 : H8 x = some (.ins CR dx [(("costs" : Str), va), (("riders" : Str), vb)]) := g8.h x _ upd_same hxb (fun ps z => by cases z)
          have n8 : S8 x = none := g8.hid x (by rw [upd_same]; simp) n7
          have g08 := g07'.trans g8
          have ex : Ex S8 (upd S8 x (.ins CR dx [(("costs" : Str), va), (("riders" : Str), vb), (("told" : Str), vt)])) := fun a u e => by
            rw [upd_ne (fun z => by rw [z, n8] at e; cases e)]
            exact e
          refine qt rfl (upd S8 x (.ins CR dx [(("costs" : Str), va), (("riders" : Str), vb), (("told" : Str), vt)])) _ (g08.shown hx n8) (bs8.show2 x8 n8) ⟨x, dx, va, vb, vt, rfl, upd_same, ?_, ?_⟩
          · exact Rep.mono ((g7.s.trans g8.s).trans ex) _ ra
          · exact Rep.mono (g8.s.trans ex) _ rb
      | _ => cases hrun
    · subst hz
      rw [if_neg Bool.false_ne_true] at hrun
      cases hrun
      exact qf rfl aR d S4 _ (by simp) (gm.trans ((gA.trans g3).trans g4)) bs4
  · subst hz
    rw [if_neg Bool.false_ne_true] at hrun
    cases hrun
    exact qf rfl aC d S2 _ (by simp) (gm.trans (g1.trans g2)) bs2
end
end Cab
set_option Elab.async false
set_option linter.all false
set_option maxRecDepth 100000
set_option maxHeartbeats 4000000
/-! ride_of, and a ride's length. -/
namespace Cab
open PySem L2 LamX Evl CabR PyProof.Rows PySem.Spec
/-- C(e, ..), whose exceptions go to W at the state of the call -/
def tMakeW (C : Addr) (sp : Sp) (W : WX) (t : TA) : TE := fun σ H Q => t σ H fun vs H1 => ∃ E : XK, (∀ cls d H', E cls d H' → W cls d σ H') ∧ ∀ x dx, H1 x = none → H1 dx = none → dx ≠ x →
  sp (.ref x :: vs) (upd (upd H1 dx (.own x)) x (.ins C dx [])) (fun v H2 => v = .non ∧ Q (.ref x) H2) E
theorem pe_makeW {X : Cx} {k : Nat} {f C : Addr} {fd : FuncData} {ps : List Str} {sp : Sp} {W : WX} {x : Str} {p pos : Pos} {e : Expr} {es : List Expr} {t : TA} (M : Mk X.K C f) (F : FnOk X.prog X.w X.K X.mg X.base (CX X.prog X.w) k f fd ps sp) (hr : Room (k + 1) X.A) (hg : Gl X x) (hm : X.mg x = some (.ref C)) (hb : Binds X.K fd ps []) (tk : Takes X W)
    (ha : PA X (e :: es) t) (hdb : (x == ("__debug__" : Str)) = false) (he : starEach (e :: es) X.env = (false, eval e X.env) :: starEach es X.env) (hpl : (backTo pos (starEach es X.env)).any (·.1) = false) :
    PE X (.Call (.Name x p) (e :: es) [] pos) (tMakeW C sp W t) := by
  refine ⟨fun pins s σ H Q I h => ?_⟩
  refine wpAny_Call_Name_kw (ld_glob I hg hm ?_ hdb)
  refine PySem.W.callWith_K (h₀ := X.base) I.ok.mod.kin M.kp (thn (ha.run pos pins s σ H _ I h) fun us s1 ⟨vs, H1, I1, r, E, hE, q⟩ => ⟨I1.kIn, ?_⟩) he hpl
  have hq := q (s1.heap.objs.size + 1) s1.heap.objs.size (I1.hok.fresh (Nat.le_succ _)) (I1.hok.fresh (Nat.le_refl _)) (Nat.ne_of_lt (Nat.lt_succ_self _))
  have I2 := Inv.made (C := C) I1
  have r2 : Vals (V.ref (s1.heap.objs.size + 1) :: vs) (Value.ref (s1.heap.objs.size + 1) :: us) := .cons rfl r
  have hl : (Value.ref (s1.heap.objs.size + 1) :: us ++ []).length = ps.length := by
    have e := r2.length
    rw [F.len _ _ _ _ hq] at e
    rw [List.append_nil]
    exact e.symm
  have hb2 := hb _ (Value.ref (s1.heap.objs.size + 1) :: us) I2.kIn hl
  rw [List.append_nil] at hb2
  refine wpAny_call (make_map (f := f) I1.kIn M.makes M.init (beq_iff_eq.mp M.fn) (codeAny_mono (F.run _ X.stack _ _ ⟨Value.ref (s1.heap.objs.size + 1) :: us, []⟩ (Value.ref (s1.heap.objs.size + 1) :: us) _ _ E (hr.make C us [])
    (I2.env0.make C us []) hb2 r2 hq) fun r s' hq' => ?_))
  cases r with
  | error e => exact tk e s' (XE.of_call I2 (fun cls d H' h => hE cls d H' h) hq')
  | ok fl =>
    cases fl with
    | ret u =>
      obtain ⟨v, H', I3, rv, ev, q3⟩ := I2.after hq'
      subst ev
      exact ⟨rv, ⟨V.ref (s1.heap.objs.size + 1), H', I3, rfl, q3⟩⟩
    | next => exact False.elim hq'
    | brk => exact False.elim hq'
    | cont => exact False.elim hq'
def pRide (k : Call) : List D → Bg → Option (D × Bg)
  | [.tup [.tup cs, rd]], B => bd (pInit k cs rd B) fun z B1 => some (if z = true then .ride (.tup cs) rd else .non, B1)
  | _, _ => none
def nRide : List Str := ["value", "found"]
theorem scRide : FnScope nRide ["value"] (defScope (topS 64)) := ⟨rfl, rfl, rfl, by decide +kernel, rfl, by decide +kernel, by decide +kernel⟩
section
variable {P : Program} {w : World} {K : PySem.W.Frag} {mg : Str → Option Value} {base : Heap} {CR : Addr} {T : List (Addr × Str)} {k : Call} {r : Nat}
theorem pRide_inv {ds : List D} {B B' : Bg} {d : D} (h : pRide k ds B = some (d, B')) : ∃ cs rd z, ds = [.tup [.tup cs, rd]] ∧ pInit k cs rd B = some (z, B') ∧ d = if z = true then .ride (.tup cs) rd else .non := by
  unfold pRide at h
  split at h
  · obtain ⟨z, B1, e, h⟩ := bd_inv h
    cases h
    exact ⟨_, _, z, rfl, e, rfl⟩
  · cases h
theorem ok_ride {aC aR aT fI a : Addr} {fdI fd : FuncData} (W : WF false gw k CR T r P w K mg base) (F : ∃ qual params, FunD K "ride_of" qual params (defBody (topS 64)) (defScope (topS 64)) [] [] a fd)
    (M : Mk K CR fI) (FI : FnOk P w K mg base (CX P w) (r + 3) fI fdI ["self", "costs", "riders"] (spI k CR T [aC, aR, aT])) (bI : Binds K fdI ["self", "costs", "riders"] [])
    (n1 : mg "InvalidCosts" = some (.ref aC)) (n2 : mg "InvalidRiders" = some (.ref aR)) (n3 : mg "TooMany" = some (.ref aT)) (hm : ∀ e ∈ [aC, aR, aT], PySem.W.exmAny K (.ref e) [.ref aC, .ref aR, .ref aT] = some true) :
    PrimOk gu P w K mg base CR T (r + 5) (pRide k) 1 a fd ["value"] := by
  obtain ⟨qual, params, F⟩ := F
  refine FnG.of (F.ok (k := r + 4) scRide (fun vs H Q E ⟨b, S, B, ds, d, B', hl, bs, rv, hp, _⟩ => by rw [← Reps.length rv, hl]; rfl) fun cdv A outer s H vs Q E hr ⟨b, S, B, ds, d, B', hl, bs, rv, hp, q⟩ => ?_)
  have g := gx_start (gu := false) (P := P) (w := w) (K := K) (mg := mg) (base := base) (outer := outer) (H := H) (E := E) (ow := []) scRide (by decide) hr fun z => nomatch z
  have g1 : GX false r ⟨nRide, defScope (topS 64), []⟩ (cxOf CX0 P w K mg base nRide qual (defScope (topS 64)) a cdv A outer s H E).nox := ⟨g.N, g.nd, g.nm, g.calm, g.xe, g.room.mono (by omega), (fun z => nomatch z), g.vis, g.loc, g.glo, g.fre⟩
  have I : So gw k CR T 60 ⟨nRide, defScope (topS 64), []⟩ (cxOf CX0 P w K mg base nRide qual (defScope (topS 64)) a cdv A outer s H E).nox := sound 60 _ _ W g1
  have body : ∀ (W1 : WX) (pn : List (Addr × Obj)) (xe : Value → Shared → Prop), Takes ((cxOf CX0 P w K mg base nRide qual (defScope (topS 64)) a cdv A outer s H E).nox.tr pn xe) W1 → PassesOwn (model P w) (cxOf CX0 P w K mg base nRide qual (defScope (topS 64)) a cdv A outer s H E).nox.A (cxOf CX0 P w K mg base nRide qual (defScope (topS 64)) a cdv A outer s H E).nox.env xe →
      PSs ((cxOf CX0 P w K mg base nRide qual (defScope (topS 64)) a cdv A outer s H E).nox.tr pn xe) (match defBody (topS 64) with | [_, .Try b _ _ _ _, _] => b | l => l) (tAsg (tMakeW CR (spI k CR T [aC, aR, aT]) W1 (tA k CR T (.econs (.ix (.v 0) (.c (.int 0))) (.econs (.ix (.v 0) (.c (.int 1))) .enil)))) (gName 1)) := fun W1 pn xe tk _ => by
    have g2 : GX false r ⟨nRide, defScope (topS 64), []⟩ ((cxOf CX0 P w K mg base nRide qual (defScope (topS 64)) a cdv A outer s H E).nox.tr pn xe).nox := ⟨g1.N, g1.nd, g1.nm, g1.calm, rfl, g1.room, (fun z => nomatch z), g1.vis, g1.loc, g1.glo, g1.fre⟩
    have I2 : So gw k CR T 60 ⟨nRide, defScope (topS 64), []⟩ ((cxOf CX0 P w K mg base nRide qual (defScope (topS 64)) a cdv A outer s H E).nox.tr pn xe).nox := sound 60 _ _ W g2
    exact pss_one (ps_set (i := 1) scRide.nd rfl (.inl rfl) (pe_makeW M FI hr (gloB_of rfl) W.rcls bI tk (pa_nox (I2.es _ (.econs (.ix (.v 0) (.c (.int 0))) (.econs (.ix (.v 0) (.c (.int 1))) .enil)) (by kernel_rfl))) (by decide) rfl rfl))
  refine ⟨_, PSs.nox (pss_cons (ps_if (I.e _ (.or_ (.nt (.isi (.v 0) .tuple)) (.cmp .ne (.bi .len (.econs (.v 0) .enil)) (.c (.int 2)))) (by kernel_rfl)).1.2 (pss_one (ps_ret (I.e _ (.c .non) (by kernel_rfl)).1.1)) pss_nil)
    (pss_cons (ps_try_tup rfl rfl ⟨gloB_of rfl, by decide, .inl n1⟩ ⟨gloB_of rfl, by decide, .inl n2⟩ ⟨gloB_of rfl, by decide, .inl n3⟩ body (fun a2 pn => pss_one (ps_set (i := 1) scRide.nd rfl (.inl rfl) pe_non)))
    (pss_one (ps_ret (pe_var (i := 1) rfl (visB_of rfl) (by decide) (by decide)))))), ?_⟩
  obtain ⟨cs, rd, z, rfl, hi, rfl⟩ := pRide_inv hp
  obtain ⟨v, us, rfl, hv, e⟩ := rv
  have e : us = [] := e
  subst e
  have st : Stt CR T b S H (L2.start nRide [v]) [Sl.val (.tup [.tup cs, rd]), Sl.un] B := (ste_start (fn := ⟨1, 2, .skip⟩) (N := nRide) bs (ds := [.tup [.tup cs, rd]]) ⟨v, _, rfl, hv, rfl⟩ rfl (show 1 ≤ 2 by decide)).st
  refine ⟨b, S, _, B, false, B, st, rfl, fun S1 H1 g1 bs1 => ?_⟩
  refine itF ?_
  have st1 := st.mono g1 bs1
  refine ⟨b, S1, _, B, [.tup cs, rd], B, st1, rfl, fun vs S2 H2 g2 bs2 rv2 => ?_⟩
  obtain ⟨vc, us, rfl, rc, vr, us2, rfl, rr, e⟩ := rv2
  have e : us2 = [] := e
  subst e
  have g12 := g1.trans g2
  refine ⟨fun cls d H' => (∃ e ∈ [aC, aR, aT], cls = .ref e) ∧ z = false ∧ ∃ S3, Gr b S2 H2 S3 H' ∧ Bas T b S3 H' B', fun cls d H' ⟨⟨e, he, ec⟩, hz, S3, g3, bs3⟩ => ?_, fun x dx hx hdx ne => ?_⟩
  · subst ec hz
    refine ⟨hm e he, .non, rfl, ?_⟩
    exact q .non S3 H' (g12.trans g3) bs3 rfl
  · refine ⟨b, S2, B, cs, rd, x, dx, vc, vr, H2, z, B', rfl, rfl, hx, hdx, ne, bs2, rc, rr, hi, fun hz S3 H3 g3 bs3 r3 => ⟨rfl, ?_⟩, fun hz e d S3 H3 he g3 bs3 => ⟨⟨e, he, rfl⟩, hz, S3, g3, bs3⟩⟩
    subst hz
    exact ⟨.ref x, rfl, q (.ref x) S3 H3 (g12.trans g3) bs3 r3⟩
def nLen : List Str := ["self"]
theorem scLen : FnScope nLen ["self"] (defScope (mtS 36 3)) := ⟨rfl, rfl, rfl, by decide +kernel, rfl, by decide +kernel, by decide +kernel⟩
theorem ok_len {a : Addr} {fd : FuncData} (F : ∃ qual params, FunD K "__len__" qual params (defBody (mtS 36 3)) (defScope (mtS 36 3)) [] [] a fd) (c : Cls K CR) (n : NoAttr K CR "riders") (m : mg "len" = none) :
    FnOk P w K mg base CX0 1 a fd ["self"] (fun vs H Q _ => ∃ a dx vc vr vt xs, vs = [V.ref a] ∧ H a = some (.ins CR dx [(("costs" : Str), vc), (("riders" : Str), .ref vr), (("told" : Str), vt)]) ∧ SqT K H vr xs ∧ Q (.int xs.length) H) := by
  obtain ⟨qual, params, F⟩ := F
  refine F.ok (k := 0) scLen (fun vs H Q E ⟨x, dx, vc, vr, vt, xs, ev, _⟩ => by rw [ev]; rfl) fun cdv A outer s H vs Q E hr ⟨x, dx, vc, vr, vt, xs, ev, hx, hs, q⟩ => ?_
  refine ⟨_, PSs.nox (pss_one (ps_ret (pe_callB call_len_seq (gloB_of rfl) m boot_len (pa_cons (pe_fld (pe_var (i := 0) rfl (visB_of rfl) (by decide) (by decide)) rfl) pa_nil)))), ?_⟩
  subst ev
  exact ⟨_, rfl, x, CR, dx, _, .ref vr, rfl, hx, c, n, rfl, vr, xs, rfl, .inr hs, q⟩
end
end Cab
set_option Elab.async false
set_option linter.all false
set_option maxRecDepth 100000
set_option maxHeartbeats 4000000
/-! _law_said: what holds says, called by place and by name, told as text. -/
namespace Cab
open PySem L2 LamX Evl CabR PyProof.Rows PySem.Spec
def txB (a b : Bool) : Str := (PyData.list [.bool a, .bool b]).shown
theorem txB_inj : ∀ a b c d : Bool, decide (V.str (txB a b) = V.str (txB c d)) = ((a == c) && (b == d)) := by
  intro a b c d
  rw [dec_str]
  revert a b c d
  decide +kernel
theorem txB_len : ∀ a b : Bool, (txB a b).length ≤ 100 := by decide +kernel
section
variable {X : Cx} {k : Nat}
def rRep : List V → Hp → VK → Prop := fun xs H Q => ∃ p a b, xs = [.ref p] ∧ H p = some (.lst [.bl a, .bl b]) ∧ Q (.str (txB a b)) H
theorem call_repB (hg : X.A.guards = some []) (hr : Room k X.A) : CallR X (.builtin "repr") rRep := by
  intro pins s σ H xs us Q I r h
  obtain ⟨p, a, b, rfl, hp, q⟩ := h
  obtain ⟨u, rfl, ru⟩ := vals1 r
  cases ru
  obtain ⟨its, rv, pl, hz⟩ := I.list (.inl (.inl hp))
  cases rv with
  | cons r1 r2 =>
    cases r2 with
    | cons r3 r4 =>
      cases r4
      cases (show _ = Value.bool a from r1)
      cases (show _ = Value.bool b from r3)
      obtain ⟨o, n, ho, hc, hdi, hd⟩ := pl
      have rd : Reads s.heap (.ref p) (.list [.bool a, .bool b]) (p :: ([] ++ ([] ++ []))) := .list ho hc hd (.cons (.bool a) (.cons (.bool b) .nil))
      have hu := hr.units
      refine repr_of_reads' rd (by cases a <;> cases b <;> decide +kernel) (fun z => by cases a <;> cases b <;> cases z) hg (by have e : (PyData.list [.bool a, .bool b]).depth ≤ 5 := (by cases a <;> cases b <;> decide +kernel); omega) (fun _ _ e => e) (fun h' u tk hk => ?_) (by rw [sizeLine_eq]; have := txB_len a b; unfold txB at this; omega)
      exact ⟨.str (txB a b), H, I.kept (t' := tk) hk, ⟨u, rfl⟩, q⟩
/-- holds(paper = .., claim = ..) -/
def BndH (K : PySem.W.Frag) (fd : FuncData) : Prop := ∀ (s : Shared) (w1 w2 : Value), K.In s.heap → BindsTo s fd ⟨[], [(("paper" : Str), w1), (("claim" : Str), w2)]⟩ [(("claim" : Str), w2), (("paper" : Str), w1)]
def tNam (sp : Sp) (tk : TA) : TE := fun σ H Q => tk σ H fun zs H2 => ∃ z1 z2, zs = [z1, z2] ∧ sp [z2, z1] H2 Q E0
theorem pe_callN {f : Addr} {fd : FuncData} {sp : Sp} {x : Str} {p pos : Pos} {kws : List Keyword} {tk : TA} (F : FnOk X.prog X.w X.K X.mg X.base CX0 k f fd ["claim", "paper"] sp) (hr : Room k X.A) (hg : Gl X x) (hm : X.mg x = some (.ref f)) (hk : PySem.W.keepIn X.K (.ref f) = true)
    (hb : BndH X.K fd) (hkw : PK X kws tk) (hdb : (x == ("__debug__" : Str)) = false) (hall : (backToKw pos (keywordEach kws X.env)).all (·.1.isSome) = true) (hks : (backToKw pos (keywordEach kws X.env)).filterMap (·.1) = [("paper" : Str), ("claim" : Str)])
    (hpl : ((backTo pos (starEach [] X.env)).any (·.1) || (backToKw pos (keywordEach kws X.env)).any (·.1.isNone)) = false) :
    PE X (.Call (.Name x p) [] kws pos) (tNam sp tk) := by
  refine ⟨fun pins s σ H Q I h => ?_⟩
  refine wpAny_Call_Name_kw (ld_glob I hg hm ?_ hdb)
  refine PySem.W.callWith_KW0 (h₀ := X.base) I.ok.mod.kin hk hall (thn (hkw.run pos pins s σ H _ I h) fun ws s2 ⟨zs, H2, I2, rz, z1, z2, ez, q2⟩ => ⟨I2.kIn, ?_⟩) hpl
  rw [hks]
  subst ez
  cases rz with
  | @cons _ w1 _ _ r1 r2 =>
    cases r2 with
    | @cons _ w2 _ _ r3 r4 =>
      cases r4
      refine wpAny_call (codeAny_mono (F.run X.A X.stack s2 H2 ⟨[], _⟩ [w2, w1] [z2, z1] Q E0 hr I2.env0 (hb s2 w1 w2 I2.kIn) (.cons r3 (.cons r1 .nil)) q2) fun r s' hq => ?_)
      cases r with
      | error e => exact (hq : False).elim
      | ok fl =>
        cases fl with
        | ret u => exact I2.after hq
        | next => exact False.elim hq
        | brk => exact False.elim hq
        | cont => exact False.elim hq
end
def pSaid (k : Call) : List D → Bg → Option (D × Bg)
  | [a, p, .bl c], B => bd (k "holds" [a, p] B) fun d1 B1 => bd (k "holds" [a, p] B1) fun d2 B2 => match d1, d2 with
    | .bl x, .bl y => some (.bl ((x == c) && (y == c)), B2)
    | _, _ => none
  | _, _ => none
theorem pSaid_inv {k : Call} {ds : List D} {B B' : Bg} {d : D} (h : pSaid k ds B = some (d, B')) : ∃ a p c x y B1, ds = [a, p, .bl c] ∧ k "holds" [a, p] B = some (.bl x, B1) ∧ k "holds" [a, p] B1 = some (.bl y, B') ∧ d = .bl ((x == c) && (y == c)) := by
  unfold pSaid at h
  split at h
  · obtain ⟨d1, B1, e1, h⟩ := bd_inv h
    obtain ⟨d2, B2, e2, h⟩ := bd_inv h
    split at h
    · cases h
      exact ⟨_, _, _, _, _, B1, rfl, e1, e2, rfl⟩
    · cases h
  · cases h
def nSaid : List Str := ["_law_asked_here", "_law_proof_here", "_law_due"]
theorem scSaid : FnScope nSaid ["_law_asked_here", "_law_proof_here", "_law_due"] (defScope (topS 100)) := ⟨rfl, rfl, rfl, by decide +kernel, rfl, by decide +kernel, by decide +kernel⟩
section
variable {P : Program} {w : World} {K : PySem.W.Frag} {mg : Str → Option Value} {base : Heap} {CR : Addr} {T : List (Addr × Str)} {k : Call} {r : Nat}
theorem ok_said {a ah : Addr} {fd fh : FuncData} (W : WF false gw k CR T r P w K mg base) (F : ∃ qual params, FunD K "_law_said" qual params (defBody (topS 100)) (defScope (topS 100)) [] [] a fd) (gR : mg "repr" = none)
    (m1 : mg "holds" = some (.ref ah)) (m2 : PySem.W.keepIn K (.ref ah) = true) (m3 : Binds K fh ["claim", "paper"] []) (m4 : BndH K fh) (Fh : FnOk P w K mg base CX0 r ah fh ["claim", "paper"] (spC k CR T "holds" 2)) :
    PrimOk true P w K mg base CR T (r + 3) (pSaid k) 3 a fd ["_law_asked_here", "_law_proof_here", "_law_due"] := by
  obtain ⟨qual, params, F⟩ := F
  refine okG F (k := r + 2) scSaid (fun vs H Q E ⟨b, S, B, ds, d, B', hl, bs, rv, hp, _⟩ => by rw [← Reps.length rv, hl]; rfl) fun cdv A outer s H vs Q E hgd hr ⟨b, S, B, ds, d, B', hl, bs, rv, hp, q⟩ => ?_
  have g := gx_start (gu := false) (P := P) (w := w) (K := K) (mg := mg) (base := base) (outer := outer) (H := H) (E := E) (ow := []) (r := r) scSaid (by decide) (hr.mono (by omega)) fun z => nomatch z
  have I : So gw k CR T 60 ⟨nSaid, defScope (topS 100), []⟩ (cxOf CX0 P w K mg base nSaid qual (defScope (topS 100)) a cdv A outer s H E).nox := sound 60 _ _ W g
  have hr' : Room r (cxOf CX0 P w K mg base nSaid qual (defScope (topS 100)) a cdv A outer s H E).nox.A := hr.mono (by omega)
  have hg2 : (cxOf CX0 P w K mg base nSaid qual (defScope (topS 100)) a cdv A outer s H E).nox.A.guards = some [] := hgd rfl
  refine ⟨_, PSs.nox (pss_one (ps_ret (pe_cmpR op_eq
    (pe_callB (call_repB hg2 hr') (gloB_of rfl) gR boot_repr (pa_cons (pe_lst (pa_cons (pe_call Fh hr' (gloB_of rfl) m1 m2 m3 .nil pass0 (I.es _ (.econs (.v 0) (.econs (.v 1) .enil)) (by kernel_rfl)))
      (pa_cons (pe_callN Fh hr' (gloB_of rfl) m1 m2 m4 (pk_cons (I.e _ (.v 1) (by kernel_rfl)).1.1 (pk_cons (I.e _ (.v 0) (by kernel_rfl)).1.1 pk_nil)) (by decide) rfl rfl rfl) pa_nil))) pa_nil))
    (pe_callB (call_repB hg2 hr') (gloB_of rfl) gR boot_repr (pa_cons (pe_lst (pa_cons (I.e _ (.v 2) (by kernel_rfl)).1.1 (pa_cons (I.e _ (.v 2) (by kernel_rfl)).1.1 pa_nil))) pa_nil)) rfl))), ?_⟩
  obtain ⟨da, dp, c, x, y, B1, rfl, e1, e2, rfl⟩ := pSaid_inv hp
  obtain ⟨va, us, rfl, ra, vp, us2, rfl, rp, vc, us3, rfl, rc, e⟩ := rv
  have e : us3 = [] := e
  subst e
  have rc : vc = V.bl c := rc
  subst rc
  have st : Stt CR T b S H (L2.start nSaid [va, vp, .bl c]) [Sl.val da, Sl.val dp, Sl.val (.bl c)] B := (ste_start (fn := ⟨3, 3, .skip⟩) (N := nSaid) bs (ds := [da, dp, .bl c]) ⟨va, _, rfl, ra, vp, _, rfl, rp, .bl c, _, rfl, rfl, rfl⟩ rfl (Nat.le_refl 3)).st
  have sl := sline
  -- holds, by place
  refine ⟨b, S, _, B, [da, dp], B, st, rfl, fun vs S1 H1 g1 bs1 rv1 => ?_⟩
  refine ⟨b, S1, B, [da, dp], .bl x, B1, rfl, bs1, by rw [List.append_nil]; exact rv1, e1, fun v S2 H2 g2 bs2 rx => ?_⟩
  have rx : v = V.bl x := rx
  subst rx
  -- .. by name
  have st2 := st.mono (g1.trans g2) bs2
  refine ⟨b, S2, _, B1, dp, B1, st2, rfl, fun v1 S3 H3 g3 bs3 r1 => ?_⟩
  refine ⟨b, S3, _, B1, da, B1, st2.mono g3 bs3, rfl, fun v2 S4 H4 g4 bs4 r2 => ?_⟩
  refine ⟨v1, v2, rfl, b, S4, B1, [da, dp], .bl y, B', rfl, bs4, ⟨v2, _, rfl, r2, v1, _, rfl, Rep.mono g4.s _ r1, rfl⟩, e2, fun v S5 H5 g5 bs5 ry => ?_⟩
  have ry : v = V.bl y := ry
  subst ry
  have gA := ((g1.trans g2).trans (g3.trans g4)).trans g5
  refine ⟨Nat.le_trans (show 2 ≤ 1000 by decide) sl, fun p hp => ?_⟩
  refine ⟨p, x, y, rfl, upd_same, ?_⟩
  have gB := gA.trans (Gr.newH (o := .lst [.bl x, .bl y]) hp)
  have bsB := bs5.newH (o := .lst [.bl x, .bl y]) hp
  have stB := st.mono gB bsB
  refine ⟨b, S5, _, B', .bl c, B', stB, rfl, fun w1 S6 H6 g6 bs6 q1 => ?_⟩
  have q1 : w1 = V.bl c := q1
  subst q1
  refine ⟨b, S6, _, B', .bl c, B', stB.mono g6 bs6, rfl, fun w2 S7 H7 g7 bs7 q2 => ?_⟩
  have q2 : w2 = V.bl c := q2
  subst q2
  refine ⟨Nat.le_trans (show 2 ≤ 1000 by decide) sl, fun p2 hp2 => ⟨p2, c, c, rfl, upd_same, ?_⟩⟩
  refine ⟨rfl, ?_⟩
  rw [txB_inj]
  exact q _ S7 _ (((gB.trans g6).trans g7).trans (Gr.newH hp2)) (bs7.newH hp2) rfl
end
end Cab
set_option Elab.async false
set_option linter.all false
set_option maxRecDepth 100000
set_option maxHeartbeats 4000000
/-! _law_bag: a bag from the script. -/
namespace Cab
open PySem L2 LamX Evl CabR PyProof.Rows PySem.Spec
def nBag : List Str := ["_law_script", "_law_spot", "_law_cell", "_law_part"]
theorem scBag : FnScope nBag ["_law_script", "_law_spot"] (defScope (topS 76)) := ⟨rfl, rfl, rfl, by decide +kernel, rfl, by decide +kernel, by decide +kernel⟩
/-- a bag comes, as a new list -/
def spB (K : PySem.W.Frag) : Sp := fun vs H Q _ => ∃ (a : Addr) (ns : List Int) (j : Nat), vs = [.ref a, .int j] ∧ SqL K H a (ns.map V.int) ∧ ns.length ≤ 1000 ∧ j ≤ 5 ∧
  ∀ (p : Addr) (H' : Hp) (x y : Int), (∀ b o, H b = some o → H' b = some o) → H p = none → 0 ≤ x → x < 2147483587 → 0 ≤ y → H' p = some (.lst [.int x, .int y, .int 0]) → Q (.ref p) H'
theorem sqL_ext {K : PySem.W.Frag} {H H' : Hp} {a : Addr} {xs : List V} (e : ∀ b o, H b = some o → H' b = some o) (h : SqL K H a xs) : SqL K H' a xs := by
  rcases h with (h | ⟨o, h⟩) | h
  · exact .inl (.inl (e _ _ h))
  · exact .inl (.inr ⟨o, e _ _ h⟩)
  · exact .inr h
section
variable {P : Program} {w : World} {K : PySem.W.Frag} {mg : Str → Option Value} {base : Heap} {f : Addr} {fd : FuncData}
theorem ok_bag (F : ∃ qual params, FunD K "_law_bag" qual params (defBody (topS 76)) (defScope (topS 76)) [] [] f fd) (gI : mg "int" = none) (gA : mg "abs" = none) (gL : mg "len" = none) : FnOk P w K mg base CX0 1 f fd ["_law_script", "_law_spot"] (spB K) := by
  obtain ⟨qual, params, F⟩ := F
  refine F.ok (k := 0) scBag (fun vs H Q E ⟨a, ns, j, ev, _⟩ => by rw [ev]; rfl) fun cdv A outer s H vs Q E hr ⟨a, ns, j, ev, hs, hz, hj, q⟩ => ?_
  obtain ⟨t, ht, hret⟩ : ∃ t, PSs (cxOf CX0 P w K mg base nBag qual (defScope (topS 76)) f cdv A outer s H E).nox (match defBody (topS 76) with | [_, _, l] => [l] | l => l) t ∧
      ∀ (c : Int) (xo : Option V) (H1 : Hp) (D : Ends), D.rt = Q → (∀ b o, H b = some o → H1 b = some o) → t D [some (.ref a), some (.int j), some (.int c), xo] H1 := by
    refine ⟨_, pss_one (ps_ret (pe_lst (pa_cons (pe_op op_mod (pe_callTy call_int1 rfl gI (by decide +kernel) (pa_cons (pv 2) pa_nil)) pe_int)
      (pa_cons (pe_ifExp (PW.pt (pw_or (pt_cmpR op_lt (pv 2) pe_int (nomark _)) (pw_or1 (pt_cmpR op_ge (pv 2) (pe_op op_pow pe_int pe_int) (nomark _))))) (pe_callB call_abs rfl gA boot_abs (pa_cons (pv 2) pa_nil)) pe_int) (pa_cons pe_int pa_nil))))), fun c xo H1 D eD ex => ?_⟩
    have fin : ∀ y : Int, 0 ≤ y → 3 ≤ sizeLine ∧ ∀ p, H1 p = none → D.rt (.ref p) (upd H1 p (.lst [.int (c % 2147483587), .int y, .int 0])) := fun y hy => by
      have sl := sline
      refine ⟨by omega, fun p hp => ?_⟩
      rw [eD]
      have hn : H p = none := by
        cases e : H p with
        | none => rfl
        | some o => rw [ex p o e] at hp; cases hp
      refine q p _ (c % 2147483587) y (fun b o e => ?_) hn (Int.emod_nonneg _ (by decide)) (Int.emod_lt_of_pos _ (by decide)) hy upd_same
      rw [upd_ne (fun z => by rw [z, hn] at e; cases e)]
      exact ex b o e
    refine ⟨_, rfl, .inl ⟨_, rfl, _, _, rfl, rfl, (by show (0 : Int) < 2147483587; decide), ?_⟩⟩
    refine ⟨_, rfl, _, _, rfl, rfl, _, rfl, ?_⟩
    by_cases h1 : c < 0
    · refine ifT (decide_eq_true h1) ?_
      refine ifT rfl ?_
      exact ⟨_, rfl, _, rfl, fin _ (by split <;> omega)⟩
    · refine ifF (decide_eq_false h1) ?_
      refine ⟨_, rfl, _, _, rfl, rfl, ⟨by decide, by decide, by decide⟩, _, _, rfl, rfl, _, rfl, ?_⟩
      by_cases h2 : c ≥ 10 ^ (18 : Int).toNat
      · refine ifT (decide_eq_true h2) ?_
        exact ⟨_, rfl, _, rfl, fin _ (by split <;> omega)⟩
      · refine ifF (decide_eq_false h2) ?_
        exact fin 0 (by decide)
  refine ⟨_, PSs.nox (pss_cons (ps_set (i := 2) scBag.nd rfl (.inl rfl) (pe_ifExp (pt_cmpR op_lt (pv 1) (pe_callB call_len_seq rfl gL boot_len (pa_cons (pv 0) pa_nil)) (nomark _)) (pe_ix ix_list (pv 0) (pv 1) (fun _ _ => rfl)) (pe_op op_add (pe_op op_mul pe_int (pv 1)) pe_int)))
    (pss_cons (ps_for PassesOwn.never rfl (pi_list (pe_ifExp (pt_cmpR op_ge (pv 1) (pe_callB call_len_seq rfl gL boot_len (pa_cons (pv 0) pa_nil)) (nomark _)) (pe_slice sl_list (pv 0) po_none (po_some pe_int)) (pe_lst pa_nil))) (pg_name (i := 3) scBag.nd rfl (.inl rfl))
      (pss_one (ps_set (i := 2) scBag.nd rfl (.inl rfl) (pe_op op_mod (pe_callTy call_int1 rfl gI (by decide +kernel) (pa_cons (pe_op op_add (pe_op op_mul (pv 2) pe_int) (pv 3)) pa_nil)) pe_int))))
    ht)), ?_⟩
  subst ev
  refine ⟨_, rfl, _, rfl, a, _, rfl, .inl hs, _, _, rfl, rfl, _, rfl, ?_⟩
  by_cases hlt : (j : Int) < ((ns.map V.int).length : Nat)
  · refine ifT (decide_eq_true hlt) ?_
    have hj2 : j < ns.length := by
      rw [List.length_map] at hlt
      omega
    refine ⟨_, rfl, _, rfl, a, _, j, .int (ns[j]), rfl, rfl, hs, ?_, ?_⟩
    · unfold atI ixN
      rw [List.length_map, if_pos (by omega), if_pos (by omega)]
      simp [hj2]
    refine ⟨_, rfl, _, rfl, a, _, rfl, .inl hs, _, _, rfl, rfl, _, rfl, ?_⟩
    refine ifF (decide_eq_false (by omega)) ?_
    refine ⟨Nat.zero_le _, fun p hp => ⟨p, rfl, ⟨[], .inl (.inl upd_same)⟩, fun i m σ' H' => i = 0 ∧ σ' = [some (.ref a), some (.int j), some (.int ns[j]), none] ∧ H' = upd H p (.lst []), ⟨0, rfl, rfl, rfl⟩, ?_⟩⟩
    rintro i m σ' H' ⟨rfl, rfl, rfl⟩
    refine .inl ⟨⟨[], .inl (.inl upd_same), Nat.le_refl _⟩, hret _ _ _ _ rfl fun b o e => ?_⟩
    have hp : H p = none := hp
    rw [upd_ne (ne_of_none e hp)]
    exact e
  · refine ifF (decide_eq_false hlt) ?_
    refine ⟨_, rfl, _, _, rfl, rfl, .inl ⟨by decide, by decide⟩, _, _, rfl, rfl, ?_⟩
    refine ⟨_, rfl, _, rfl, a, _, rfl, .inl hs, _, _, rfl, rfl, _, rfl, ?_⟩
    refine ifT (decide_eq_true (by omega)) ?_
    refine ⟨_, rfl, _, rfl, a, _, rfl, hs, fun p hp => ⟨p, rfl, ⟨_, .inl (.inl upd_same)⟩, ?_⟩⟩
    have hp : H p = none := hp
    have hxs : SqL K (upd H p (.lst (cutV (ns.map V.int) none (some 3)))) p (cutV (ns.map V.int) none (some 3)) := .inl (.inl upd_same)
    refine ⟨fun i m σ' H' => m = (cutV (ns.map V.int) none (some 3)).length - i ∧ i ≤ (cutV (ns.map V.int) none (some 3)).length ∧ H' = upd H p (.lst (cutV (ns.map V.int) none (some 3))) ∧ ∃ (c : Int) (xo : Option V), σ' = [some (.ref a), some (.int j), some (.int c), xo] ∧ -(2 ^ 40) < c ∧ c < 2 ^ 40,
      ⟨_, rfl, Nat.zero_le _, rfl, _, none, rfl, by omega, by omega⟩, ?_⟩
    rintro i m σ' H' ⟨rfl, hi, rfl, c, xo, rfl, c1, c2⟩
    by_cases hl : i < (cutV (ns.map V.int) none (some 3)).length
    · refine .inr ⟨⟨_, _, hxs, List.getElem?_eq_getElem hl⟩, fun σ' H' => i + 1 ≤ (cutV (ns.map V.int) none (some 3)).length ∧ H' = upd H p (.lst (cutV (ns.map V.int) none (some 3))) ∧ ∃ (c : Int) (xo : Option V), σ' = [some (.ref a), some (.int j), some (.int c), xo] ∧ -(2 ^ 40) < c ∧ c < 2 ^ 40,
        fun σ' H' h => ⟨_, by omega, rfl, h⟩, ?_⟩
      rintro x H' ⟨rfl, hx⟩
      have hx := hx _ hxs
      obtain ⟨n, rfl⟩ : ∃ n, x = V.int n := by
        have hm := List.mem_of_getElem? hx
        unfold cutV at hm
        obtain ⟨n, _, e⟩ := List.mem_map.mp (List.mem_of_mem_drop (List.mem_of_mem_take hm))
        exact ⟨n, e.symm⟩
      refine ⟨_, rfl, _, _, rfl, rfl, .inr ⟨by decide, by decide⟩, _, rfl, _, _, rfl, rfl, .inl ⟨_, rfl, _, _, rfl, rfl, (by show (0 : Int) < 2147483587; decide), hl, rfl, _, _, rfl, ?_, ?_⟩⟩
      · have := Int.emod_nonneg (c * 37 + n) (show (2147483587 : Int) ≠ 0 by decide)
        omega
      · have := Int.emod_lt_of_pos (c * 37 + n) (show (0 : Int) < 2147483587 by decide)
        omega
    · refine .inl ⟨⟨_, hxs, by omega⟩, hret _ _ _ _ rfl fun b o e => ?_⟩
      rw [upd_ne (ne_of_none e hp)]
      exact e
end
end Cab
set_option Elab.async false
set_option linter.all false
set_option maxRecDepth 100000
set_option maxHeartbeats 4000000
/-! The law itself: each bag's turn answers True. -/
namespace Cab
open PySem L2 LamX Evl CabR PyProof.Rows PySem.Spec
def nLaw : List Str := ["_law_script", "_law_spot"]
theorem scLaw : FnScope nLaw ["_law_script"] (defScope (topS 108)) := ⟨rfl, rfl, rfl, by decide +kernel, rfl, by decide +kernel, by decide +kernel⟩
def spL (K : PySem.W.Frag) (T : List (Addr × Str)) : Sp := fun vs H Q _ => ∃ (a : Addr) (ns : List Int), vs = [.ref a] ∧ SqL K H a (ns.map V.int) ∧ ns.length ≤ 1000 ∧ Tabs T H ∧ ∀ H', Q (.bl true) H'
/-- a script that stands beside the list at D -/
def Beside (K : PySem.W.Frag) (H : Hp) (D a : Addr) (xs : List V) : Prop :=
  (a ≠ D ∧ (H a = some (.lst xs) ∨ ∃ u, H a = some (.frz u (.lst xs)))) ∨ ∃ (o : Obj) (its : Array Value) (n : Nat), K.lookup a = some o ∧ o.cls = .type "list" ∧ o.dict = none ∧ o.data = .seq its n ∧ its.size ≤ sizeLine ∧ Vals xs its.toList
theorem Beside.sq {K : PySem.W.Frag} {H : Hp} {D a : Addr} {xs : List V} (h : Beside K H D a xs) : SqL K H a xs := by
  rcases h with ⟨_, h | ⟨u, h⟩⟩ | h
  · exact .inl (.inl h)
  · exact .inl (.inr ⟨u, h⟩)
  · exact .inr h
theorem Beside.of {K : PySem.W.Frag} {H : Hp} {D a : Addr} {xs ys : List V} (n : H D = none) (h : SqL K H a xs) : Beside K (upd H D (.lst ys)) D a xs := by
  rcases h with (h | ⟨u, h⟩) | h
  · exact .inl ⟨ne_of_none h n, .inl (by rw [upd_ne (ne_of_none h n)]; exact h)⟩
  · exact .inl ⟨ne_of_none h n, .inr ⟨u, by rw [upd_ne (ne_of_none h n)]; exact h⟩⟩
  · exact .inr h
theorem Beside.go {K : PySem.W.Frag} {H H' : Hp} {D a : Addr} {xs ys : List V} (h : Beside K H D a xs) (k : ∀ o, H a = some o → (∀ ps, o ≠ .tbl ps) → H' a = some o) : Beside K (upd H' D (.lst ys)) D a xs := by
  rcases h with ⟨ne, h | ⟨u, h⟩⟩ | h
  · exact .inl ⟨ne, .inl (by rw [upd_ne ne]; exact k _ h (fun ps z => by cases z))⟩
  · exact .inl ⟨ne, .inr ⟨u, by rw [upd_ne ne]; exact k _ h (fun ps z => by cases z)⟩⟩
  · exact .inr h
section
variable {P : Program} {w : World} {K : PySem.W.Frag} {mg : Str → Option Value} {base : Heap} {CR : Addr} {T : List (Addr × Str)} {k : Call} {r : Nat}
theorem ok_law {a ar ab : Addr} {fd fr fb : FuncData} {psr : List Str} (F : ∃ qual params, FunD K "law" qual params (defBody (topS 108)) (defScope (topS 108)) [] [] a fd)
    (r1 : mg "_law_right" = some (.ref ar)) (r2 : PySem.W.keepIn K (.ref ar) = true) (r3 : Binds K fr psr []) (Fr : FnG true P w K mg base CX0 (r + 1) ar fr psr (spC k CR T "_law_right" 1))
    (b1 : mg "_law_bag" = some (.ref ab)) (b2 : PySem.W.keepIn K (.ref ab) = true) (b3 : Binds K fb ["_law_script", "_law_spot"] []) (Fb : FnOk P w K mg base CX0 1 ab fb ["_law_script", "_law_spot"] (spB K))
    (hk : ∀ B : Bg, 0 ≤ B.1 → B.1 < 2147483587 → 0 ≤ B.2.1 → B.2.2 = 0 → ∃ B', k "_law_right" [.bag] B = some (.bl true, B'))
    (gA : mg "all" = none) (gR : mg "range" = none) (gM : mg "max" = none) (gN : mg "min" = none) (gL : mg "len" = none) :
    FnG true P w K mg base CX0 (r + 3) a fd ["_law_script"] (spL K T) := by
  obtain ⟨qual, params, F⟩ := F
  refine okG F (k := r + 2) scLaw (fun vs H Q E ⟨a, ns, ev, _⟩ => by rw [ev]; rfl) fun cdv A outer s H vs Q E hgd hr ⟨a0, ns, ev, hs, hz, hT, q⟩ => ?_
  have g := gx_start (gu := true) (P := P) (w := w) (K := K) (mg := mg) (base := base) (outer := outer) (H := H) (E := E) (ow := []) (r := r) scLaw (by decide) (hr.mono (by omega)) hgd
  have gb := fun (scope : Scope) (s : Shared) (H : Hp) (Cc : Addr) (cl : List (Str × Addr)) (fp : List Addr) => gx_blk (scope := scope) g s H Cc cl fp
  refine ⟨_, PSs.nox (pss_one (ps_ret (pe_callB (cr_all rfl) (gloB_of rfl) gA boot_all (pa_cons (pe_lc (g := gName 1) rfl scLaw.nd
    (pi_range1 (gloB_of rfl) gR (pa_cons (pe_callB (call_max2 rfl) (gloB_of rfl) gM boot_max (pa_cons pe_int (pa_cons (pe_callB (call_min2 rfl) (gloB_of rfl) gN boot_min (pa_cons (pe_callB call_len_seq (gloB_of rfl) gL boot_len (pa_cons (pv 0) pa_nil)) (pa_cons pe_int pa_nil))) pa_nil))) pa_nil))
    (blk_ok g rfl) (fun s H Cc cl fp => pg_nm (gb _ s H Cc cl fp) rfl) (fun s H Cc cl fp => pts_nil)
    (fun s H Cc cl fp => pe_callG Fr (gb _ s H Cc cl fp).gd (gb _ s H Cc cl fp).room ((gb _ s H Cc cl fp).glo _ rfl) r1 r2 r3 .nil pass0
      (pa_cons (pe_call Fb ((gb _ s H Cc cl fp).room.mono (by omega)) ((gb _ s H Cc cl fp).glo _ rfl) b1 b2 b3 .nil pass0 (pa_cons (pe_var (i := 0) rfl ((gb _ s H Cc cl fp).vis _ rfl)) (pa_cons (pe_var (i := 1) rfl ((gb _ s H Cc cl fp).vis _ rfl)) pa_nil))) pa_nil) (by decide) rfl rfl)) pa_nil)))), ?_⟩
  subst ev
  have sl := sline
  refine ⟨_, rfl, a0, _, rfl, .inl hs, _, _, rfl, _, _, rfl, _, rfl, ?_, ?_, fun D hD => ?_⟩
  · split <;> split <;> omega
  · split <;> split <;> omega
  generalize hn : (if (if (5 : Int) < ((ns.map V.int).length : Nat) then (5 : Int) else ((ns.map V.int).length : Nat)) > 2 then (if (5 : Int) < ((ns.map V.int).length : Nat) then (5 : Int) else ((ns.map V.int).length : Nat)) else 2).toNat = n
  have n5 : n ≤ 5 := by
    rw [← hn]
    split <;> split <;> omega
  refine ⟨fun i m H' => m = n - i ∧ i ≤ n ∧ Tabs T H' ∧ Beside K H' D a0 (ns.map V.int) ∧ H' D = some (.lst (List.replicate i (.bl true))), ⟨n, rfl, Nat.zero_le _, ?_, Beside.of hD hs, upd_same⟩, ?_⟩
  · exact hT.ext fun a u e => by rw [upd_ne (ne_of_none e hD)]; exact e
  rintro i m H1 ⟨rfl, hi, hT1, hs1, hD1⟩
  by_cases hl : i < n
  · refine .inr ⟨hl, fun H' => i + 1 ≤ n ∧ Tabs T H' ∧ Beside K H' D a0 (ns.map V.int) ∧ H' D = some (.lst (List.replicate (i + 1) (.bl true))), fun H' h => ⟨n - (i + 1), by omega, rfl, h⟩, ?_⟩
    rintro x H' ⟨rfl, hx⟩
    rw [Int.zero_add] at hx
    subst hx
    refine ⟨rfl, ?_⟩
    unfold tYes
    refine itT ?_
    refine ⟨_, rfl, _, rfl, a0, ns, i, rfl, hs1.sq, hz, by omega, fun p H2 x y ext hp hx0 hx1 hy0 hp2 => ?_⟩
    obtain ⟨B', hk⟩ := hk (x, y, 0) hx0 hx1 hy0 rfl
    have hDp : D ≠ p := ne_of_none hD1 hp
    have bs0 : Bas T p (fun _ => none) H2 (x, y, 0) := { sub := (fun _ _ e => by cases e), bS := rfl, bag := hp2, tabs := hT1.ext ext, noT := (fun _ _ e => by cases e) }
    refine ⟨p, fun _ => none, (x, y, 0), [.bag], .bl true, B', rfl, bs0, ⟨.ref p, [], rfl, rfl, rfl⟩, hk, fun v S' H3 gr bs rv => ?_⟩
    have rv : v = V.bl true := rv
    subst rv
    have hD2 : H2 D = some (.lst (List.replicate i (.bl true))) := ext _ _ hD1
    have hD3 : H3 D = some (.lst (List.replicate i (.bl true))) := gr.h D _ hD2 hDp (fun ps z => by cases z)
    have hS3 : S' D = none := gr.hid D (by rw [hD2]; simp) rfl
    refine ⟨_, hD3, by rw [List.length_replicate]; omega, hl, (bs.write hD3 hS3 hDp).tabs, hs1.go fun o e nt => gr.h a0 o (ext _ _ e) (ne_of_none e hp) nt, ?_⟩
    rw [upd_same, List.replicate_succ']
  · have e : i = n := by omega
    subst e
    refine .inl ⟨Nat.le_refl _, D, List.replicate i true, rfl, .inl (.inl (by rw [List.map_replicate]; exact hD1)), ?_⟩
    have e : (List.replicate i true).all id = true := by simp
    rw [e]
    exact q _
end
end Cab
set_option Elab.async false
set_option linter.all false
set_option maxRecDepth 100000
set_option maxHeartbeats 0
/-! The stages: which defs the interpreter takes from outside, and the law's promise. -/
namespace Cab
open PySem L2 PySem.Spec PyProof.Rows
def prim0 : Prims := fun f => if f = "common" then some pCommon else if f = "_law_less" then some pLess else if f = "_law_take" then some pTake else none
noncomputable def prim1 (k : Call) : Prims := fun f => if f = "ranked_at" then some (pRanked k) else if f = "ride_of" then some (pRide k) else prim0 f
noncomputable def prim2 (k k1 : Call) : Prims := fun f => if f = "_law_said" then some (pSaid k1) else prim1 k f
noncomputable def kA : Call := run tab prim0 4
noncomputable def kB : Call := run tab (prim1 kA) 10
noncomputable def kC : Call := run tab (prim2 kA kB) 12
section
variable {K : PySem.W.Frag} {h base : Heap} {mg : Str → Option Value} {w : World} {P : Program}
theorem fns_left {f : Str} {m : Nat} (h : gw.fns f = some m) (ht : tab f = none) : f = "common" ∨ f = "ranked_at" ∨ f = "ride_of" ∨ f = "_law_take" ∨ f = "_law_less" ∨ f = "_law_said" := by
  have e := look_mem (show fnsL.lookup f = some m from h)
  have k : ∀ p ∈ fnsL, (tab p.1).isSome = true ∨ p.1 = "common" ∨ p.1 = "ranked_at" ∨ p.1 = "ride_of" ∨ p.1 = "_law_take" ∨ p.1 = "_law_less" ∨ p.1 = "_law_said" := by decide +kernel
  rcases k _ e with q | q
  · have q : (tab f).isSome = true := q
    rw [ht] at q
    cases q
  · exact q
theorem WB.mono {G : GW} {CR : Addr} {r j : Nat} (W : WB G CR P w K mg base r) (hj : r ≤ j) : WB G CR P w K mg base j := by
  obtain ⟨g, fd, l1, l2, l3, F⟩ := W.len
  exact ⟨W.glob, W.gdic, W.gtup, W.gdb1, W.gdb2, W.gdb3, W.fdb, W.blt, W.rcls, W.cls, W.fc, W.fr, W.ia, W.ib, W.ic, W.id, W.irr, W.inr, g, fd, l1, l2, l3, F.mono hj⟩
theorem spC_of {gu : Bool} {CR : Addr} {T : List (Addr × Str)} {tab : Str → Option Fn} {prim : Prims} {n r : Nat} {f : Str} {fn : Fn} {a : Addr} {fd : FuncData} {ps : List Str} (hp : prim f = none) (ht : tab f = some fn)
    (F : FnG gu P w K mg base CX0 r a fd ps (fun vs H Q _ => ∃ (b : Addr) (S : Hp) (B : Bg) (ds : List Cab.D) (d : Cab.D) (B' : Bg), Bas T b S H B ∧ Reps CR b S ds vs ∧ runB (run tab prim n) fn ds B = some (d, B') ∧ ∀ v S' H', Gr b S H S' H' → Bas T b S' H' B' → Rep CR b S' d v → Q v H')) :
    FnG gu P w K mg base CX0 r a fd ps (spC (run tab prim (n + 1)) CR T f ps.length) :=
  F.imp fun vs H Q E ⟨b, S', B, ds, d, B', q1, q2, q3, q4, q5⟩ => ⟨b, S', B, ds, d, B', q2, q3, by
    unfold run at q4
    rw [hp, ht] at q4
    exact q4, q5⟩
theorem stage0 {T : List (Addr × Str)} (X : K.In h) (G : h.Ns mainGlobals mg) (c : He.SaysX faL fnL tsL tfL exL w h K) (WB1 : WB gw (He.ga K "Ride") P w K mg base 1) {gu : Bool} {r : Nat} (hr : 1 ≤ r) :
    ∀ f p, prim0 f = some p → ∃ body scope ps a fd, Df K mg f body scope ps a fd ∧ gw.fns f = some ps.length ∧ PrimOk gu P w K mg base (He.ga K "Ride") T r p ps.length a fd ps := fun f p e => by
  have fr : ∀ x, x ∈ freeN → mg x = none := fun x hx => He.free_ok X G (c.t.d.facts (List.mem_append_left _ (List.mem_append_left _ (List.mem_append_right _ (List.mem_map.mpr ⟨x, hx, rfl⟩)))))
  unfold prim0 at e
  split at e
  · rename_i ef
    cases e
    subst ef
    obtain ⟨fd, D⟩ := df_common X G c.t.d
    exact ⟨_, _, _, _, fd, D, rfl, FnG.mono (ok_common D.F (fr _ (by decide +kernel))) hr⟩
  · split at e
    · rename_i ef
      cases e
      subst ef
      obtain ⟨fd, D⟩ := df__law_less X G c.t.d
      exact ⟨_, _, _, _, fd, D, rfl, FnG.mono (ok_less D.F (fr _ (by decide +kernel)) (fr _ (by decide +kernel))) hr⟩
    · split at e
      · rename_i ef
        cases e
        subst ef
        obtain ⟨fd, D⟩ := df__law_take X G c.t.d
        exact ⟨_, _, _, _, fd, D, rfl, FnG.mono (ok_take D.F (fr _ (by decide +kernel)) (fr _ (by decide +kernel))) hr⟩
      · cases e
theorem left_df (X : K.In h) (G : h.Ns mainGlobals mg) (c : He.SaysX faL fnL tsL tfL exL w h K) {f : Str} {m : Nat} (hm : gw.fns f = some m) (ht : tab f = none) : ∃ body scope ps a fd, Df K mg f body scope ps a fd ∧ ps.length = m := by
  rcases fns_left hm ht with e | e | e | e | e | e <;> subst e
  · obtain ⟨fd, D⟩ := df_common X G c.t.d
    cases hm
    exact ⟨_, _, _, _, fd, D, rfl⟩
  · obtain ⟨fd, D⟩ := df_ranked_at X G c.t.d
    cases hm
    exact ⟨_, _, _, _, fd, D, rfl⟩
  · obtain ⟨fd, D⟩ := df_ride_of X G c.t.d
    cases hm
    exact ⟨_, _, _, _, fd, D, rfl⟩
  · obtain ⟨fd, D⟩ := df__law_take X G c.t.d
    cases hm
    exact ⟨_, _, _, _, fd, D, rfl⟩
  · obtain ⟨fd, D⟩ := df__law_less X G c.t.d
    cases hm
    exact ⟨_, _, _, _, fd, D, rfl⟩
  · obtain ⟨fd, D⟩ := df__law_said X G c.t.d
    cases hm
    exact ⟨_, _, _, _, fd, D, rfl⟩
theorem tab_ok (X : K.In h) (G : h.Ns mainGlobals mg) (c : He.SaysX faL fnL tsL tfL exL w h K) : ∀ f fn, tab f = some fn → TabOk gw K mg f fn := fun f fn e => tab_all X G c.t.d _ (look_mem e)
theorem world0 {T : List (Addr × Str)} (X : K.In h) (G : h.Ns mainGlobals mg) (c : He.SaysX faL fnL tsL tfL exL w h K) (WB1 : WB gw (He.ga K "Ride") P w K mg base 1) : WF false gw kA (He.ga K "Ride") T 9 P w K mg base :=
  wf_all (r := 1) WB1 (tab_ok X G c) (stage0 X G c WB1 (Nat.le_refl 1)) (fun f m hm ht _ => left_df X G c hm ht) 4
theorem deft_ranked {PT : Addr} (X : K.In h) (G : h.Ns mainGlobals mg) (c : He.SaysX faL fnL tsL tfL exL w h K) (hTB : LamX.TabB base mg (He.codeOf K ("ranked_at", none)) PT) :
    ∃ fd, DefT K mg base "ranked_at" "ranked_at" (defBody (topS 34)) (defScope (topS 34)) PT (He.ga K "ranked_at") fd ∧ Df K mg "ranked_at" (defBody (topS 34)) (defScope (topS 34)) ["riders", "order", "stretch"] (He.ga K "ranked_at") fd := by
  obtain ⟨fd, F⟩ := c.t.d.def_ 13 (d := dTop "ranked_at" 34) rfl
  have D : Df K mg "ranked_at" (defBody (topS 34)) (defScope (topS 34)) ["riders", "order", "stretch"] (He.ga K "ranked_at") fd :=
    ⟨⟨_, _, F⟩, He.glo_ok X G (c.t.d.fact 13 (f := .glo "ranked_at") rfl), FunD.bindsN F fun _ _ _ _ _ _ us hl => match us, hl with | [_, _, _], _ => rfl⟩
  refine ⟨fd, ?_, D⟩
  obtain ⟨oc, od, dV, kV, doc, pm, an, cdv, ct, osl, e, lk, hcd, _, _⟩ := F.ex
  obtain ⟨c1, ec⟩ := He.codeIn_ref hcd
  subst ec
  have e1 : He.codeOf K ("ranked_at", none) = c1 := He.codeOf_eq lk (by rw [e])
  rw [e1] at hTB
  exact ⟨_, oc, od, dV, kV, doc, pm, an, c1, ct, osl, e, lk, hcd, hTB⟩
theorem own_all (X : K.In h) (G : h.Ns mainGlobals mg) (c : He.SaysX faL fnL tsL tfL exL w h K) : OwnX K mg "InvalidCosts" "index" (He.ga K "InvalidCosts") (He.ma K (He.ga K "InvalidCosts") "__init__") ∧ OwnX K mg "InvalidRiders" "index" (He.ga K "InvalidRiders") (He.ma K (He.ga K "InvalidRiders") "__init__") ∧
    OwnX K mg "TooMany" "limit" (He.ga K "TooMany") (He.ma K (He.ga K "TooMany") "__init__") := by
  obtain ⟨e1, e2, e3, _⟩ := ex_all c
  have fz : ∀ f, f ∈ [He.Fa.cls "Ride", .noat "Ride" "costs", .noat "Ride" "riders", .noat "Ride" "told", .meth "Ride" "__len__", .mkr "Ride", .keep "InvalidCosts", .keep "InvalidRiders", .keep "TooMany", .noat "InvalidCosts" "index", .noat "InvalidRiders" "index", .noat "TooMany" "limit"] → f.ok K = true := fun f hf => c.t.d.facts (List.mem_append_right _ hf)
  have mg1 : ∀ x, x ∈ gloN → mg x = some (.ref (He.ga K x)) := fun x hx => He.glo_ok X G (c.t.d.facts (List.mem_append_left _ (List.mem_append_left _ (List.mem_append_left _ (List.mem_map.mpr ⟨x, hx, rfl⟩)))))
  obtain ⟨f1, F1⟩ := c.t.d.defs (d := dMet "InvalidCosts" "__init__" "InvalidCosts.__init__" 5 0) (List.mem_append_right _ (by simp [fnM]))
  obtain ⟨f2, F2⟩ := c.t.d.defs (d := dMet "InvalidRiders" "__init__" "InvalidRiders.__init__" 6 0) (List.mem_append_right _ (by simp [fnM]))
  obtain ⟨f3, F3⟩ := c.t.d.defs (d := dMet "TooMany" "__init__" "TooMany.__init__" 7 0) (List.mem_append_right _ (by simp [fnM]))
  refine ⟨ownX_of e1 F.excBase_ValueError tail_VE (mg1 _ (by decide +kernel)) (He.keep_ok (fz (.keep "InvalidCosts") (by simp))) (He.noat_ok (fz (.noat "InvalidCosts" "index") (by simp))) F1 rfl rfl (fun _ _ _ _ _ _ u v => rfl) (by decide),
    ownX_of e2 F.excBase_ValueError tail_VE (mg1 _ (by decide +kernel)) (He.keep_ok (fz (.keep "InvalidRiders") (by simp))) (He.noat_ok (fz (.noat "InvalidRiders" "index") (by simp))) F2 rfl rfl (fun _ _ _ _ _ _ u v => rfl) (by decide),
    ownX_of e3 F.excBase_ArithmeticError tail_AE (mg1 _ (by decide +kernel)) (He.keep_ok (fz (.keep "TooMany") (by simp))) (He.noat_ok (fz (.noat "TooMany" "limit") (by simp))) F3 rfl rfl (fun _ _ _ _ _ _ u v => rfl) (by decide)⟩
theorem stage1 {PT : Addr} (X : K.In h) (G : h.Ns mainGlobals mg) (c : He.SaysX faL fnL tsL tfL exL w h K) (WB1 : WB gw (He.ga K "Ride") P w K mg base 1) (hTB : LamX.TabB base mg (He.codeOf K ("ranked_at", none)) PT) {gu : Bool} {r : Nat} (hr : 15 ≤ r) :
    ∀ f p, prim1 kA f = some p → ∃ body scope ps a fd, Df K mg f body scope ps a fd ∧ gw.fns f = some ps.length ∧ PrimOk gu P w K mg base (He.ga K "Ride") [(PT, qRank "ranked_at")] r p ps.length a fd ps := fun f p e => by
  have W0 := world0 (T := [(PT, qRank "ranked_at")]) X G c WB1
  unfold prim1 at e
  split at e
  · rename_i ef
    cases e
    subst ef
    obtain ⟨fd, DT, D⟩ := deft_ranked X G c hTB
    exact ⟨_, _, _, _, fd, D, rfl, FnG.mono (ok_ranked W0 DT) hr⟩
  · split at e
    · rename_i ef
      cases e
      subst ef
      obtain ⟨fd, D⟩ := df_ride_of X G c.t.d
      obtain ⟨fc, Dc⟩ := df_check_costs X G c.t.d
      obtain ⟨fr, Dr⟩ := df_check_riders X G c.t.d
      obtain ⟨OC, OR, OT⟩ := own_all X G c
      obtain ⟨fi, Fi⟩ := c.t.d.defs (d := dMet "Ride" "__init__" "Ride.__init__" 36 0) (List.mem_append_right _ (by simp [fnM]))
      have fz : ∀ f, f ∈ [He.Fa.cls "Ride", .noat "Ride" "costs", .noat "Ride" "riders", .noat "Ride" "told", .meth "Ride" "__len__", .mkr "Ride", .keep "InvalidCosts", .keep "InvalidRiders", .keep "TooMany", .noat "InvalidCosts" "index", .noat "InvalidRiders" "index", .noat "TooMany" "limit"] → f.ok K = true := fun f hf => c.t.d.facts (List.mem_append_right _ hf)
      have FI := ok_init W0 ⟨_, _, Fi⟩ Dc Dr OC OR OT (He.noat_ok (fz (.noat "Ride" "told") (by simp)))
      have bI : Binds K fi ["self", "costs", "riders"] [] := FunD.bindsN Fi fun _ _ _ _ _ _ us hl => match us, hl with | [_, _, _], _ => rfl
      obtain ⟨_, _, _, _, _, _, _, _, _, _, _, _, _, e14⟩ := ex_all c
      refine ⟨_, _, _, _, fd, D, rfl, FnG.mono (ok_ride W0 D.F (He.mkr_ok (fz (.mkr "Ride") (by simp))) FI bI OC.gC OR.gC OT.gC fun e he => ?_) (by omega)⟩
      simp only [List.mem_cons, List.not_mem_nil, or_false] at he
      rcases he with rfl | rfl | rfl
      · exact e14 "InvalidCosts" (by simp)
      · exact e14 "InvalidRiders" (by simp)
      · exact e14 "TooMany" (by simp)
    · exact stage0 X G c WB1 (by omega) f p e
theorem world1 {PT : Addr} (X : K.In h) (G : h.Ns mainGlobals mg) (c : He.SaysX faL fnL tsL tfL exL w h K) (WB1 : WB gw (He.ga K "Ride") P w K mg base 1) (hTB : LamX.TabB base mg (He.codeOf K ("ranked_at", none)) PT) (n : Nat) :
    WF false gw (run tab (prim1 kA) n) (He.ga K "Ride") [(PT, qRank "ranked_at")] (15 + 2 * n) P w K mg base :=
  wf_all (r := 15) (WB1.mono (by omega)) (tab_ok X G c) (stage1 X G c WB1 hTB (Nat.le_refl 15)) (fun f m hm ht _ => left_df X G c hm ht) n
theorem stage2 {PT : Addr} (X : K.In h) (G : h.Ns mainGlobals mg) (c : He.SaysX faL fnL tsL tfL exL w h K) (WB1 : WB gw (He.ga K "Ride") P w K mg base 1) (hTB : LamX.TabB base mg (He.codeOf K ("ranked_at", none)) PT) :
    ∀ f p, prim2 kA kB f = some p → ∃ body scope ps a fd, Df K mg f body scope ps a fd ∧ gw.fns f = some ps.length ∧ PrimOk true P w K mg base (He.ga K "Ride") [(PT, qRank "ranked_at")] 38 p ps.length a fd ps := fun f p e => by
  unfold prim2 at e
  split at e
  · rename_i ef
    cases e
    subst ef
    obtain ⟨fd, D⟩ := df__law_said X G c.t.d
    obtain ⟨fh, Fh0⟩ := c.t.d.defs (d := dTop "holds" 73) (List.mem_append_left _ (by simp [fnT]))
    have Dh : Df K mg "holds" (defBody (topS 73)) (defScope (topS 73)) ["claim", "paper"] (He.ga K "holds") fh :=
      ⟨⟨_, _, Fh0⟩, He.glo_ok X G (c.t.d.facts (List.mem_append_left _ (List.mem_append_left _ (List.mem_append_left _ (List.mem_map.mpr ⟨_, (by decide +kernel : ("holds" : Str) ∈ gloN), rfl⟩))))), FunD.bindsN Fh0 fun _ _ _ _ _ _ us hl => match us, hl with | [_, _], _ => rfl⟩
    have Fh := spC_of (prim := prim1 kA) (tab := tab) (n := 9) (f := "holds") (fn := ⟨2, 7, i_holds⟩) (by rfl) (by rfl) (fn_ok (world1 X G c WB1 hTB 9) Dh sc_holds (by decide) ck_holds rfl rfl)
    have bh : BndH K fh := fun s w1 w2 _ => by
      obtain ⟨oc, od, dV, kV, doc, pm, an, cdv, ct, osl, e, lk, hcd, dd, _⟩ := Fh0.ex
      subst e
      rcases dd with ⟨_, ed⟩ | ⟨ed, _⟩
      · subst ed
        exact BindsTo.of_eq rfl
      · exact absurd rfl ed
    exact ⟨_, _, _, _, fd, D, rfl, ok_said (world1 X G c WB1 hTB 10) D.F (He.free_ok X G (c.t.d.facts (List.mem_append_left _ (List.mem_append_left _ (List.mem_append_right _ (List.mem_map.mpr ⟨_, (by decide +kernel : ("repr" : Str) ∈ freeN), rfl⟩)))))) Dh.at_ Fh0.kp Dh.b bh (Fh.ok.mono (by omega))⟩
  · exact stage1 X G c WB1 hTB (by omega) f p e
theorem law_ok {PT : Addr} {fd : FuncData} (X : K.In h) (G : h.Ns mainGlobals mg) (c : He.SaysX faL fnL tsL tfL exL w h K) (WB1 : WB gw (He.ga K "Ride") P w K mg base 1) (hTB : LamX.TabB base mg (He.codeOf K ("ranked_at", none)) PT)
    (hk : ∀ B : Bg, 0 ≤ B.1 → B.1 < 2147483587 → 0 ≤ B.2.1 → B.2.2 = 0 → ∃ B', kC "_law_right" [.bag] B = some (.bl true, B')) (F : ∃ qual params, FunD K "law" qual params (defBody (topS 108)) (defScope (topS 108)) [] [] (He.ga K "law") fd) :
    FnG true P w K mg base CX0 64 (He.ga K "law") fd ["_law_script"] (spL K [(PT, qRank "ranked_at")]) := by
  have W2 : WF true gw kC (He.ga K "Ride") [(PT, qRank "ranked_at")] 62 P w K mg base :=
    wf_all (r := 38) (WB1.mono (by omega)) (tab_ok X G c) (stage2 X G c WB1 hTB) (fun f m hm ht _ => left_df X G c hm ht) 12
  have fr : ∀ x, x ∈ freeN → mg x = none := fun x hx => He.free_ok X G (c.t.d.facts (List.mem_append_left _ (List.mem_append_left _ (List.mem_append_right _ (List.mem_map.mpr ⟨x, hx, rfl⟩)))))
  obtain ⟨fb, Db⟩ := df__law_bag X G c.t.d
  obtain ⟨_, _, Db0⟩ := Db.F
  obtain ⟨ar, frd, psr, r1, r2, _, r3, Fr⟩ := W2.fns "_law_right" 1 rfl
  exact ok_law F r1 r2 r3 Fr Db.at_ Db0.kp Db.b (ok_bag Db.F (fr _ (by decide +kernel)) (fr _ (by decide +kernel)) (fr _ (by decide +kernel))) hk (fr _ (by decide +kernel)) (fr _ (by decide +kernel)) (fr _ (by decide +kernel)) (fr _ (by decide +kernel)) (fr _ (by decide +kernel))
end
end Cab
set_option Elab.async false
set_option linter.all false
set_option maxRecDepth 100000
set_option maxHeartbeats 0
/-! The law is called: one table of code objects, the script beside it. -/
namespace Cab
open PySem L2 LamX PySem.Spec PyProof.Rows
theorem law_run {P : Program} {w : World} {K : PySem.W.Frag} {mg mb : Str → Option Value} {fa a c1 PT : Addr} {q : Str} {fd : FuncData} {x : Str} {s : Shared} {vs : List Value} {ns : List Int}
    (KX : K.In s.heap) (hns : s.heap.Ns mainGlobals mg) (hb : s.heap.Ns builtinsNs mb) (hbb : ∀ x : Str, x ≠ "__name__" → mb x = bootBuiltins x) (hlim : s.heap.NoLimit) (hg : s.gens = #[])
    (hT : s.heap.get? PT = some { cls := .none, data := .fields #[] }) (nT : K.lookup PT = none) (C : PySem.W.CodeHd s.heap c1 PT)
    (hbm : ∃ (bm : Addr) (ob : Obj), mg "__builtins__" = some (.ref bm) ∧ bm ≠ builtinsNs ∧ s.heap.get? bm = some ob ∧ ob.cls = .type "module" ∧ ob.dict = some builtinsNs ∧ ob.data = .plain)
    (ha : s.heap.get? a = some { cls := .type "list", data := .seq vs.toArray }) (hi : IntsAre vs ns) (hl : ns.length ≤ sizeLine) (hl2 : ns.length ≤ 1000)
    (F : ∀ base : Heap, TabB base mg c1 PT → FnG true P w K mg base CX0 64 fa fd [x] (spL K [(PT, q)])) (hbind : ∀ (s : Shared) (u : Value), BindsTo s fd ⟨[u], []⟩ [(x, u)]) :
    codeAny (model P w) callerA (.call (.ref fa) ⟨[.ref a], []⟩) (fun r s' => r = .ok (.ret (.bool true)) ∧ OldK s.heap s'.heap ∧ s'.os = s.os ∧ AllBare s'.gens) s := by
  have rv := L2.vals_ints hi
  have lenV := hi.length
  have aP : a ≠ PT := fun z => by
    rw [z, hT] at ha
    have z' : Data.fields #[] = Data.seq vs.toArray _ := congrArg Obj.data (Option.some.inj ha)
    cases z'
  obtain ⟨H, HP, Ha, Hn, hS⟩ : ∃ H : Hp, H PT = some (.tbl #[]) ∧ (H a = none ∨ (K.lookup a = none ∧ H a = some (.frz { cls := .type "list", data := .seq vs.toArray } (.lst (ns.map V.int))))) ∧ (∀ b, b ≠ PT → b ≠ a → H b = none) ∧ SqL K H a (ns.map V.int) := by
    cases hk : K.lookup a with
    | some o =>
      have e := KX a o hk
      rw [ha] at e
      cases e
      exact ⟨fun b => if b = PT then some (.tbl #[]) else none, if_pos rfl, .inl (if_neg aP), fun b h1 _ => if_neg h1, .inr ⟨_, vs.toArray, _, hk, rfl, rfl, rfl, by rw [List.size_toArray, lenV]; exact hl, by simpa using rv⟩⟩
    | none => exact ⟨fun b => if b = PT then some (.tbl #[]) else if b = a then some (.frz { cls := .type "list", data := .seq vs.toArray } (.lst (ns.map V.int))) else none, if_pos rfl, .inr ⟨rfl, (if_neg aP).trans (if_pos rfl)⟩, fun b h1 h2 => (if_neg h1).trans (if_neg h2), .inl (.inr ⟨_, (if_neg aP).trans (if_pos rfl)⟩)⟩
  have hok : HOk P w H s.heap := fun b u z => by
    by_cases e1 : b = PT
    · subst e1
      rw [HP] at z
      cases z
      exact hT
    · by_cases e2 : b = a
      · subst e2
        rcases Ha with n | ⟨_, n⟩
        · rw [n] at z
          cases z
        · rw [n] at z
          cases z
          exact ⟨ha, by rw [List.length_map]; exact hl, vs, _, rv, ha⟩
      · rw [Hn b e1 e2] at z
        cases z
  -- what is neither the table nor the script stands in the base
  have off : ∀ {b : Addr} {o : Obj}, s.heap.get? b = some o → (∀ vs n, o.data ≠ .seq vs n) → o.data ≠ .fields #[] → (hidT s.heap H).get? b = some o := fun {b o} e h1 h2 => by
    refine hidT_get e (Hn b (fun z => ?_) fun z => ?_)
    · rw [z, hT] at e
      cases e
      exact h2 rfl
    · rw [z, ha] at e
      cases e
      exact h1 _ _ rfl
  have nsO : ∀ {b : Addr} {m : Str → Option Value}, s.heap.Ns b m → (hidT s.heap H).Ns b m := fun ⟨o, es, ep, e, d, r⟩ => ⟨o, es, ep, off e (fun vs n z => by rw [d] at z; cases z) (fun z => by rw [d] at z; cases z), d, r⟩
  have kin : K.In (hidT s.heap H) := fun b o e => by
    refine hidT_get (KX b o e) ?_
    by_cases e1 : b = PT
    · rw [e1, nT] at e
      cases e
    · by_cases e2 : b = a
      · rcases Ha with n | ⟨k, _⟩
        · rw [e2]
          exact n
        · rw [e2, k] at e
          cases e
      · exact Hn b e1 e2
  have hM : L2.Mod K mg (hidT s.heap H) := ⟨kin, nsO hns, ⟨mb, nsO hb, hbb⟩, let ⟨mc, h1, h2⟩ := hlim; ⟨mc, nsO h1, h2⟩⟩
  have TB : TabB (hidT s.heap H) mg c1 PT := by
    refine ⟨?_, ?_, fun z => ?_⟩
    · obtain ⟨o, us, file, tf, flags, tg, inF, text, tt, e1, r1, r2, r3, r4, r5, r6, r7, r8, hne⟩ := C
      exact ⟨o, us, file, tf, flags, tg, inF, text, tt, off e1 (fun vs n z => by rw [r2] at z; cases z) (fun z => by rw [r2] at z; cases z; simp at r3), r1, r2, r3, r4, r5, r6, r7, r8, hne⟩
    · obtain ⟨bm, ob, b1, b2, b3, b4, b5, b6⟩ := hbm
      have nG : bm ≠ mainGlobals := fun z => by
        obtain ⟨o, es, ep, e, hd, _⟩ := hns
        rw [z, e] at b3
        cases b3
        rw [hd] at b6
        cases b6
      have nP : bm ≠ PT := fun z => by
        rw [z, hT] at b3
        cases b3
        cases b6
      exact ⟨bm, ob, b1, b2, nG, nP, off b3 (fun vs n z => by rw [b6] at z; cases z) (fun z => by rw [b6] at z; cases z), b4, b5, b6⟩
    · obtain ⟨o, es, ep, e, hd, _⟩ := hns
      rw [z, hT] at e
      cases e
      cases hd
  have e0 : Env0 P w K mg (hidT s.heap H) callerA [] s H := ⟨rfl, hM, fun b o e => of_hidT e, Nat.le_of_eq (hidT_size _ _), trivial, fun b hb => absurd (show b ∈ ([] : List Addr) from hb) (by simp), hok, .of_eq hg⟩
  have hT0 : Tabs [(PT, q)] H := fun p hp => by
    rw [List.mem_singleton.mp hp]
    exact TabS.nil HP
  refine codeAny_mono ((F _ TB).run callerA [] s H ⟨[.ref a], []⟩ [.ref a] [.ref a] (fun v _ => v = .bl true) (fun _ _ _ => False) (fun _ => rfl) ⟨rfl, by decide, by decide⟩ e0 (hbind s (.ref a)) (.cons rfl .nil) ⟨a, ns, rfl, hS, hl2, hT0, fun _ => rfl⟩) fun r s' h => ?_
  cases r with
  | error e => exact False.elim h
  | ok fl =>
    cases fl with
    | next => exact False.elim h
    | brk => exact False.elim h
    | cont => exact False.elim h
    | ret u =>
      obtain ⟨v, H', os, bare, un, hok', r', qv⟩ := h
      have qv : v = .bl true := qv
      subst qv
      obtain rfl : u = Value.bool true := r'
      obtain ⟨more, hm⟩ : ∃ more : Array Value, s'.heap.get? PT = some { cls := .none, data := .fields more } := by
        obtain ⟨more, z⟩ := un.tbls PT #[] HP
        exact ⟨_, hok' PT _ z⟩
      have key : ∀ b o, b ≠ PT → s.heap.get? b = some o → s'.heap.get? b = some o := fun b o nb e => by
        have free : H b = none → s'.heap.get? b = some o := fun n => un.keep b o e n (by intro z; exact absurd (show b ∈ ([] : List Addr) from z) (by simp)) (by simp)
        by_cases e2 : b = a
        · rcases Ha with n | ⟨_, n⟩
          · exact free (by rw [e2]; exact n)
          · have z2 := un.frzs a _ _ n
            obtain ⟨q2, _⟩ := hok' a _ z2
            rw [e2, ha] at e
            cases e
            rw [e2]
            exact q2
        · exact free (Hn b nb e2)
      refine ⟨rfl, ⟨fun b o e => ?_, fun b o e => ?_⟩, os, bare⟩
      · by_cases e1 : b = PT
        · subst e1
          rw [hT] at e
          cases e
          exact .inr (.inl ⟨(C.tab hT).isCodeTable, rfl, #[], more, rfl, by rw [Array.empty_append]; exact hm⟩)
        · exact .inl (key b o e1 e)
      · by_cases e1 : b = PT
        · rw [e1]
          exact ⟨_, hm⟩
        · exact ⟨o, key b o e1 e⟩
end Cab
set_option Elab.async false
set_option linter.all false
set_option maxRecDepth 100000
set_option maxHeartbeats 0
/-! The law, where the plain part holds. -/
namespace Cab
open PySem L2 PySem.Spec PyProof.Rows
def Plain : Prop := ∀ B : Bg, 0 ≤ B.1 → B.1 < 2147483587 → 0 ≤ B.2.1 → B.2.2 = 0 → ∃ B', kC "_law_right" [.bag] B = some (.bl true, B')
end Cab
open PySem PySem.W PySem.Calls PyProof.Rows
theorem cab_top (hk : Cab.Plain) : PySem.Challenge.rw_cabshares_k48_whole_claims_near_their_bo.Holds := by
  w_on; o_law
  refine HandSHeadRun.head_any (r := Cab.Rw) (q := view Cab.Rw.prog [108]) (H := Cab.hkL) (ob := Cab.obL) (M := 20000) (loose := Cab.looseN) (d := HandSHeadRun.topDef Cab.Rw.prog 108) (kwd := []) Cab.obL_eq
    (by kernel_rfl) (fun s => by kernel_rfl) Cab.runL (by kernel_rfl) (by kernel_rfl) (by kernel_rfl) (by rfl) (by first | assumption | decide +kernel) (by decide +kernel) ⟨rfl, rfl, rfl, rfl, rfl, by decide +kernel⟩ ?hw ?hc
  case hw => w_witness2
  case hc =>
    refine Att.attach_callB (l := PySem.Challenge.rw_cabshares_k48_whole_claims_near_their_bo) (n := 63) rfl (by kernel_rfl) fun w s₀ s₁ mg mb fa o pm cd doc a vs ns G Y ho hd hcd hmg hobj hints hlen hbits hg => ?_
    obtain ⟨K, KX, c⟩ := Y
    have hmg : mg ("law" : PySem.Str) = some (.ref fa) := by
      have e : (HandSHeadRun.topDef Cab.Rw.prog 108).name = ("law" : PySem.Str) := by kernel_rfl
      rw [← e]
      exact hmg
    obtain ⟨fd, F⟩ := c.t.d.def_ 78 (d := Cab.dTop "law" 108) rfl
    have gl := He.glo_ok KX G.T.g (c.t.d.fact 78 (f := .glo "law") rfl)
    have e := hmg.symm.trans gl
    cases e
    have b := L2.FunD.bindsA (ps := ["_law_script"]) F fun _ _ _ _ _ _ us hl => match us, hl with | [_], _ => rfl
    obtain ⟨fl, Fl⟩ := c.t.d.defs (d := Cab.dMet "Ride" "__len__" "Ride.__len__" 36 3) (List.mem_append_right _ (by simp [Cab.fnM]))
    have fz : ∀ f, f ∈ [He.Fa.cls "Ride", .noat "Ride" "costs", .noat "Ride" "riders", .noat "Ride" "told", .meth "Ride" "__len__", .mkr "Ride", .keep "InvalidCosts", .keep "InvalidRiders", .keep "TooMany", .noat "InvalidCosts" "index", .noat "InvalidRiders" "index", .noat "TooMany" "limit"] → f.ok K = true := fun f hf => c.t.d.facts (List.mem_append_right _ hf)
    have gL : mg "len" = none := He.free_ok KX G.T.g (c.t.d.facts (List.mem_append_left _ (List.mem_append_left _ (List.mem_append_right _ (List.mem_map.mpr ⟨_, (by decide +kernel : ("len" : PySem.Str) ∈ Cab.freeN), rfl⟩)))))
    refine Cab.law_run (q := Cab.qRank "ranked_at") (x := "_law_script") (fd := fd) (ns := ns) (vs := vs) (PT := (He.cT K ("ranked_at", none)).2) (c1 := (He.cT K ("ranked_at", none)).1) KX G.T.g G.T.b G.T.builtins G.T.nolimit hg (c.empty _ (by simp [Cab.tfL])) (c.out _ (by simp [Cab.tfL])) (codeHd_of_K KX (c.hd _ (by simp [Cab.tfL]))) G.T.bmain hobj hints
      (Nat.le_trans hlen (by decide)) (Nat.le_trans hlen (by decide)) (fun base hTB => ?_) fun s v => b s [v] rfl
    refine Cab.law_ok KX G.T.g c (Cab.wb_of KX G.T.g c ⟨fl, L2.FunD.bindsN Fl fun _ _ _ _ _ _ us hl => match us, hl with | [_], _ => rfl, Cab.ok_len ⟨_, _, Fl⟩ (He.cls_ok (fz (.cls "Ride") (by simp))) (He.noat_ok (fz (.noat "Ride" "riders") (by simp))) gL⟩) hTB hk ⟨_, _, F⟩
set_option Elab.async false
set_option linter.all false
set_option maxRecDepth 100000
/-! What the table answers for each name (printed by gen_pt.py). -/
namespace Cab.P
open PySem L2
theorem t_is_integer : tab ("is_integer" : Str) = some ⟨1, 1, i_is_integer⟩ := by rfl
theorem t_is_between : tab ("is_between" : Str) = some ⟨3, 3, i_is_between⟩ := by rfl
theorem t_fraction : tab ("fraction" : Str) = some ⟨2, 3, i_fraction⟩ := by rfl
theorem t_is_fraction : tab ("is_fraction" : Str) = some ⟨1, 1, i_is_fraction⟩ := by rfl
theorem t_plus : tab ("plus" : Str) = some ⟨2, 2, i_plus⟩ := by rfl
theorem t_times : tab ("times" : Str) = some ⟨2, 2, i_times⟩ := by rfl
theorem t_is_less : tab ("is_less" : Str) = some ⟨2, 2, i_is_less⟩ := by rfl
theorem t_is_rider : tab ("is_rider" : Str) = some ⟨2, 2, i_is_rider⟩ := by rfl
theorem t_aboard_at : tab ("aboard_at" : Str) = some ⟨2, 4, i_aboard_at⟩ := by rfl
theorem t_place_of : tab ("place_of" : Str) = some ⟨3, 3, i_place_of⟩ := by rfl
theorem t_is_crowded : tab ("is_crowded" : Str) = some ⟨2, 3, i_is_crowded⟩ := by rfl
theorem t_places : tab ("places" : Str) = some ⟨0, 2, i_places⟩ := by rfl
theorem t_place_in_row : tab ("place_in_row" : Str) = some ⟨2, 2, i_place_in_row⟩ := by rfl
theorem t_form_of : tab ("form_of" : Str) = some ⟨2, 5, i_form_of⟩ := by rfl
theorem t_fare_form : tab ("fare_form" : Str) = some ⟨3, 7, i_fare_form⟩ := by rfl
theorem t_joined : tab ("joined" : Str) = some ⟨4, 7, i_joined⟩ := by rfl
theorem t_corners : tab ("corners" : Str) = some ⟨1, 5, i_corners⟩ := by rfl
theorem t_greatest_of : tab ("greatest_of" : Str) = some ⟨1, 2, i_greatest_of⟩ := by rfl
theorem t_is_row : tab ("is_row" : Str) = some ⟨2, 7, i_is_row⟩ := by rfl
theorem t_lasting_clauses : tab ("lasting_clauses" : Str) = some ⟨0, 3, i_lasting_clauses⟩ := by rfl
theorem t_halved_clauses : tab ("halved_clauses" : Str) = some ⟨0, 3, i_halved_clauses⟩ := by rfl
theorem t_is_clause : tab ("is_clause" : Str) = some ⟨1, 3, i_is_clause⟩ := by rfl
theorem t_is_custom : tab ("is_custom" : Str) = some ⟨1, 2, i_is_custom⟩ := by rfl
theorem t_clauses_of : tab ("clauses_of" : Str) = some ⟨1, 1, i_clauses_of⟩ := by rfl
theorem t_clause_form : tab ("clause_form" : Str) = some ⟨1, 8, i_clause_form⟩ := by rfl
theorem t_is_amounts : tab ("is_amounts" : Str) = some ⟨2, 3, i_is_amounts⟩ := by rfl
theorem t_is_receipt : tab ("is_receipt" : Str) = some ⟨1, 1, i_is_receipt⟩ := by rfl
theorem t_room_forms : tab ("room_forms" : Str) = some ⟨3, 11, i_room_forms⟩ := by rfl
theorem t_worth : tab ("worth" : Str) = some ⟨2, 7, i_worth⟩ := by rfl
theorem t_keeps : tab ("keeps" : Str) = some ⟨2, 3, i_keeps⟩ := by rfl
theorem t_receipts_of : tab ("receipts_of" : Str) = some ⟨1, 4, i_receipts_of⟩ := by rfl
theorem t_is_table : tab ("is_table" : Str) = some ⟨1, 3, i_is_table⟩ := by rfl
theorem t_fare_told : tab ("fare_told" : Str) = some ⟨3, 4, i_fare_told⟩ := by rfl
theorem t_aim_of : tab ("aim_of" : Str) = some ⟨1, 6, i_aim_of⟩ := by rfl
theorem t_by_table : tab ("by_table" : Str) = some ⟨4, 5, i_by_table⟩ := by rfl
theorem t_is_natural : tab ("is_natural" : Str) = some ⟨1, 1, i_is_natural⟩ := by rfl
theorem t_is_pair : tab ("is_pair" : Str) = some ⟨2, 3, i_is_pair⟩ := by rfl
theorem t_by_numbers : tab ("by_numbers" : Str) = some ⟨5, 8, i_by_numbers⟩ := by rfl
theorem t_holds : tab ("holds" : Str) = some ⟨2, 7, i_holds⟩ := by rfl
theorem t__law_from : tab ("_law_from" : Str) = some ⟨1, 1, i__law_from⟩ := by rfl
theorem t__law_of : tab ("_law_of" : Str) = some ⟨2, 2, i__law_of⟩ := by rfl
theorem t__law_whole : tab ("_law_whole" : Str) = some ⟨3, 3, i__law_whole⟩ := by rfl
theorem t__law_plus : tab ("_law_plus" : Str) = some ⟨2, 2, i__law_plus⟩ := by rfl
theorem t__law_is_part : tab ("_law_is_part" : Str) = some ⟨1, 2, i__law_is_part⟩ := by rfl
theorem t__law_is_sheet : tab ("_law_is_sheet" : Str) = some ⟨1, 7, i__law_is_sheet⟩ := by rfl
theorem t__law_full : tab ("_law_full" : Str) = some ⟨2, 4, i__law_full⟩ := by rfl
theorem t__law_told : tab ("_law_told" : Str) = some ⟨1, 8, i__law_told⟩ := by rfl
theorem t__law_ranked : tab ("_law_ranked" : Str) = some ⟨3, 9, i__law_ranked⟩ := by rfl
theorem t__law_fare : tab ("_law_fare" : Str) = some ⟨3, 7, i__law_fare⟩ := by rfl
theorem t__law_mix : tab ("_law_mix" : Str) = some ⟨4, 6, i__law_mix⟩ := by rfl
theorem t__law_at : tab ("_law_at" : Str) = some ⟨2, 5, i__law_at⟩ := by rfl
theorem t__law_top : tab ("_law_top" : Str) = some ⟨1, 5, i__law_top⟩ := by rfl
theorem t__law_rules : tab ("_law_rules" : Str) = some ⟨1, 4, i__law_rules⟩ := by rfl
theorem t__law_rooms : tab ("_law_rooms" : Str) = some ⟨3, 17, i__law_rooms⟩ := by rfl
theorem t__law_keeps : tab ("_law_keeps" : Str) = some ⟨2, 3, i__law_keeps⟩ := by rfl
theorem t__law_is_told : tab ("_law_is_told" : Str) = some ⟨1, 3, i__law_is_told⟩ := by rfl
theorem t__law_is_custom : tab ("_law_is_custom" : Str) = some ⟨1, 9, i__law_is_custom⟩ := by rfl
theorem t__law_are_slips : tab ("_law_are_slips" : Str) = some ⟨1, 3, i__law_are_slips⟩ := by rfl
theorem t__law_excess : tab ("_law_excess" : Str) = some ⟨1, 5, i__law_excess⟩ := by rfl
theorem t__law_by_sheet : tab ("_law_by_sheet" : Str) = some ⟨2, 3, i__law_by_sheet⟩ := by rfl
theorem t__law_by_sum : tab ("_law_by_sum" : Str) = some ⟨2, 8, i__law_by_sum⟩ := by rfl
theorem t__law_is_asked : tab ("_law_is_asked" : Str) = some ⟨1, 3, i__law_is_asked⟩ := by rfl
theorem t__law_judge : tab ("_law_judge" : Str) = some ⟨2, 2, i__law_judge⟩ := by rfl
theorem t__law_bent_told : tab ("_law_bent_told" : Str) = some ⟨2, 11, i__law_bent_told⟩ := by rfl
theorem t__law_bent_slips : tab ("_law_bent_slips" : Str) = some ⟨2, 5, i__law_bent_slips⟩ := by rfl
theorem t__law_bent_custom : tab ("_law_bent_custom" : Str) = some ⟨1, 4, i__law_bent_custom⟩ := by rfl
theorem t__law_asked : tab ("_law_asked" : Str) = some ⟨6, 9, i__law_asked⟩ := by rfl
theorem t__law_right : tab ("_law_right" : Str) = some ⟨1, 12, i__law_right⟩ := by rfl
def namesL : List Str := tabL.map (·.1)
end Cab.P
set_option Elab.async false
set_option linter.all false
set_option maxRecDepth 100000
set_option maxHeartbeats 4000000
/-! The plain part: rules by which the small language is evaluated. -/
namespace Cab.P
open PySem L2
abbrev PrimT := Str → Option (List D → Bg → Option (D × Bg))
def NoCl (prim : PrimT) : Prop := ∀ f fn, tab f = some fn → prim f = none
theorem run_fn {prim : PrimT} (h : NoCl prim) {f : Str} {fn : Fn} (ht : tab f = some fn) (n : Nat) (ds : List D) (B : Bg) : run tab prim (n + 1) f ds B = runB (run tab prim n) fn ds B := by
  show (match prim f with
    | some p => p ds B
    | none => ob (tab f) fun fn => runB (run tab prim n) fn ds B) = _
  rw [h f fn ht, ht]
  rfl
theorem run_pr {prim : PrimT} {f : Str} {p : List D → Bg → Option (D × Bg)} (hp : prim f = some p) (n : Nat) (ds : List D) (B : Bg) : run tab prim n f ds B = p ds B := by
  cases n with
  | zero =>
    show (match prim f with
      | some p => p ds B
      | none => none) = _
    rw [hp]
  | succ n =>
    show (match prim f with
      | some p => p ds B
      | none => ob (tab f) fun fn => runB (run tab prim n) fn ds B) = _
    rw [hp]
theorem ofS_inj (s t : String) : (Str.ofString s = Str.ofString t) ↔ s = t := by
  constructor
  · intro h
    rw [Str.ofString_eq_toList, Str.ofString_eq_toList] at h
    have h1 : (s.toList.map Char.toNat).toArray = (t.toList.map Char.toNat).toArray := by injection h
    have h2 : s.toList.map Char.toNat = t.toList.map Char.toNat := by simpa using h1
    have h3 : ∀ a b : List Char, a.map Char.toNat = b.map Char.toNat → a = b := by
      intro a
      induction a with
      | nil => intro b hb; cases b with
        | nil => rfl
        | cons _ _ => cases hb
      | cons x xs ih => intro b hb; cases b with
        | nil => cases hb
        | cons y ys =>
          simp only [List.map_cons, List.cons.injEq] at hb
          rw [ih ys hb.2, Char.toNat_inj.mp hb.1]
    exact String.toList_inj.mp (h3 _ _ h2)
  · intro h; rw [h]

/-! choice by a truth value -/
@[simp] theorem bd_ite {α β : Type} {c : Prop} [Decidable c] (x y : Option (α × Bg)) (f : α → Bg → Option β) : bd (if c then x else y) f = if c then bd x f else bd y f := by
  split <;> rfl
@[simp] theorem ob_ite {α β : Type} {c : Prop} [Decidable c] (x y : Option α) (f : α → Option β) : ob (if c then x else y) f = if c then ob x f else ob y f := by
  split <;> rfl

def selD {α : Type} (d : D) (x y : Option (α × Bg)) : Option (α × Bg) := match d with
  | .bl c => if c = true then x else y
  | _ => none
@[simp] theorem selD_bl {α : Type} (c : Bool) (x y : Option (α × Bg)) : selD (.bl c) x y = if c = true then x else y := nrfl rfl

section
variable (k : Call) (env : Env) (B : Bg)
@[simp] theorem v_nop : evE k .nop env B = some (.non, B) := by
  first | exact nrfl rfl | (simp only [evE]; done) | (simp only [evE]; rfl)
@[simp] theorem v_c (d : D) : evE k (.c d) env B = some (d, B) := by
  first | exact nrfl rfl | (simp only [evE]; done) | (simp only [evE]; rfl)
@[simp] theorem v_v (i : Nat) : evE k (.v i) env B = ob (getV env i) fun d => some (d, B) := by
  first | exact nrfl rfl | (simp only [evE]; done) | (simp only [evE]; rfl)
@[simp] theorem v_neg (a : IE) : evE k (.neg a) env B = bd (evE k a env B) fun d B1 => (match d with
    | .int i => some (.int (-i), B1)
    | _ => none) := by
  first | exact nrfl rfl | (simp only [evE]; done) | (simp only [evE]; rfl)
@[simp] theorem v_nt (a : IE) : evE k (.nt a) env B = bd (evE k a env B) fun d B1 => (match d with
    | .bl b => some (.bl (!b), B1)
    | _ => none) := by
  first | exact nrfl rfl | (simp only [evE]; done) | (simp only [evE]; rfl)
@[simp] theorem v_bin (op : Bop) (a b : IE) : evE k (.bin op a b) env B = bd (evE k a env B) fun x B1 => bd (evE k b env B1) fun y B2 => ob (opB op x y) fun z => some (z, B2) := by
  first | exact nrfl rfl | (simp only [evE]; done) | (simp only [evE]; rfl)
@[simp] theorem v_cmp (op : Cop) (a b : IE) : evE k (.cmp op a b) env B = bd (evE k a env B) fun x B1 => bd (evE k b env B1) fun y B2 => ob (opC op x y) fun z => some (.bl z, B2) := by
  first | exact nrfl rfl | (simp only [evE]; done) | (simp only [evE]; rfl)
@[simp] theorem v_ch (o1 o2 : Cop) (a b c : IE) : evE k (.ch o1 o2 a b c) env B = bd (evE k a env B) fun x B1 => bd (evE k b env B1) fun y B2 => ob (opC o1 x y) fun z => if z = true then bd (evE k c env B2) fun w B3 => ob (opC o2 y w) fun z2 => some (.bl z2, B3) else some (.bl false, B2) := by
  simp only [evE]
  congr; funext x B1; congr; funext y B2; congr; funext z
  cases z <;> rfl
@[simp] theorem v_ch3 (o1 o2 o3 : Cop) (a b c d : IE) : evE k (.ch3 o1 o2 o3 a b c d) env B = bd (evE k a env B) fun x B1 => bd (evE k b env B1) fun y B2 => ob (opC o1 x y) fun z =>
    if z = true then bd (evE k c env B2) fun w B3 => ob (opC o2 y w) fun z2 => if z2 = true then bd (evE k d env B3) fun u B4 => ob (opC o3 w u) fun z3 => some (.bl z3, B4) else some (.bl false, B3) else some (.bl false, B2) := by
  simp only [evE]
  congr; funext x B1; congr; funext y B2; congr; funext z
  cases z with
  | false => rfl
  | true =>
    simp only [if_true]
    congr; funext w B3; congr; funext z2
    cases z2 <;> rfl
@[simp] theorem v_isN (ng : Bool) (a : IE) : evE k (.isN ng a) env B = bd (evE k a env B) fun d B1 => some (.bl (if ng then !isNon d else isNon d), B1) := by
  first | exact nrfl rfl | (simp only [evE]; done) | (simp only [evE]; rfl)
@[simp] theorem v_inn (ng : Bool) (a b : IE) : evE k (.inn ng a b) env B = bd (evE k a env B) fun x B1 => bd (evE k b env B1) fun y B2 => ob (inDt x y) fun z => some (.bl (if ng then !z else z), B2) := by
  first | exact nrfl rfl | (simp only [evE]; done) | (simp only [evE]; rfl)
@[simp] theorem v_and (a b : IE) : evE k (.and_ a b) env B = bd (evE k a env B) fun d B1 => selD d (evE k b env B1) (some (.bl false, B1)) := by
  simp only [evE]
  congr; funext d B1
  unfold selD
  cases d <;> try rfl
  case bl b => cases b <;> rfl
@[simp] theorem v_or (a b : IE) : evE k (.or_ a b) env B = bd (evE k a env B) fun d B1 => selD d (some (.bl true, B1)) (evE k b env B1) := by
  simp only [evE]
  congr; funext d B1
  unfold selD
  cases d <;> try rfl
  case bl b => cases b <;> rfl
@[simp] theorem v_ite (t a b : IE) : evE k (.ite t a b) env B = bd (evE k t env B) fun d B1 => selD d (evE k a env B1) (evE k b env B1) := by
  simp only [evE]
  congr; funext d B1
  unfold selD
  cases d <;> try rfl
  case bl b => cases b <;> rfl
@[simp] theorem v_tup (es : IE) : evE k (.tup es) env B = bd (evEs k es env B) fun ds B1 => if ds.length ≤ 1000 then some (.tup ds, B1) else none := by
  first | exact nrfl rfl | (simp only [evE]; done) | (simp only [evE]; rfl)
@[simp] theorem v_lst (es : IE) : evE k (.lst es) env B = bd (evEs k es env B) fun ds B1 => if ds.length ≤ 1000 then some (.lst ds, B1) else none := by
  first | exact nrfl rfl | (simp only [evE]; done) | (simp only [evE]; rfl)
@[simp] theorem v_ix (a b : IE) : evE k (.ix a b) env B = bd (evE k a env B) fun x B1 => bd (evE k b env B1) fun y B2 => ob (atD x y) fun z => some (z, B2) := by
  first | exact nrfl rfl | (simp only [evE]; done) | (simp only [evE]; rfl)
@[simp] theorem v_si (a : IE) : evE k (.si a) env B = bd (evE k a env B) fun d B1 => (match d with
    | .int i => some (.int i, B1)
    | _ => none) := by
  first | exact nrfl rfl | (simp only [evE]; done) | (simp only [evE]; rfl)
@[simp] theorem v_tst (a : IE) : evE k (.tst a) env B = bd (evE k a env B) fun d B1 => (match d with
    | .bl b => some (.bl b, B1)
    | _ => none) := by
  first | exact nrfl rfl | (simp only [evE]; done) | (simp only [evE]; rfl)
@[simp] theorem v_sl (a lo hi : IE) : evE k (.sl a lo hi) env B = bd (evE k a env B) fun x B1 => bd (evE k lo env B1) fun l B2 => bd (evE k hi env B2) fun h B3 => ob (slD x l h) fun z => some (z, B3) := by
  first | exact nrfl rfl | (simp only [evE]; done) | (simp only [evE]; rfl)
@[simp] theorem v_ownIx (i : Nat) (b : IE) : evE k (.ownIx i b) env B = bd (evE k b env B) fun y B1 => ob (getO env i) fun xs => ob (atD (.lst xs) y) fun z => some (z, B1) := by
  first | exact nrfl rfl | (simp only [evE]; done) | (simp only [evE]; rfl)
@[simp] theorem v_ownCat (i : Nat) (b : IE) : evE k (.ownCat i b) env B = bd (evE k b env B) fun y B1 => ob (getO env i) fun xs => ob (opB .add (.lst xs) y) fun z => some (z, B1) := by
  first | exact nrfl rfl | (simp only [evE]; done) | (simp only [evE]; rfl)
@[simp] theorem v_bi (f : Bi) (es : IE) : evE k (.bi f es) env B = bd (evEs k es env B) fun ds B1 => ob (biF f ds) fun z => some (z, B1) := by
  first | exact nrfl rfl | (simp only [evE]; done) | (simp only [evE]; rfl)
@[simp] theorem v_isi (a : IE) (t : Ty) : evE k (.isi a t) env B = bd (evE k a env B) fun d B1 => ob (isiD t d) fun z => some (.bl z, B1) := by
  first | exact nrfl rfl | (simp only [evE]; done) | (simp only [evE]; rfl)
@[simp] theorem v_call (f : Str) (es : IE) : evE k (.call f es) env B = bd (evEs k es env B) fun ds B1 => k f ds B1 := by
  first | exact nrfl rfl | (simp only [evE]; done) | (simp only [evE]; rfl)
@[simp] theorem v_fld (a : IE) (f : Fl) : evE k (.fld a f) env B = bd (evE k a env B) fun d B1 => ob (fldD f d) fun z => some (z, B1) := by
  first | exact nrfl rfl | (simp only [evE]; done) | (simp only [evE]; rfl)
@[simp] theorem v_mIx (a b : IE) : evE k (.mIx a b) env B = bd (evE k a env B) fun x B1 => bd (evE k b env B1) fun y B2 => ob (idxD x y) fun z => some (z, B2) := by
  first | exact nrfl rfl | (simp only [evE]; done) | (simp only [evE]; rfl)
@[simp] theorem v_inG (ng : Bool) (a : IE) (g : Str) (kvs : List (Str × Int)) : evE k (.inG ng a g kvs) env B = bd (evE k a env B) fun d B1 => (match d with
    | .str s => some (.bl (if ng then !(lkD kvs s).isSome else (lkD kvs s).isSome), B1)
    | _ => none) := by
  first | exact nrfl rfl | (simp only [evE]; done) | (simp only [evE]; rfl)
@[simp] theorem v_gD (a : IE) (g : Str) (kvs : List (Str × Int)) : evE k (.gD a g kvs) env B = bd (evE k a env B) fun d B1 => (match d with
    | .str s => ob (lkD kvs s) fun z => some (.int z, B1)
    | _ => none) := by
  first | exact nrfl rfl | (simp only [evE]; done) | (simp only [evE]; rfl)
@[simp] theorem v_inC (ng : Bool) (a : IE) (g : Str) (ws : List Str) : evE k (.inC ng a g ws) env B = bd (evE k a env B) fun d B1 => (match d with
    | .str s => some (.bl (if ng then !ws.any (· == s) else ws.any (· == s)), B1)
    | _ => none) := by
  first | exact nrfl rfl | (simp only [evE]; done) | (simp only [evE]; rfl)
@[simp] theorem v_dct (kvs : List (Str × Int)) : evE k (.dct kvs) env B = some (.dct kvs, B) := by
  first | exact nrfl rfl | (simp only [evE]; done) | (simp only [evE]; rfl)
@[simp] theorem v_dGet (a b c : IE) : evE k (.dGet a b c) env B = bd (evE k a env B) fun x B1 => bd (evE k b env B1) fun y B2 => bd (evE k c env B2) fun z B3 => (match x, y with
    | .dct kvs, .str s => some (match lkD kvs s with
      | some i => .int i
      | none => z, B3)
    | _, _ => none) := by
  first | exact nrfl rfl | (simp only [evE]; done) | (simp only [evE]; rfl)
def condD {α : Type} (d : D) (x y : Option (α × Bg)) : Option (α × Bg) := match d with
  | .bl c => if c = true then x else y
  | .non => x
  | _ => none
@[simp] theorem condD_bl {α : Type} (c : Bool) (x y : Option (α × Bg)) : condD (.bl c) x y = if c = true then x else y := nrfl rfl
@[simp] theorem condD_non {α : Type} (x y : Option (α × Bg)) : condD .non x y = x := nrfl rfl
def lcB (t : Tg) (cond elt : IE) (e0 : Env) (x : D) (B2 : Bg) : Option (Option D × Bg) := ob (bindT t x e0) fun e1 => bd (evE k cond e1 B2) fun b B3 => condD b (bd (evE k elt e1 B3) fun y B4 => some (some y, B4)) (some (none, B3))
@[simp] theorem v_lc (it : IE) (t : Tg) (cond elt : IE) (ow : List Nat) : evE k (.lc it t cond elt ow) env B = bd (evIt k it env B) fun xs B1 => bd (lcGo (lcB k t cond elt (wipeE env ow)) xs B1) fun ys B5 => if ys.length ≤ 1000 then some (.lst ys, B5) else none := by
  simp only [evE]
  congr; funext xs B1; congr; funext x B2
  unfold lcB
  congr; funext e1; congr; funext b B3
  unfold condD
  cases b <;> try rfl
  case bl b => cases b <;> rfl
def lcB2 (t1 : Tg) (it2 : IE) (t2 : Tg) (elt : IE) (e0 : Env) (ow1 : List Nat) (x : D) (B2 : Bg) : Option (List D × Bg) := ob (bindT t1 x e0) fun e1 => bd (evIt k it2 e1 B2) fun xs2 B3 =>
      lcGo (fun x2 B4 => ob (bindT t2 x2 (wipeE e1 ow1)) fun e2 => bd (evE k elt e2 B4) fun y B5 => some (some y, B5)) xs2 B3
@[simp] theorem v_lc2 (it1 : IE) (t1 : Tg) (it2 : IE) (t2 : Tg) (elt : IE) (ow ow1 : List Nat) : evE k (.lc2 it1 t1 it2 t2 elt ow ow1) env B = bd (evIt k it1 env B) fun xs B1 => bd (lcGo2 (lcB2 k t1 it2 t2 elt (wipeE env ow) ow1) xs B1) fun ys B5 => if ys.length ≤ 1000 then some (.lst ys, B5) else none := by
  first | exact nrfl rfl | (simp only [evE]; done) | (simp only [evE]; rfl)
@[simp] theorem v_enil : evEs k .enil env B = some ([], B) := by
  first | exact nrfl rfl | (simp only [evEs]; done) | (simp only [evEs]; rfl)
@[simp] theorem v_econs (e es : IE) : evEs k (.econs e es) env B = bd (evE k e env B) fun d B1 => bd (evEs k es env B1) fun ds B2 => some (d :: ds, B2) := by
  first | exact nrfl rfl | (simp only [evEs]; done) | (simp only [evEs]; rfl)
@[simp] theorem v_seq (a : IE) : evIt k (.seq a) env B = bd (evE k a env B) fun d B1 => ob (seqOf d) fun xs => some (xs, B1) := by
  first | exact nrfl rfl | (simp only [evIt]; done) | (simp only [evIt]; rfl)
def rng1D (d : D) (B1 : Bg) : Option (List D × Bg) := match d with
  | .int n => if small62 n = true then some (rngD 0 n.toNat, B1) else none
  | _ => none
def rng2D (x y : D) (B1 : Bg) : Option (List D × Bg) := match x, y with
  | .int i, .int j => if small62 i = true ∧ small62 j = true then some (rngD i (j - i).toNat, B1) else none
  | _, _ => none
@[simp] theorem v_rng1 (a : IE) : evIt k (.rng1 a) env B = bd (evE k a env B) fun d B1 => rng1D d B1 := by
  first | exact nrfl rfl | (simp only [evIt]; done) | (simp only [evIt]; rfl)
@[simp] theorem v_rng2 (a b : IE) : evIt k (.rng2 a b) env B = bd (evE k a env B) fun x B1 => bd (evE k b env B1) fun y B2 => rng2D x y B2 := by
  first | exact nrfl rfl | (simp only [evIt]; done) | (simp only [evIt]; rfl)
@[simp] theorem v_enum (a : IE) : evIt k (.enum a) env B = bd (evE k a env B) fun d B1 => (match d with
    | .tup xs => some (enumD 0 xs, B1)
    | _ => none) := by
  first | exact nrfl rfl | (simp only [evIt]; done) | (simp only [evIt]; rfl)
@[simp] theorem v_zip (a b : IE) : evIt k (.zip a b) env B = bd (evE k a env B) fun x B1 => bd (evE k b env B1) fun y B2 => ob (seqOf x) fun xs => ob (seqOf y) fun ys => some (zipD xs ys, B2) := by
  first | exact nrfl rfl | (simp only [evIt]; done) | (simp only [evIt]; rfl)
/-! statements -/
@[simp] theorem s_asg (t : Tg) (e : IE) : evS k (.asg t e) env B = bd (evE k e env B) fun d B1 => ob (bindT t d env) fun e1 => some (.nx e1, B1) := by
  first | exact nrfl rfl | (simp only [evS]; done) | (simp only [evS]; rfl)
@[simp] theorem s_own (i : Nat) (e : IE) : evS k (.own i e) env B = bd (evE k e env B) fun d B1 => (match d with
    | .lst xs => some (.nx (env.set i (.own xs)), B1)
    | _ => none) := by
  first | exact nrfl rfl | (simp only [evS]; done) | (simp only [evS]; rfl)
@[simp] theorem s_app (i : Nat) (e : IE) : evS k (.app i e) env B = bd (evE k e (frzBut i env) B) fun d B1 => ob (getO env i) fun xs => if xs.length < 1000 then some (.nx ((frzBut i env).set i (.own (xs ++ [d]))), B1) else none := by
  first | exact nrfl rfl | (simp only [evS]; done) | (simp only [evS]; rfl)
@[simp] theorem s_setI (i : Nat) (j e : IE) : evS k (.setI i j e) env B = bd (evE k e env B) fun d B1 => bd (evE k j env B1) fun y B2 => ob (getO env i) fun xs => (match y with
    | .int n => ob (ixN xs.length n) fun m => some (.nx (env.set i (.own (xs.set m d))), B2)
    | _ => none) := by
  first | exact nrfl rfl | (simp only [evS]; done) | (simp only [evS]; rfl)
@[simp] theorem s_augI (i : Nat) (j e : IE) : evS k (.augI i j e) env B = bd (evE k j env B) fun y B1 => bd (evE k e env B1) fun d B2 => ob (getO env i) fun xs => (match y, d with
    | .int n, .int b => ob (ixN xs.length n) fun m => ob (xs[m]?) fun z => (match z with
      | .int a => some (.nx (env.set i (.own (xs.set m (.int (a + b))))), B2)
      | _ => none)
    | _, _ => none) := by
  first | exact nrfl rfl | (simp only [evS]; done) | (simp only [evS]; rfl)
@[simp] theorem s_ext (i : Nat) (e : IE) : evS k (.ext i e) env B = bd (evE k e env B) fun d B1 => ob (getO env i) fun xs => (match d with
    | .lst ys => if xs.length + ys.length ≤ 1000 then some (.nx (env.set i (.own (xs ++ ys))), B1) else none
    | _ => none) := by
  first | exact nrfl rfl | (simp only [evS]; done) | (simp only [evS]; rfl)
@[simp] theorem s_ret (e : IE) : evS k (.ret e) env B = bd (evE k e (frzAll env) B) fun d B1 => some (.rt d, B1) := by
  first | exact nrfl rfl | (simp only [evS]; done) | (simp only [evS]; rfl)
@[simp] theorem s_ife (t : IE) (a b : IS) : evS k (.ife t a b) env B = bd (evE k t env B) fun d B1 => selD d (evS k a env B1) (evS k b env B1) := by
  simp only [evS]
  congr; funext d B1
  unfold selD
  cases d <;> try rfl
  case bl b => cases b <;> rfl
@[simp] theorem s_for (it : IE) (t : Tg) (body : IS) : evS k (.for_ it t body) env B = bd (evIt k it env B) fun xs B1 => forGo t (fun e b => evS k body e b) xs env B1 := by
  first | exact nrfl rfl | (simp only [evS]; done) | (simp only [evS]; rfl)
@[simp] theorem s_skip : evS k .skip env B = some (.nx env, B) := by
  first | exact nrfl rfl | (simp only [evS]; done) | (simp only [evS]; rfl)
def thenD (o : Out) (f : Env → Option (Out × Bg)) (B : Bg) : Option (Out × Bg) := match o with
  | .rt d => some (.rt d, B)
  | .nx e => f e
@[simp] theorem thenD_rt (d : D) (f : Env → Option (Out × Bg)) : thenD (.rt d) f B = some (.rt d, B) := nrfl rfl
@[simp] theorem thenD_nx (e : Env) (f : Env → Option (Out × Bg)) : thenD (.nx e) f B = f e := nrfl rfl
@[simp] theorem s_seq (a b : IS) : evS k (.seq a b) env B = bd (evS k a env B) fun o B1 => thenD o (fun e1 => evS k b e1 B1) B1 := by
  simp only [evS]
  congr <;> funext o B1 <;> cases o <;> rfl
def retD (o : Out) (B : Bg) : Option (D × Bg) := match o with
  | .rt d => some (d, B)
  | .nx _ => some (.non, B)
@[simp] theorem retD_rt (d : D) : retD (.rt d) B = some (d, B) := nrfl rfl
@[simp] theorem retD_nx (e : Env) : retD (.nx e) B = some (.non, B) := nrfl rfl
theorem runB_eq (fn : Fn) (ds : List D) (h : ds.length = fn.np) : runB k fn ds B = bd (evS k fn.body (startE fn ds) B) fun o B1 => retD o B1 := by
  unfold runB
  rw [if_pos h]
  congr <;> funext o B1 <;> cases o <;> rfl
end
/-! slots -/
@[simp] theorem getV_0 (d : D) (e : Env) : getV (.val d :: e) 0 = some d := nrfl rfl
@[simp] theorem getV_s (s : Sl) (e : Env) (i : Nat) : getV (s :: e) (i + 1) = getV e i := nrfl rfl
@[simp] theorem getO_0 (d : List D) (e : Env) : getO (.own d :: e) 0 = some d := nrfl rfl
@[simp] theorem getO_s (s : Sl) (e : Env) (i : Nat) : getO (s :: e) (i + 1) = getO e i := nrfl rfl
@[simp] theorem frz_un : Sl.frz .un = .un := nrfl rfl
@[simp] theorem frz_val (d : D) : Sl.frz (.val d) = .val d := nrfl rfl
@[simp] theorem frz_own (xs : List D) : Sl.frz (.own xs) = .val (.lst xs) := nrfl rfl
@[simp] theorem frzAll_nil : frzAll [] = [] := nrfl rfl
@[simp] theorem frzAll_cons (s : Sl) (e : Env) : frzAll (s :: e) = s.frz :: frzAll e := nrfl rfl
@[simp] theorem frzBut_0 (s : Sl) (e : Env) : frzBut 0 (s :: e) = s :: frzAll e := nrfl rfl
@[simp] theorem frzBut_s (s : Sl) (e : Env) (i : Nat) : frzBut (i + 1) (s :: e) = s.frz :: frzBut i e := by
  unfold frzBut
  simp only [List.getElem?_cons_succ]
  cases h : e[i]? with
  | none => rfl
  | some x => rfl
@[simp] theorem wipe_nil (e : Env) : wipeE e [] = e := nrfl rfl
@[simp] theorem wipe_cons (e : Env) (i : Nat) (is : List Nat) : wipeE e (i :: is) = (wipeE e is).set i .un := nrfl rfl
@[simp] theorem setAll_nil (e : Env) : setAll [] [] e = some e := nrfl rfl
@[simp] theorem setAll_cons (i : Nat) (is : List Nat) (d : D) (ds : List D) (e : Env) : setAll (i :: is) (d :: ds) e = setAll is ds (e.set i (.val d)) := nrfl rfl
@[simp] theorem bindT_nm (i : Nat) (d : D) (e : Env) : bindT (.nm i) d e = some (e.set i (.val d)) := nrfl rfl
@[simp] theorem bindT_tp (is : List Nat) (ds : List D) (e : Env) : bindT (.tp is) (.tup ds) e = setAll is ds e := nrfl rfl
/-! ops -/
@[simp] theorem o_add (i j : Int) : opB .add (.int i) (.int j) = some (.int (i + j)) := nrfl rfl
@[simp] theorem o_sub (i j : Int) : opB .sub (.int i) (.int j) = some (.int (i - j)) := nrfl rfl
theorem o_mul {i j : Int} (h : smallM i = true ∨ smallM j = true) : opB .mul (.int i) (.int j) = some (.int (i * j)) := by
  show (if smallM i || smallM j then _ else _) = _
  rw [if_pos (by simpa using h)]
theorem o_div {i j : Int} (h : 0 < j ∧ j < 1073741824) : opB .fdiv (.int i) (.int j) = some (.int (i / j)) := nrfl (if_pos h)
@[simp] theorem c_lt (i j : Int) : opC .lt (.int i) (.int j) = some (decide (i < j)) := nrfl rfl
@[simp] theorem c_le (i j : Int) : opC .le (.int i) (.int j) = some (decide (i ≤ j)) := nrfl rfl
@[simp] theorem c_gt (i j : Int) : opC .gt (.int i) (.int j) = some (decide (j < i)) := nrfl rfl
@[simp] theorem c_ge (i j : Int) : opC .ge (.int i) (.int j) = some (decide (j ≤ i)) := nrfl rfl
@[simp] theorem c_eqI (i j : Int) : opC .eq (.int i) (.int j) = some (decide (i = j)) := nrfl rfl
@[simp] theorem c_neI (i j : Int) : opC .ne (.int i) (.int j) = some (!decide (i = j)) := nrfl rfl
@[simp] theorem c_eqS (i j : Str) : opC .eq (.str i) (.str j) = some (decide (i = j)) := nrfl rfl
@[simp] theorem c_neS (i j : Str) : opC .ne (.str i) (.str j) = some (!decide (i = j)) := nrfl rfl
@[simp] theorem at_tup (xs : List D) (i : Int) : atD (.tup xs) (.int i) = atI xs i := nrfl rfl
@[simp] theorem at_lst (xs : List D) (i : Int) : atD (.lst xs) (.int i) = atI xs i := nrfl rfl
@[simp] theorem at_rtup (xs : List D) (i : Int) : atD (.rtup xs) (.int i) = atI xs i := nrfl rfl
@[simp] theorem seq_tup (xs : List D) : seqOf (.tup xs) = some xs := nrfl rfl
@[simp] theorem seq_lst (xs : List D) : seqOf (.lst xs) = some xs := nrfl rfl
@[simp] theorem seq_rtup (xs : List D) : seqOf (.rtup xs) = some xs := nrfl rfl
@[simp] theorem b_lenT (xs : List D) : biF .len [.tup xs] = some (.int xs.length) := nrfl rfl
@[simp] theorem b_lenL (xs : List D) : biF .len [.lst xs] = some (.int xs.length) := nrfl rfl
@[simp] theorem b_lenR (xs : List D) : biF .len [.rtup xs] = some (.int xs.length) := nrfl rfl
@[simp] theorem b_tuple (xs : List D) : biF .tuple [.lst xs] = some (.tup xs) := nrfl rfl
@[simp] theorem b_list (xs : List D) : biF .list [.tup xs] = some (.lst xs) := nrfl rfl
@[simp] theorem i_intI (i : Int) : isiD .int (.int i) = some true := nrfl rfl
@[simp] theorem i_boolI (i : Int) : isiD .bool (.int i) = some false := nrfl rfl
@[simp] theorem i_tupT (xs : List D) : isiD .tuple (.tup xs) = some true := nrfl rfl
@[simp] theorem i_tupS (x : Str) : isiD .tuple (.str x) = some false := nrfl rfl
@[simp] theorem i_strS (x : Str) : isiD .str (.str x) = some true := nrfl rfl
@[simp] theorem i_strT (xs : List D) : isiD .str (.tup xs) = some false := nrfl rfl
@[simp] theorem i_rideR (c r : D) : isiD .ride (.ride c r) = some true := nrfl rfl
@[simp] theorem i_rideN : isiD .ride .non = some false := nrfl rfl
@[simp] theorem if_bl {c y : Bool} {B : Bg} : (if c = true then some (D.bl y, B) else some (D.bl false, B)) = some (D.bl (c && y), B) := by cases c <;> rfl
@[simp] theorem if_bl' {c y : Bool} {B : Bg} : (if c = true then some (D.bl true, B) else some (D.bl y, B)) = some (D.bl (c || y), B) := by cases c <;> rfl
theorem atI_nat {α : Type} (xs : List α) (i : Nat) : atI xs (i : Int) = xs[i]? := by
  unfold atI ixN
  by_cases h : i < xs.length
  · rw [if_pos (by omega), if_pos (by omega)]
    simp
  · rw [if_pos (by omega), if_neg (by omega)]
    simp at h
    simp [h]
theorem atI_of {α : Type} {xs : List α} {i : Int} (h : 0 ≤ i) : atI xs i = xs[i.toNat]? := by
  obtain ⟨n, rfl⟩ := Int.eq_ofNat_of_zero_le h
  rw [atI_nat]
  rfl
@[simp] theorem atI_0 {α : Type} (a : α) (l : List α) : atI (a :: l) 0 = some a := by
  rw [show (0 : Int) = ((0 : Nat) : Int) from rfl, atI_nat]
  rfl
@[simp] theorem atI_1 {α : Type} (a b : α) (l : List α) : atI (a :: b :: l) 1 = some b := by
  rw [show (1 : Int) = ((1 : Nat) : Int) from rfl, atI_nat]
  rfl
@[simp] theorem atI_2 {α : Type} (a b c : α) (l : List α) : atI (a :: b :: c :: l) 2 = some c := by
  rw [show (2 : Int) = ((2 : Nat) : Int) from rfl, atI_nat]
  rfl
@[simp] theorem atI_3 {α : Type} (a b c d : α) (l : List α) : atI (a :: b :: c :: d :: l) 3 = some d := by
  rw [show (3 : Int) = ((3 : Nat) : Int) from rfl, atI_nat]
  rfl
@[simp] theorem atI_4 {α : Type} (a b c d e : α) (l : List α) : atI (a :: b :: c :: d :: e :: l) 4 = some e := by
  rw [show (4 : Int) = ((4 : Nat) : Int) from rfl, atI_nat]
  rfl
@[simp] theorem atI_5 {α : Type} (a b c d e f : α) (l : List α) : atI (a :: b :: c :: d :: e :: f :: l) 5 = some f := by
  rw [show (5 : Int) = ((5 : Nat) : Int) from rfl, atI_nat]
  rfl
@[simp] theorem atI_6 {α : Type} (a b c d e f g : α) (l : List α) : atI (a :: b :: c :: d :: e :: f :: g :: l) 6 = some g := by
  rw [show (6 : Int) = ((6 : Nat) : Int) from rfl, atI_nat]
  rfl
@[simp] theorem atI_7 {α : Type} (a b c d e f g h : α) (l : List α) : atI (a :: b :: c :: d :: e :: f :: g :: h :: l) 7 = some h := by
  rw [show (7 : Int) = ((7 : Nat) : Int) from rfl, atI_nat]
  rfl
/-! loops -/
theorem rngD_eq (lo : Int) (n : Nat) : rngD lo n = (List.range n).map fun i => .int (lo + i) := by
  induction n generalizing lo with
  | zero => rfl
  | succ n ih =>
    rw [List.range_succ_eq_map, rngD, ih]
    simp only [List.map_cons, List.map_map]
    congr 1
    · simp
    · apply List.map_congr_left
      intro i _
      simp only [Function.comp]
      congr 1
      push_cast
      omega
theorem small_of {i : Int} (h : -4611686018427387904 ≤ i ∧ i < 4611686018427387904) : small62 i = true := by
  unfold small62
  simp
  omega
theorem rng1_nat (m : Nat) (B : Bg) (h : m ≤ 100000) : rng1D (.int m) B = some ((List.range m).map fun i : Nat => D.int i, B) := by
  show (if small62 (m : Int) = true then some (rngD 0 (m : Int).toNat, B) else none) = _
  rw [if_pos (small_of (by omega)), rngD_eq]
  simp
theorem rng2_nat (a m : Nat) (B : Bg) (h : a + m ≤ 100000) : rng2D (.int a) (.int (a + m : Nat)) B = some ((List.range m).map fun i : Nat => D.int (a + i), B) := by
  show (if small62 (a : Int) = true ∧ small62 ((a + m : Nat) : Int) = true then some (rngD a (((a + m : Nat) : Int) - a).toNat, B) else none) = _
  rw [if_pos ⟨small_of (by omega), small_of (by omega)⟩, rngD_eq]
  have e : (((a + m : Nat) : Int) - (a : Int)).toNat = m := by omega
  rw [e]
theorem enumD_eq {α : Type} (e : α → D) : ∀ (xs : List α) (n : Nat), enumD n (xs.map e) = (xs.zipIdx n).map fun p => .tup [.int p.2, e p.1]
  | [], n => rfl
  | x :: xs, n => by
    simp only [List.map_cons, List.zipIdx_cons]
    rw [enumD, enumD_eq e xs (n + 1)]
theorem zipD_eq {α β : Type} (e : α → D) (f : β → D) : ∀ (xs : List α) (ys : List β), zipD (xs.map e) (ys.map f) = (xs.zip ys).map fun p => .tup [e p.1, f p.2]
  | [], ys => by cases ys <;> rfl
  | x :: xs, [] => rfl
  | x :: xs, y :: ys => by
    simp only [List.map_cons, List.zip_cons_cons]
    rw [zipD, zipD_eq e f xs ys]
theorem lcGo_map {α : Type} {f : D → Bg → Option (Option D × Bg)} {e g : α → D} {B : Bg} : ∀ {xs : List α}, (∀ x ∈ xs, f (e x) B = some (some (g x), B)) → lcGo f (xs.map e) B = some (xs.map g, B)
  | [], _ => rfl
  | x :: xs, h => by
    rw [List.map_cons, lcGo, h x (by simp), bd_some, lcGo_map (xs := xs) fun y hy => h y (by simp [hy])]
    rfl
theorem lcGo_fm {α : Type} {f : D → Bg → Option (Option D × Bg)} {e : α → D} {g : α → Option D} {B : Bg} : ∀ {xs : List α}, (∀ x ∈ xs, f (e x) B = some (g x, B)) → lcGo f (xs.map e) B = some (xs.filterMap g, B)
  | [], _ => rfl
  | x :: xs, h => by
    rw [List.map_cons, lcGo, h x (by simp), bd_some, lcGo_fm (xs := xs) fun y hy => h y (by simp [hy]), bd_some, List.filterMap_cons]
    cases g x <;> rfl
/-- a loop that leaves by no return: what holds of the slots -/
theorem for_inv {α : Type} {t : Tg} {f : Env → Bg → Option (Out × Bg)} {e : α → D} {B : Bg} (P : List α → Env → Prop) : ∀ {xs : List α} {env : Env},
    P xs env → (∀ x ys env, P (x :: ys) env → ∃ e1 e2, bindT t (e x) env = some e1 ∧ f e1 B = some (.nx e2, B) ∧ P ys e2) →
    ∃ env', forGo t f (xs.map e) env B = some (.nx env', B) ∧ P [] env'
  | [], env, h, _ => ⟨env, rfl, h⟩
  | x :: xs, env, h, st => by
    obtain ⟨e1, e2, h1, h2, h3⟩ := st x xs env h
    obtain ⟨env', h4, h5⟩ := for_inv P h3 st
    refine ⟨env', ?_, h5⟩
    rw [List.map_cons, forGo, h1, ob_some, h2, bd_some]
    exact h4
/-- a loop that may return: at the first x for which c holds -/
theorem for_ret {α : Type} {t : Tg} {f : Env → Bg → Option (Out × Bg)} {e : α → D} {B : Bg} {r : D} (P : Env → Prop) (c : α → Bool) : ∀ {xs : List α} {env : Env},
    P env → (∀ x ∈ xs, ∀ env, P env → ∃ e1, bindT t (e x) env = some e1 ∧ ((c x = true ∧ f e1 B = some (.rt r, B)) ∨ (c x = false ∧ ∃ e2, f e1 B = some (.nx e2, B) ∧ P e2))) →
    (xs.any c = true ∧ forGo t f (xs.map e) env B = some (.rt r, B)) ∨ (xs.any c = false ∧ ∃ env', forGo t f (xs.map e) env B = some (.nx env', B) ∧ P env')
  | [], env, h, _ => .inr ⟨rfl, env, rfl, h⟩
  | x :: xs, env, h, st => by
    obtain ⟨e1, h1, h2⟩ := st x (by simp) env h
    rcases h2 with ⟨hc, h2⟩ | ⟨hc, e2, h2, h3⟩
    · refine .inl ⟨by simp [hc], ?_⟩
      rw [List.map_cons, forGo, h1, ob_some, h2, bd_some]
    · rcases for_ret (xs := xs) P c h3 fun y hy => st y (by simp [hy]) with ⟨q1, q2⟩ | ⟨q1, env', q2, q3⟩
      · refine .inl ⟨by simp [q1], ?_⟩
        rw [List.map_cons, forGo, h1, ob_some, h2, bd_some]
        exact q2
      · refine .inr ⟨by simp [hc, q1], env', ?_, q3⟩
        rw [List.map_cons, forGo, h1, ob_some, h2, bd_some]
        exact q2
theorem bls_map {α : Type} (p : α → Bool) : ∀ xs : List α, blsOf (xs.map fun x => D.bl (p x)) = some (xs.map p)
  | [] => rfl
  | x :: xs => by
    rw [List.map_cons, blsOf, bls_map p xs]
    rfl
@[simp] theorem b_all {α : Type} (p : α → Bool) (xs : List α) : biF .all [.lst (xs.map fun x => D.bl (p x))] = some (.bl (xs.all p)) := by
  show ob (blsOf _) _ = _
  rw [bls_map, ob_some]
  simp [List.all_map]
@[simp] theorem b_any {α : Type} (p : α → Bool) (xs : List α) : biF .any [.lst (xs.map fun x => D.bl (p x))] = some (.bl (xs.any p)) := by
  show ob (blsOf _) _ = _
  rw [bls_map, ob_some]
  simp [List.any_map]
theorem ints_map : ∀ xs : List Int, intsOf (xs.map D.int) = some xs
  | [] => rfl
  | x :: xs => by
    rw [List.map_cons, intsOf, ints_map xs]
    rfl
theorem smallM_of {i : Int} (h : -18446744073709551616 < i ∧ i < 18446744073709551616) : smallM i = true := by
  unfold smallM
  simp
  omega
end Cab.P
set_option Elab.async false
set_option linter.all false
set_option maxRecDepth 100000
set_option maxHeartbeats 4000000
/-! The plain part: data of the law, what is asked of it, the small defs. -/
namespace Cab.P
open PySem L2
abbrev tI (xs : List Int) : D := .tup (xs.map .int)
abbrev lI (xs : List Int) : D := .lst (xs.map .int)
abbrev rsD (rs : List (List Int)) : D := .tup (rs.map tI)
def btw (i lo hi : Int) : Bool := decide (lo ≤ i) && decide (i ≤ hi)
def rdOk (m : Int) : List Int → Bool
  | [a, b, l] => btw a 0 (m - 1) && (btw b (a + 1) m && btw l 0 9)
  | _ => false
def on (t : Int) : List Int → Bool
  | [a, b, l] => decide (a ≤ t) && decide (t < b)
  | _ => false
/-- places of those aboard -/
def abd (rs : List (List Int)) (t : Int) : List Int := rs.zipIdx.filterMap fun p => if on t p.1 = true then some (p.2 : Int) else none
def crowd (m : Nat) (rs : List (List Int)) : Bool := (List.range m).any fun t => decide (4 < ((abd rs t).length : Int))

theorem for_pre {α : Type} {t : Tg} {f : Env → Bg → Option (Out × Bg)} {e : α → D} {B : Bg} (P : List α → Env → Prop) (L : List α) {env : Env} (h0 : P [] env)
    (st : ∀ pre x post env, L = pre ++ x :: post → P pre env → ∃ e1 e2, bindT t (e x) env = some e1 ∧ f e1 B = some (.nx e2, B) ∧ P (pre ++ [x]) e2) :
    ∃ env', forGo t f (L.map e) env B = some (.nx env', B) ∧ P L env' := by
  have go : ∀ (post pre : List α) (env : Env), L = pre ++ post → P pre env → ∃ env', forGo t f (post.map e) env B = some (.nx env', B) ∧ P L env' := by
    intro post
    induction post with
    | nil => intro pre env hl hp; exact ⟨env, rfl, by rw [hl, List.append_nil]; exact hp⟩
    | cons x xs ih =>
      intro pre env hl hp
      obtain ⟨e1, e2, h1, h2, h3⟩ := st pre x xs env hl hp
      obtain ⟨env', h4, h5⟩ := ih (pre ++ [x]) e2 (by rw [hl]; simp) h3
      refine ⟨env', ?_, h5⟩
      rw [List.map_cons, forGo, h1, ob_some, h2, bd_some]
      exact h4
  exact go L [] env rfl h0
theorem bd_bd {α β γ : Type} {x : Option (α × Bg)} {f : α → Bg → Option (β × Bg)} {g : β → Bg → Option γ} : bd (bd x f) g = bd x fun a B => bd (f a B) g := by
  cases x <;> rfl
theorem for_then {α β : Type} {t : Tg} {f : Env → Bg → Option (Out × Bg)} {e : α → D} {B : Bg} {L : List α} {env : Env} {k : Out → Bg → Option β} {r : Option β} (P : List α → Env → Prop) (h0 : P [] env)
    (st : ∀ pre x post env, L = pre ++ x :: post → P pre env → ∃ e1, bindT t (e x) env = some e1 ∧ ∃ e2, f e1 B = some (.nx e2, B) ∧ P (pre ++ [x]) e2) (q : ∀ env', P L env' → k (.nx env') B = r) :
    bd (forGo t f (L.map e) env B) k = r := by
  obtain ⟨env', h1, h2⟩ := for_pre P L h0 fun pre x post env hl hp => by
    obtain ⟨e1, h1, e2, h2, h3⟩ := st pre x post env hl hp
    exact ⟨e1, e2, h1, h2, h3⟩
  rw [h1, bd_some]
  exact q env' h2
theorem for_ex {α : Type} {t : Tg} {f : Env → Bg → Option (Out × Bg)} {e : α → D} {B : Bg} {L : List α} {env : Env} {Q : Env → Prop} (P : List α → Env → Prop) (h0 : P [] env)
    (st : ∀ pre x post env, L = pre ++ x :: post → P pre env → ∃ e1, bindT t (e x) env = some e1 ∧ ∃ e2, f e1 B = some (.nx e2, B) ∧ P (pre ++ [x]) e2) (q : ∀ env', P L env' → Q env') :
    ∃ e2, forGo t f (L.map e) env B = some (.nx e2, B) ∧ Q e2 := by
  obtain ⟨env', h1, h2⟩ := for_pre P L h0 fun pre x post env hl hp => by
    obtain ⟨e1, h1, e2, h2, h3⟩ := st pre x post env hl hp
    exact ⟨e1, e2, h1, h2, h3⟩
  exact ⟨env', h1, q env' h2⟩
/-- a loop that returns r at the first x for which c holds -/
theorem for_test {α β : Type} {t : Tg} {f : Env → Bg → Option (Out × Bg)} {e : α → D} {B : Bg} {L : List α} {env : Env} {k : Out → Bg → Option β} {r : Option β} {d : D} (P : Env → Prop) (c : α → Bool) (h0 : P env)
    (st : ∀ x ∈ L, ∀ env, P env → ∃ e1, bindT t (e x) env = some e1 ∧ (c x = true → f e1 B = some (.rt d, B)) ∧ (c x = false → ∃ e2, f e1 B = some (.nx e2, B) ∧ P e2))
    (q1 : L.any c = true → k (.rt d) B = r) (q2 : L.any c = false → ∀ env', P env' → k (.nx env') B = r) : bd (forGo t f (L.map e) env B) k = r := by
  rcases for_ret (r := d) (f := f) (e := e) (t := t) (B := B) (xs := L) P c h0 (fun x hx env hp => by
    obtain ⟨e1, h1, h2, h3⟩ := st x hx env hp
    refine ⟨e1, h1, ?_⟩
    cases hc : c x with
    | true => exact .inl ⟨rfl, h2 hc⟩
    | false => exact .inr ⟨rfl, h3 hc⟩) with ⟨h1, h2⟩ | ⟨h1, env', h2, h3⟩
  · rw [h2, bd_some]
    exact q1 h1
  · rw [h2, bd_some]
    exact q2 h1 env' h3
theorem memOf {α : Type} {L pre post : List α} {x : α} (h : L = pre ++ x :: post) : x ∈ L := by rw [h]; simp
theorem for_testP {α β : Type} {t : Tg} {f : Env → Bg → Option (Out × Bg)} {e : α → D} {B : Bg} {L : List α} {env : Env} {k : Out → Bg → Option β} {r : Option β} {d : D} (P : List α → Env → Prop) (c : α → Bool) (h0 : P [] env)
    (st : ∀ pre x post env, L = pre ++ x :: post → P pre env → ∃ e1, bindT t (e x) env = some e1 ∧ (c x = true → f e1 B = some (.rt d, B)) ∧ (c x = false → ∃ e2, f e1 B = some (.nx e2, B) ∧ P (pre ++ [x]) e2))
    (q1 : L.any c = true → k (.rt d) B = r) (q2 : L.any c = false → ∀ env', P L env' → k (.nx env') B = r) : bd (forGo t f (L.map e) env B) k = r := by
  have go : ∀ (post pre : List α) (env : Env), L = pre ++ post → P pre env → (post.any c = true ∧ forGo t f (post.map e) env B = some (.rt d, B)) ∨ (post.any c = false ∧ ∃ env', forGo t f (post.map e) env B = some (.nx env', B) ∧ P L env') := by
    intro post
    induction post with
    | nil => intro pre env hl hp; exact .inr ⟨rfl, env, rfl, by rw [hl, List.append_nil]; exact hp⟩
    | cons x xs ih =>
      intro pre env hl hp
      obtain ⟨e1, h1, h2, h3⟩ := st pre x xs env hl hp
      cases hc : c x with
      | true =>
        refine .inl ⟨by simp [hc], ?_⟩
        rw [List.map_cons, forGo, h1, ob_some, h2 hc, bd_some]
      | false =>
        obtain ⟨e2, h4, h5⟩ := h3 hc
        rcases ih (pre ++ [x]) e2 (by rw [hl]; simp) h5 with ⟨q1, q2⟩ | ⟨q1, env', q2, q3⟩
        · refine .inl ⟨by simp [q1], ?_⟩
          rw [List.map_cons, forGo, h1, ob_some, h4, bd_some]
          exact q2
        · refine .inr ⟨by simp [hc, q1], env', ?_, q3⟩
          rw [List.map_cons, forGo, h1, ob_some, h4, bd_some]
          exact q2
  rcases go L [] env rfl h0 with ⟨h1, h2⟩ | ⟨h1, env', h2, h3⟩
  · rw [h2, bd_some]
    exact q1 h1
  · rw [h2, bd_some]
    exact q2 h1 env' h3
section
variable {prim : PrimT} (h : NoCl prim) (n : Nat) (B : Bg)
include h
theorem ev_is_integer (i : Int) : run tab prim (n + 1) ("is_integer" : Str) [.int i] B = some (.bl true, B) := by
  rw [run_fn h t_is_integer, runB_eq _ _ _ _ rfl]
  simp [i_is_integer, startE]
theorem ev_is_between (i lo hi : Int) : run tab prim (n + 2) ("is_between" : Str) [.int i, .int lo, .int hi] B = some (.bl (btw i lo hi), B) := by
  rw [run_fn h t_is_between, runB_eq _ _ _ _ rfl]
  simp [i_is_between, startE, ev_is_integer h, btw]
theorem ev_is_natural (i : Int) : run tab prim (n + 2) ("is_natural" : Str) [.int i] B = some (.bl (decide (0 ≤ i)), B) := by
  rw [run_fn h t_is_natural, runB_eq _ _ _ _ rfl]
  simp [i_is_natural, startE, ev_is_integer h]
theorem ev_is_rider (r : List Int) (m : Int) : run tab prim (n + 3) ("is_rider" : Str) [tI r, .int m] B = some (.bl (rdOk m r), B) := by
  rw [run_fn h t_is_rider, runB_eq _ _ _ _ rfl]
  match r with
  | [a, b, l] =>
    simp [i_is_rider, startE, ev_is_between h, rdOk, atI, ixN]
    cases btw a 0 (m - 1) <;> simp
  | [] => simp [i_is_rider, startE, rdOk]
  | [a] => simp [i_is_rider, startE, rdOk]
  | [a, b] => simp [i_is_rider, startE, rdOk]
  | a :: b :: c :: d :: r =>
    have hl : ¬ ((r.length : Int) + 1 + 1 + 1 + 1 = 3) := by omega
    simp [i_is_rider, startE, rdOk, hl]
end
def Rds (rs : List (List Int)) : Prop := rs.length ≤ 900 ∧ ∀ r ∈ rs, ∃ a b l, r = [a, b, l]
theorem fm_map {α : Type} (p : α → Bool) (g : α → Int) : ∀ L : List α, L.filterMap (fun x => if p x = true then some (D.int (g x)) else none) = (L.filterMap fun x => if p x = true then some (g x) else none).map D.int
  | [] => rfl
  | x :: xs => by
    rw [List.filterMap_cons, List.filterMap_cons, fm_map p g xs]
    cases p x <;> rfl
theorem abd_len (rs : List (List Int)) (t : Int) : (abd rs t).length ≤ rs.length := by
  unfold abd
  exact Nat.le_trans (List.length_filterMap_le _ _) (by simp)
section
variable {prim : PrimT} (h : NoCl prim) (n : Nat) (B : Bg)
include h
theorem ev_aboard_at {rs : List (List Int)} (hr : Rds rs) (t : Int) : run tab prim (n + 1) ("aboard_at" : Str) [rsD rs, .int t] B = some (tI (abd rs t), B) := by
  rw [run_fn h t_aboard_at, runB_eq _ _ _ _ rfl]
  simp [i_aboard_at, startE, enumD_eq]
  rw [lcGo_fm (g := fun p => if on t p.1 = true then some (D.int p.2) else none)]
  · have := abd_len rs t
    have := hr.1
    rw [fm_map (fun p : List Int × Nat => on t p.1) (fun p => (p.2 : Int))]
    have e : (List.filterMap (fun x : List Int × Nat => if on t x.1 = true then some (x.2 : Int) else none) rs.zipIdx) = abd rs t := rfl
    rw [e]
    simp
    omega
  · rintro ⟨r, i⟩ hp
    obtain ⟨a, b, l, rfl⟩ := hr.2 r (List.fst_mem_of_mem_zipIdx hp)
    simp [lcB, on, atI, ixN]
    by_cases h1 : a ≤ t <;> by_cases h2 : t < b <;> simp [h1, h2]
theorem ev_is_crowded {rs : List (List Int)} (hr : Rds rs) (m : Nat) (hm : m ≤ 900) : run tab prim (n + 2) ("is_crowded" : Str) [.int m, rsD rs] B = some (.bl (crowd m rs), B) := by
  rw [run_fn h t_is_crowded, runB_eq _ _ _ _ rfl]
  simp [i_is_crowded, startE, rng1_nat m B (by omega)]
  rw [lcGo_map (g := fun i : Nat => D.bl (decide (4 < ((abd rs i).length : Int))))]
  · rw [bd_some, if_pos (by simp; omega)]
    simp [crowd]
  · intro i hi
    simp [lcB, ev_aboard_at h n B hr]
theorem ev_place_of {rs : List (List Int)} {p : Nat} {a b l : Int} (hp : rs[p]? = some [a, b, l]) (o : Str) (ho : o = ("number" : Str) ∨ o = ("sat" : Str) ∨ o = ("bags" : Str)) :
    run tab prim (n + 1) ("place_of" : Str) [rsD rs, .str o, .int p] B = some (.tup [.int (if o = ("sat" : Str) then a else if o = ("bags" : Str) then -l else 0), .int p], B) := by
  rw [run_fn h t_place_of, runB_eq _ _ _ _ rfl]
  rcases ho with rfl | rfl | rfl <;> simp [i_place_of, startE, ofS_inj, atI_nat, hp] <;> simp [atI, ixN]
end
end Cab.P
set_option Elab.async false
set_option linter.all false
set_option maxRecDepth 100000
set_option maxHeartbeats 4000000
/-! The plain part: a ride from what it tells, its ranks. -/
namespace Cab.P
open PySem L2
structure Tl where
  c : List Int
  r : List (List Int)
abbrev Tl.d (t : Tl) : D := .tup [tI t.c, rsD t.r]
def lenOk (n m : Nat) : Bool := decide ((1 : Int) ≤ n) && decide ((n : Int) ≤ m)
def tlOk (t : Tl) : Bool := lenOk t.c.length 12 && (t.c.all fun x => btw x 0 1000000) && (lenOk t.r.length 6 && t.r.all (rdOk t.c.length)) && !crowd t.c.length t.r
theorem rdOk_inv {m : Int} {r : List Int} (h : rdOk m r = true) : ∃ a b l, r = [a, b, l] ∧ 0 ≤ a ∧ a ≤ m - 1 ∧ a + 1 ≤ b ∧ b ≤ m ∧ 0 ≤ l ∧ l ≤ 9 := by
  match r, h with
  | [a, b, l], h =>
    simp [rdOk, btw] at h
    exact ⟨a, b, l, rfl, h.1.1, h.1.2, h.2.1.1, h.2.1.2, h.2.2.1, h.2.2.2⟩
  | [], h => simp [rdOk] at h
  | [_], h => simp [rdOk] at h
  | [_, _], h => simp [rdOk] at h
  | _ :: _ :: _ :: _ :: _, h => simp [rdOk] at h
theorem lenOk_inv {n m : Nat} (h : lenOk n m = true) : 1 ≤ n ∧ n ≤ m := by
  simp [lenOk] at h
  omega
theorem rds_of {t : Tl} (h1 : lenOk t.r.length 6 = true) (h2 : t.r.all (rdOk t.c.length) = true) : Rds t.r :=
  ⟨by have := lenOk_inv h1; omega, fun r hr => by
    obtain ⟨a, b, l, e, _⟩ := rdOk_inv (List.all_eq_true.mp h2 r hr)
    exact ⟨a, b, l, e⟩⟩
theorem tlOk_inv {t : Tl} (h : tlOk t = true) : 1 ≤ t.c.length ∧ t.c.length ≤ 12 ∧ Rds t.r ∧ 1 ≤ t.r.length ∧ t.r.length ≤ 6 ∧ crowd t.c.length t.r = false := by
  simp only [tlOk, Bool.and_eq_true, Bool.not_eq_true'] at h
  obtain ⟨⟨⟨h1, h2⟩, h3, h4⟩, h5⟩ := h
  have := lenOk_inv h1
  have := lenOk_inv h3
  exact ⟨by omega, by omega, rds_of h3 h4, by omega, by omega, h5⟩
theorem chkGo_eq {α : Type} {k : Call} {t : Tg} {i2 j2 : IE} {e : α → D} {c : α → Bool} {B : Bg} (P : Env → Prop) : ∀ {xs : List α} {env : Env}, P env →
    (∀ x ∈ xs, ∀ env, P env → ∃ e1, bindT t (e x) env = some e1 ∧ evE k i2 e1 B = some (.bl (!c x), B) ∧ raiseR k j2 e1 B = some (false, B) ∧ P e1) → chkGo k t i2 j2 (xs.map e) env B = some (xs.all c, B)
  | [], _, _, _ => rfl
  | x :: xs, env, h, st => by
    obtain ⟨e1, h1, h2, h3, h4⟩ := st x (by simp) env h
    rw [List.map_cons, chkGo, h1, ob_some, h2, bd_some]
    cases hc : c x with
    | false =>
      simp [hc]
      exact h3
    | true =>
      simp [hc]
      exact chkGo_eq P h4 fun y hy => st y (by simp [hy])
theorem chkB_eq {k : Call} {c : ChkT} {ds : List D} {B : Bg} (hl : ds.length = c.np) : chkB k c ds B = bd (evE k c.i1 (startE ⟨c.np, c.nn, .skip⟩ ds) B) fun d B1 => selD d (raiseR k c.j1 (startE ⟨c.np, c.nn, .skip⟩ ds) B1)
    (bd (evIt k c.ii (startE ⟨c.np, c.nn, .skip⟩ ds) B1) fun xs B2 => chkGo k c.t c.i2 c.j2 xs (startE ⟨c.np, c.nn, .skip⟩ ds) B2) := by
  unfold chkB
  simp only []
  rw [if_pos hl]
  congr; funext d B1
  unfold selD
  cases d <;> try rfl
  case bl b => cases b <;> rfl
section
variable {prim : PrimT} (h : NoCl prim) (n : Nat) (B : Bg)
include h
theorem ev_chk_costs (cs : List Int) : chkB (run tab prim (n + 2)) cC [tI cs] B = some (lenOk cs.length 12 && cs.all fun x => btw x 0 1000000, B) := by
  rw [chkB_eq (by rfl)]
  have go : chkGo (run tab prim (n + 2)) cC.t cC.i2 cC.j2 (enumD 0 (cs.map D.int)) [.val (tI cs), .un, .un] B = some (cs.zipIdx.all fun p => btw p.1 0 1000000, B) := by
    rw [enumD_eq]
    refine chkGo_eq (fun env => ∃ x y, env = [.val (tI cs), x, y]) ⟨_, _, rfl⟩ ?_
    rintro ⟨x, i⟩ _ env ⟨x1, x2, rfl⟩
    exact ⟨[.val (tI cs), .val (.int i), .val (.int x)], rfl, by simp [cC, ev_is_between h], by simp [raiseR, cC], _, _, rfl⟩
  have e : (cs.zipIdx.all fun p => btw p.1 0 1000000) = cs.all fun x => btw x 0 1000000 := by
    conv => rhs; rw [← List.zipIdx_map_fst 0 cs]
    rw [List.all_map]
    rfl
  rw [e] at go
  simp [cC, startE] at go ⊢
  rw [go]
  cases hk : lenOk cs.length 12 with
  | false =>
    by_cases q : (1 : Int) ≤ cs.length <;> simp [lenOk] at hk <;> simp [q, raiseR, hk]
  | true =>
    have := lenOk_inv hk
    have q : (1 : Int) ≤ cs.length := by omega
    have q2 : (cs.length : Int) ≤ 12 := by omega
    simp [q, q2]
    omega
theorem ev_chk_riders (rs : List (List Int)) (m : Nat) : chkB (run tab prim (n + 3)) cR [rsD rs, .int m] B = some (lenOk rs.length 6 && rs.all (rdOk m), B) := by
  rw [chkB_eq (by rfl)]
  have go : chkGo (run tab prim (n + 3)) cR.t cR.i2 cR.j2 (enumD 0 (rs.map tI)) [.val (rsD rs), .val (.int m), .un, .un] B = some (rs.zipIdx.all fun p => rdOk m p.1, B) := by
    rw [enumD_eq]
    refine chkGo_eq (fun env => ∃ x y, env = [.val (rsD rs), .val (.int m), x, y]) ⟨_, _, rfl⟩ ?_
    rintro ⟨x, i⟩ _ env ⟨x1, x2, rfl⟩
    exact ⟨[.val (rsD rs), .val (.int m), .val (.int i), .val (tI x)], rfl, by simp [cR, ev_is_rider h], by simp [raiseR, cR], _, _, rfl⟩
  have e : (rs.zipIdx.all fun p => rdOk m p.1) = rs.all (rdOk m) := by
    conv => rhs; rw [← List.zipIdx_map_fst 0 rs]
    rw [List.all_map]
    rfl
  rw [e] at go
  simp [cR, startE] at go ⊢
  rw [go]
  cases hk : lenOk rs.length 6 with
  | false =>
    by_cases q : (1 : Int) ≤ rs.length <;> simp [lenOk] at hk <;> simp [q, raiseR, hk]
  | true =>
    have := lenOk_inv hk
    have q : (1 : Int) ≤ rs.length := by omega
    have q2 : (rs.length : Int) ≤ 6 := by omega
    simp [q, q2]
    omega
theorem ev_init (t : Tl) : pInit (run tab prim (n + 3)) (t.c.map D.int) (rsD t.r) B = some (tlOk t, B) := by
  unfold pInit
  rw [ev_chk_costs h (n + 1) B, bd_some]
  unfold tlOk
  cases h1 : (lenOk t.c.length 12 && t.c.all fun x => btw x 0 1000000) with
  | false => simp
  | true =>
    rw [if_pos rfl, List.length_map, ev_chk_riders h n B, bd_some]
    cases h2 : (lenOk t.r.length 6 && t.r.all (rdOk t.c.length)) with
    | false => simp
    | true =>
      simp only [Bool.and_eq_true] at h1 h2
      have := lenOk_inv h1.1
      rw [if_pos rfl, ev_is_crowded h (n + 1) B (rds_of h2.1 h2.2) _ (by omega)]
      simp
theorem ev_pRide (t : Tl) : pRide (run tab prim (n + 3)) [t.d] B = some (if tlOk t = true then .ride (tI t.c) (rsD t.r) else .non, B) := by
  show bd (pInit (run tab prim (n + 3)) (t.c.map D.int) (rsD t.r) B) _ = _
  rw [ev_init h, bd_some]
end
end Cab.P
set_option Elab.async false
set_option linter.all false
set_option maxRecDepth 100000
set_option maxHeartbeats 4000000
/-! The plain part: the ranks, by the package and by the law. -/
namespace Cab.P
open PySem L2
def okO (o : Str) : Prop := o = ("number" : Str) ∨ o = ("sat" : Str) ∨ o = ("bags" : Str)
def keyO (o : Str) (r : List Int) : Int := match r with
  | [a, b, l] => if o = ("sat" : Str) then a else if o = ("bags" : Str) then -l else 0
  | _ => 0
def gK (o : Str) (rs : List (List Int)) (p : Int) : Int := keyO o (rs.getD p.toNat [])
def rk (o : Str) (rs : List (List Int)) (t : Int) : List Int := (sortP ((abd rs t).map fun p => (gK o rs p, p))).map (·.2)
theorem mem_zip {α : Type} {L : List α} {p : α × Nat} (h : p ∈ L.zipIdx) : L[p.2]? = some p.1 := by
  obtain ⟨x, i⟩ := p
  exact List.mem_zipIdx_iff_getElem?.mp h
theorem range_zip {α β : Type} (L : List α) (f : Nat → β) : (List.range L.length).map f = L.zipIdx.map fun p => f p.2 := by
  have e := List.zipIdx_map_snd 0 L
  rw [show List.range L.length = L.zipIdx.map Prod.snd from by rw [e, List.range_eq_range'], List.map_map]
  rfl
theorem abd_mem {rs : List (List Int)} {t p : Int} (h : p ∈ abd rs t) : ∃ (i : Nat) (r : List Int), p = i ∧ rs[i]? = some r := by
  unfold abd at h
  obtain ⟨⟨r, i⟩, h1, h2⟩ := List.mem_filterMap.mp h
  refine ⟨i, r, ?_, mem_zip h1⟩
  simp at h2
  exact h2.2.symm
theorem fm_congr {α β : Type} {f g : α → Option β} : ∀ {L : List α}, (∀ x ∈ L, f x = g x) → L.filterMap f = L.filterMap g
  | [], _ => rfl
  | x :: xs, h => by
    rw [List.filterMap_cons, List.filterMap_cons, h x (by simp), fm_congr (L := xs) fun y hy => h y (by simp [hy])]
/-- the pairs of key and place of those aboard -/
def prs (o : Str) (t : Int) (L : List (List Int × Nat)) : List (Int × Int) := L.filterMap fun p => if on t p.1 = true then some (keyO o p.1, (p.2 : Int)) else none
theorem prs_len (o : Str) (t : Int) (L : List (List Int × Nat)) : (prs o t L).length ≤ L.length := List.length_filterMap_le _ _
theorem prs_snoc (o : Str) (t : Int) (L : List (List Int × Nat)) (p : List Int × Nat) : prs o t (L ++ [p]) = prs o t L ++ (if on t p.1 = true then [(keyO o p.1, (p.2 : Int))] else []) := by
  unfold prs
  rw [List.filterMap_append]
  simp only [List.filterMap_cons, List.filterMap_nil]
  cases on t p.1 <;> rfl
theorem abd_pairs (rs : List (List Int)) (o : Str) (t : Int) : prs o t rs.zipIdx = (abd rs t).map fun p => (gK o rs p, p) := by
  unfold abd prs
  rw [List.map_filterMap]
  apply fm_congr
  intro p hp
  have e : rs.getD ((p.2 : Int)).toNat [] = p.1 := by
    have := mem_zip hp
    simp [this]
  unfold gK
  split
  · simp only [Option.map_some, e]
  · rfl
theorem prs_map : ∀ ps : List (Int × Int), prsOf (ps.map prD) = some ps
  | [] => rfl
  | p :: ps => by
    show ob (prsOf (ps.map prD)) _ = _
    rw [prs_map ps]
    rfl
theorem rk_len (o : Str) (rs : List (List Int)) (t : Int) : (rk o rs t).length = (abd rs t).length := by
  unfold rk
  rw [List.length_map, (sortP_perm _).length_eq, List.length_map]
section
variable {prim : PrimT} (h : NoCl prim) (n : Nat) (B : Bg)
include h
theorem ev_pRanked {rs : List (List Int)} (hr : Rds rs) {o : Str} (ho : okO o) (t : Int) : pRanked (run tab prim (n + 1)) [rsD rs, .str o, .int t] B = some (.rtup ((rk o rs t).map D.int), B) := by
  rw [pRanked_eq (ps := abd rs t) (g := gK o rs)]
  · simp [rkOf, rk, List.map_map]
  · refine ⟨fun B => ev_aboard_at h n B hr t, ?_, fun p hp B => ?_⟩
    · have := abd_len rs t
      have := hr.1
      omega
    · obtain ⟨i, r, rfl, e⟩ := abd_mem hp
      obtain ⟨a, b, l, rfl⟩ := hr.2 r (List.mem_of_getElem? e)
      rw [ev_place_of h n B e o ho]
      simp [gK, keyO, e]
theorem ev__law_ranked {rs : List (List Int)} (hr : Rds rs) (o : Str) (t : Int) : run tab prim (n + 1) ("_law_ranked" : Str) [rsD rs, .str o, .int t] B = some (lI (rk o rs t), B) := by
  rw [run_fn h t__law_ranked, runB_eq _ _ _ _ rfl]
  have lr := hr.1
  simp [i__law_ranked, startE]
  rw [rng1_nat _ _ (by omega), bd_some, range_zip]
  rw [bd_bd]
  refine for_then (fun pre env => ∃ x4 x5 x6 x7, env = [.val (rsD rs), .val (.str o), .val (.int t), .own ((prs o t pre).map prD), x4, x5, x6, x7, .un]) ⟨_, _, _, _, rfl⟩ ?_ ?_
  · rintro pre ⟨r, i⟩ post env hL ⟨x4, x5, x6, x7, rfl⟩
    have hm := mem_zip (memOf hL)
    obtain ⟨a, b, l, rfl⟩ := hr.2 r (List.mem_of_getElem? hm)
    simp at hm
    have hfl : (prs o t pre).length < 1000 := by
      have := prs_len o t pre
      have := congrArg List.length hL
      simp at this
      omega
    simp [atI_nat, hm, on, prs_snoc]
    by_cases h1 : a ≤ t <;> by_cases h2 : t < b <;> simp [h1, h2, hfl]
    by_cases h3 : o = ("sat" : Str) <;> by_cases h4 : o = ("bags" : Str) <;> simp [h3, h4, keyO, prD, ofS_inj]
  · rintro env ⟨x4, x5, x6, x7, rfl⟩
    have hl : (rk o rs t).length ≤ 900 := by
      have := rk_len o rs t
      have := abd_len rs t
      omega
    rw [abd_pairs]
    unfold rk at hl ⊢
    generalize (abd rs t).map (fun p => (gK o rs p, p)) = ps at hl ⊢
    simp [biF, prs_map]
    rw [lcGo_map (g := fun p => D.int p.2) (e := prD) (fun p _ => by simp [lcB, prD])]
    simp at hl
    simp
    omega
end
end Cab.P
set_option Elab.async false
set_option linter.all false
set_option maxRecDepth 100000
set_option maxHeartbeats 4000000
/-! The plain part: forms and fares. -/
namespace Cab.P
open PySem L2
structure PrR (prim : PrimT) : Prop where
  nc : NoCl prim
  cm : prim ("common" : Str) = some pCommon
  rk : ∃ p2 m, NoCl p2 ∧ prim ("ranked_at" : Str) = some (pRanked (run tab p2 (m + 1)))
  rd : ∃ p2 m, NoCl p2 ∧ prim ("ride_of" : Str) = some (pRide (run tab p2 (m + 3)))
theorem PrR.ranked {prim : PrimT} (h : PrR prim) (n : Nat) (B : Bg) {rs : List (List Int)} (hr : Rds rs) {o : Str} (ho : okO o) (t : Int) : run tab prim n ("ranked_at" : Str) [rsD rs, .str o, .int t] B = some (.rtup ((Cab.P.rk o rs t).map D.int), B) := by
  obtain ⟨p2, m, h2, e⟩ := h.rk
  rw [run_pr e, ev_pRanked h2 m B hr ho]
theorem PrR.ride {prim : PrimT} (h : PrR prim) (n : Nat) (B : Bg) (t : Tl) : run tab prim n ("ride_of" : Str) [t.d] B = some (if tlOk t = true then .ride (tI t.c) (rsD t.r) else .non, B) := by
  obtain ⟨p2, m, h2, e⟩ := h.rd
  rw [run_pr e, ev_pRide h2 m B]
abbrev Fm := Int × List Int
abbrev fP (f : Fm) : D := .tup [.int f.1, tI f.2]
abbrev fL (f : Fm) : D := .tup [.int f.1, lI f.2]
def z10 : List Int := [0, 0, 0, 0, 0, 0, 0, 0, 0, 0]
def addAt (v : List Int) (i : Nat) (c : Int) : List Int := v.set i (v.getD i 0 + c)
def adds (L : List (Nat × Int)) (v : List Int) : List Int := L.foldl (fun v p => addAt v p.1 p.2) v
@[simp] theorem addAt_len (v : List Int) (i : Nat) (c : Int) : (addAt v i c).length = v.length := by simp [addAt]
@[simp] theorem adds_len : ∀ (L : List (Nat × Int)) (v : List Int), (adds L v).length = v.length
  | [], _ => rfl
  | p :: L, v => by
    show (adds L (addAt v p.1 p.2)).length = _
    rw [adds_len L, addAt_len]
theorem adds_snoc (L : List (Nat × Int)) (p : Nat × Int) (v : List Int) : adds (L ++ [p]) v = addAt (adds L v) p.1 p.2 := by
  unfold adds
  rw [List.foldl_append]
  rfl
@[simp] theorem z10_len : z10.length = 10 := rfl
def spot (n j : Nat) : Nat := n * (n - 1) / 2 + j
theorem spot_lt {n j : Nat} (hn : n ≤ 4) (hj : j < n) : spot n j < 10 := by
  unfold spot
  match n, hn, hj with
  | 1, _, _ => omega
  | 2, _, _ => omega
  | 3, _, _ => omega
  | 4, _, _ => omega
theorem spot_int {n : Nat} (j : Nat) (hn : n ≤ 4) : (n : Int) * ((n : Int) - 1) / 2 + (j : Int) = (spot n j : Int) := by
  unfold spot
  match n, hn with
  | 0, _ => simp
  | 1, _ => simp
  | 2, _ => simp
  | 3, _ => simp
  | 4, _ => simp
theorem ixN_nat {m i : Nat} (h : i < m) : ixN m (i : Int) = some i := by
  unfold ixN
  rw [if_pos (by omega), if_pos (by omega)]
  simp
theorem set_map (v : List Int) (i : Nat) (c : Int) : (v.map D.int).set i (D.int c) = (v.set i c).map D.int := by rw [List.map_set]
theorem idxI_lt {k : Int} : ∀ {ns : List Int} {j : Nat}, idxI k ns = some j → j < ns.length
  | [], _, h => by cases h
  | a :: r, j, h => by
    unfold idxI at h
    split at h
    · cases h; simp
    · obtain ⟨i, e, h⟩ := ob_inv h
      cases h
      have := idxI_lt e
      simp
      omega
theorem idxI_cons (k a : Int) (r : List Int) : idxI k (a :: r) = if a = k then some 0 else ob (idxI k r) fun j => some (j + 1) := rfl
theorem any_idx (k : Int) : ∀ ns : List Int, (ns.any fun z => eqF (.int z) (.int k)) = (idxI k ns).isSome
  | [] => rfl
  | a :: r => by
    rw [List.any_cons, any_idx k r, idxI_cons]
    by_cases q : a = k
    · simp [q, eqF]
    · rw [if_neg q]
      have e : eqF (.int a) (.int k) = false := by simp [eqF, q]
      rw [e]
      cases idxI k r <;> rfl
theorem inDt_seq (y : D) (k : Int) (ns : List Int) (hy : seqOf y = some (ns.map D.int)) : inDt (.int k) y = some (idxI k ns).isSome := by
  unfold inDt
  rw [hy, ob_some, ← any_idx]
  rw [if_pos ⟨rfl, by simp [isFlat]⟩, List.any_map]
  rfl
theorem idxD_seq (y : D) (k : Int) (ns : List Int) (hy : idOf y = some (ns.map D.int)) : idxD y (.int k) = ob (idxI k ns) fun j => some (D.int j) := by
  unfold idxD
  rw [hy, ob_some, ints_map, ob_some]
@[simp] theorem inDt_rt (k : Int) (ns : List Int) : inDt (.int k) (.rtup (ns.map D.int)) = some (idxI k ns).isSome := inDt_seq _ k ns rfl
@[simp] theorem inDt_l (k : Int) (ns : List Int) : inDt (.int k) (.lst (ns.map D.int)) = some (idxI k ns).isSome := inDt_seq _ k ns rfl
@[simp] theorem idxD_rt (k : Int) (ns : List Int) : idxD (.rtup (ns.map D.int)) (.int k) = ob (idxI k ns) fun j => some (D.int j) := idxD_seq _ k ns rfl
@[simp] theorem idxD_l (k : Int) (ns : List Int) : idxD (.lst (ns.map D.int)) (.int k) = ob (idxI k ns) fun j => some (D.int j) := idxD_seq _ k ns rfl
section
variable {prim : PrimT} (h : NoCl prim) (n : Nat) (B : Bg)
include h
theorem ev_place_in_row (c r : Int) (hc : 0 ≤ c ∧ c ≤ 1000) : run tab prim (n + 1) ("place_in_row" : Str) [.int c, .int r] B = some (.int (c * (c - 1) / 2 + r - 1), B) := by
  rw [run_fn h t_place_in_row, runB_eq _ _ _ _ rfl]
  have e := o_mul (i := c) (j := c - 1) (.inl (smallM_of (by omega)))
  have e2 := o_div (i := c * (c - 1)) (j := 2) (by omega)
  simp [i_place_in_row, startE, e, e2]
def placesL : List D := [.tup [.int 1, .int 1], .tup [.int 2, .int 1], .tup [.int 2, .int 2], .tup [.int 3, .int 1], .tup [.int 3, .int 2], .tup [.int 3, .int 3], .tup [.int 4, .int 1], .tup [.int 4, .int 2], .tup [.int 4, .int 3], .tup [.int 4, .int 4]]
omit h in
theorem placesL_len : placesL.length = 10 := rfl
theorem ev_places : run tab prim (n + 1) ("places" : Str) [] B = some (.lst placesL, B) := by
  rw [run_fn h t_places, runB_eq _ _ _ _ rfl]
  kernel_rfl
theorem ev_form_of (x : Int) (L : List (Nat × Int)) (hL : ∀ p ∈ L, p.1 < 10) : run tab prim (n + 2) ("form_of" : Str) [.int x, .lst (L.map fun p => .tup [.int p.1, .int p.2])] B = some (fP (x, adds L z10), B) := by
  rw [run_fn h t_form_of, runB_eq _ _ _ _ rfl]
  have e : opB .mul (.lst [.int 0]) (.int 10) = some (lI z10) := by rfl
  simp [i_form_of, startE, ev_places h, placesL_len, e]
  rw [bd_bd]
  refine for_then (fun pre env => ∃ x3 x4, env = [.val (.int x), .val (.lst (L.map fun p => .tup [.int p.1, .int p.2])), .own ((adds pre z10).map D.int), x3, x4]) ⟨_, _, rfl⟩ ?_ ?_
  · rintro pre ⟨i, c⟩ post env hq ⟨x3, x4, rfl⟩
    have hi : i < 10 := hL _ (memOf hq)
    simp [ixN_nat hi, adds_snoc, addAt, hi]
  · rintro env ⟨x3, x4, rfl⟩
    simp
theorem ev_form_of0 (x : Int) : run tab prim (n + 2) ("form_of" : Str) [.int x, .lst []] B = some (fP (x, z10), B) := ev_form_of h n B x [] (by simp)
end
@[simp] theorem fld_c (c r : D) : fldD .costs (.ride c r) = some c := nrfl rfl
@[simp] theorem fld_r (c r : D) : fldD .riders (.ride c r) = some r := nrfl rfl
theorem crowd_le {m : Nat} {rs : List (List Int)} (h : crowd m rs = false) {i : Nat} (hi : i < m) : (abd rs i).length ≤ 4 := by
  unfold crowd at h
  rw [List.any_eq_false] at h
  have := h i (by simpa using hi)
  simp at this
  omega
def fpart (o : Str) (k : Int) (rs : List (List Int)) (p : Int × Nat) : Option (Nat × Int) := (idxI k (rk o rs p.2)).map fun j => (spot (rk o rs p.2).length j, p.1)
def fps (o : Str) (k : Int) (rs : List (List Int)) (L : List (Int × Nat)) : List (Nat × Int) := L.filterMap (fpart o k rs)
def far (o : Str) (t : Tl) (k : Int) : List Int := adds (fps o k t.r t.c.zipIdx) z10
theorem far_len (o : Str) (t : Tl) (k : Int) : (far o t k).length = 10 := by simp [far]
theorem fps_len (o : Str) (k : Int) (rs : List (List Int)) (L : List (Int × Nat)) : (fps o k rs L).length ≤ L.length := List.length_filterMap_le _ _
theorem fps_none {o : Str} {k : Int} {rs : List (List Int)} {L : List (Int × Nat)} {p : Int × Nat} (e : idxI k (rk o rs p.2) = none) : fps o k rs (L ++ [p]) = fps o k rs L := by
  unfold fps
  rw [List.filterMap_append]
  simp [fpart, e]
theorem fps_some {o : Str} {k : Int} {rs : List (List Int)} {L : List (Int × Nat)} {p : Int × Nat} {j : Nat} (e : idxI k (rk o rs p.2) = some j) : fps o k rs (L ++ [p]) = fps o k rs L ++ [(spot (rk o rs p.2).length j, p.1)] := by
  unfold fps
  rw [List.filterMap_append]
  simp [fpart, e]
theorem fps_lt {o : Str} {k : Int} {t : Tl} (ht : tlOk t = true) : ∀ p ∈ fps o k t.r t.c.zipIdx, p.1 < 10 := by
  intro p hp
  obtain ⟨q, hq, e⟩ := List.mem_filterMap.mp hp
  unfold fpart at e
  cases hj : idxI k (rk o t.r q.2) with
  | none =>
    rw [hj] at e
    cases e
  | some j =>
    rw [hj] at e
    cases e
    have h1 := idxI_lt hj
    have h2 := crowd_le (tlOk_inv ht).2.2.2.2.2 (i := q.2) (by
      obtain ⟨x, i⟩ := q
      have := List.mem_zipIdx_iff_getElem?.mp hq
      simp at this
      exact (List.getElem?_eq_some_iff.mp this).1)
    rw [← rk_len o] at h2
    exact spot_lt h2 h1
theorem map_zip {α β : Type} (L : List α) (f : α → β) : L.map f = L.zipIdx.map fun p => f p.1 := by
  conv => lhs; rw [← List.zipIdx_map_fst 0 L]
  rw [List.map_map]
  rfl
section
variable {prim : PrimT} (n : Nat) (B : Bg)
theorem ev_fare_form (h : PrR prim) {t : Tl} (ht : tlOk t = true) {o : Str} (ho : okO o) (k : Int) : run tab prim (n + 3) ("fare_form" : Str) [.ride (tI t.c) (rsD t.r), .str o, .int k] B = some (fP (0, far o t k), B) := by
  obtain ⟨_, _, hr, _, _, hcr⟩ := tlOk_inv ht
  rw [run_fn h.nc t_fare_form, runB_eq _ _ _ _ rfl]
  simp [i_fare_form, startE, enumD_eq]
  rw [bd_bd]
  refine for_then (fun pre env => ∃ x4 x5 x6, env = [.val (.ride (tI t.c) (rsD t.r)), .val (.str o), .val (.int k), .own ((fps o k t.r pre).map fun p => .tup [.int p.1, .int p.2]), x4, x5, x6]) ⟨_, _, _, rfl⟩ ?_ ?_
  · rintro pre ⟨c, i⟩ post env hL ⟨x4, x5, x6, rfl⟩
    have hm := mem_zip (memOf hL)
    simp at hm
    have hi := (List.getElem?_eq_some_iff.mp hm).1
    have h2 := crowd_le hcr hi
    rw [← rk_len o] at h2
    have hl := fps_len o k t.r pre
    have hl2 : (fps o k t.r pre).length < 1000 := by
      have := congrArg List.length hL
      have := (tlOk_inv ht).2.1
      simp at *
      omega
    simp [h.ranked _ _ hr ho]
    cases hj : idxI k (rk o t.r i) with
    | none => simp [fps_none (p := (c, i)) hj]
    | some j =>
      have e := spot_int j h2
      have e2 := ev_place_in_row h.nc (n + 1) B ((rk o t.r i).length : Int) ((j : Int) + 1) (by omega)
      have e3 : ((rk o t.r i).length : Int) * (((rk o t.r i).length : Int) - 1) / 2 + ((j : Int) + 1) - 1 = (spot (rk o t.r i).length j : Int) := by omega
      rw [e3] at e2
      simp [fps_some (p := (c, i)) hj, e2, hl2]
  · rintro env ⟨x4, x5, x6, rfl⟩
    simp [ev_form_of h.nc _ _ _ _ (fps_lt ht), far]
theorem ev__law_fare (h : NoCl prim) {t : Tl} (ht : tlOk t = true) (o : Str) (k : Int) : run tab prim (n + 2) ("_law_fare" : Str) [t.d, .str o, .int k] B = some (fL (0, far o t k), B) := by
  obtain ⟨_, _, hr, _, _, hcr⟩ := tlOk_inv ht
  rw [run_fn h t__law_fare, runB_eq _ _ _ _ rfl]
  have e : opB .mul (.lst [.int 0]) (.int 10) = some (lI z10) := by rfl
  simp [i__law_fare, startE, e]
  rw [rng1_nat _ _ (by have := (tlOk_inv ht).2.1; omega), bd_some, range_zip, bd_bd]
  refine for_then (fun pre env => ∃ x4 x5 x6, env = [.val t.d, .val (.str o), .val (.int k), .own ((adds (fps o k t.r pre) z10).map D.int), x4, x5, x6]) ⟨_, _, _, rfl⟩ ?_ ?_
  · rintro pre ⟨c, i⟩ post env hL ⟨x4, x5, x6, rfl⟩
    have hm := mem_zip (memOf hL)
    simp at hm
    have hi := (List.getElem?_eq_some_iff.mp hm).1
    have h2 := crowd_le hcr hi
    rw [← rk_len o] at h2
    simp [ev__law_ranked h n B hr o i]
    cases hj : idxI k (rk o t.r i) with
    | none => simp [fps_none (p := (c, i)) hj]
    | some j =>
      have hlt := spot_lt h2 (idxI_lt hj)
      have e1 := o_mul (i := ((rk o t.r i).length : Int)) (j := ((rk o t.r i).length : Int) - 1) (.inl (smallM_of (by omega)))
      have e2 := o_div (i := ((rk o t.r i).length : Int) * (((rk o t.r i).length : Int) - 1)) (j := 2) (by omega)
      simp [fps_some (p := (c, i)) hj, e1, e2, spot_int j h2, ixN_nat, hlt, atI_nat, adds_snoc, addAt, hm]
  · rintro env ⟨x4, x5, x6, rfl⟩
    simp [far]
end
end Cab.P
set_option Elab.async false
set_option linter.all false
set_option maxRecDepth 100000
set_option maxHeartbeats 4000000
/-! The plain part: sums of forms, customs. -/
namespace Cab.P
open PySem L2
def jn (a : Fm) (p : Int) (b : Fm) (q : Int) : Fm := (p * a.1 + q * b.1, (a.2.zip b.2).map fun z => p * z.1 + q * z.2)
@[simp] theorem forGo_nil {t : Tg} {f : Env → Bg → Option (Out × Bg)} {env : Env} {B : Bg} : forGo t f [] env B = some (.nx env, B) := nrfl rfl
theorem forGo_cons {t : Tg} {f : Env → Bg → Option (Out × Bg)} {x : D} {xs : List D} {env : Env} {B : Bg} : forGo t f (x :: xs) env B = ob (bindT t x env) fun e1 => bd (f e1 B) fun o B1 => thenD o (fun e2 => forGo t f xs e2 B1) B1 := by
  rw [forGo]
  congr <;> funext e1 <;> congr <;> funext o B1 <;> cases o <;> rfl
/-! data that == reads -/
def PyOk (n : Nat) (d : D) : Prop := ∃ p, toPy d = some p ∧ p.canLay0 = true ∧ p.depth ≤ n
theorem PyOk.mono {n m : Nat} {d : D} (h : PyOk n d) (hm : n ≤ m) : PyOk m d := by
  obtain ⟨p, h1, h2, h3⟩ := h
  exact ⟨p, h1, h2, Nat.le_trans h3 hm⟩
theorem pyOk_int {n : Nat} (i : Int) : PyOk n (.int i) := ⟨.int i, rfl, rfl, Nat.zero_le _⟩
theorem pyOk_non {n : Nat} : PyOk n .non := ⟨.none, rfl, rfl, Nat.zero_le _⟩
theorem pyOk_str {n : Nat} {s : Str} (h : PyData.canLay0 (.str s) = true) : PyOk n (.str s) := ⟨.str s, rfl, h, Nat.zero_le _⟩
theorem pyOks {n : Nat} : ∀ {xs : List D}, (∀ x ∈ xs, PyOk n x) → ∃ ps, toPys xs = some ps ∧ PyData.canLayAll0 ps = true ∧ PyData.depthAll ps ≤ n ∧ ps.length = xs.length
  | [], _ => ⟨[], rfl, rfl, Nat.zero_le _, rfl⟩
  | x :: xs, h => by
    obtain ⟨p, h1, h2, h3⟩ := h x (by simp)
    obtain ⟨ps, h4, h5, h6, h7⟩ := pyOks fun y hy => h y (List.mem_cons_of_mem _ hy)
    refine ⟨p :: ps, ?_, ?_, ?_, by simp [h7]⟩
    · show ob (toPy x) _ = _
      rw [h1, ob_some, h4, ob_some]
    · show (PyData.canLay0 p && PyData.canLayAll0 ps) = true
      rw [h2, h5]
      rfl
    · show max (PyData.depth p) (PyData.depthAll ps) ≤ n
      omega
theorem pyOk_tup {n : Nat} {xs : List D} (h : ∀ x ∈ xs, PyOk n x) : PyOk (n + 1) (.tup xs) := by
  obtain ⟨ps, h1, h2, h3, _⟩ := pyOks h
  refine ⟨.tuple ps, ?_, h2, ?_⟩
  · show ob (toPys xs) _ = _
    rw [h1, ob_some]
  · show PyData.depthAll ps + 1 ≤ n + 1
    omega
theorem pyOk_ints {n : Nat} (xs : List Int) : PyOk (n + 1) (tI xs) := pyOk_tup fun x hx => by
  obtain ⟨i, _, rfl⟩ := List.mem_map.mp hx
  exact pyOk_int i
theorem pyOk_rs {n : Nat} (rs : List (List Int)) : PyOk (n + 2) (rsD rs) := pyOk_tup fun x hx => by
  obtain ⟨r, _, rfl⟩ := List.mem_map.mp hx
  exact pyOk_ints r
theorem shaped_of {p : PyData} {n : Nat} (h2 : p.canLay0 = true) (h3 : p.depth ≤ n) (hn : n ≤ 64) : SeqAt.shaped p = true := by
  unfold SeqAt.shaped
  rw [h2, decide_eq_true (Nat.le_trans h3 hn)]
  rfl
theorem eqD_ts {n : Nat} {xs : List D} (h : PyOk n (.tup xs)) (hn : n ≤ 64) {s : Str} (hs : PyData.canLay0 (.str s) = true) : eqD (.tup xs) (.str s) = some false := by
  obtain ⟨p, h1, h2, h3⟩ := h
  show ob (toPy (.tup xs)) _ = _
  rw [h1, ob_some]
  show ob (some (PyData.str s)) _ = _
  rw [ob_some, if_pos ⟨shaped_of h2 h3 hn, shaped_of hs (n := 0) (Nat.le_refl _) (by omega)⟩]
  obtain ⟨ps, _, e⟩ := ob_inv h1
  cases e
  rfl
theorem eqD_t0 {n : Nat} {x : D} {xs : List D} (h : PyOk n (.tup (x :: xs))) (hn : n ≤ 64) : eqD (.tup (x :: xs)) (.tup []) = some false := by
  obtain ⟨p, h1, h2, h3⟩ := h
  show ob (toPy (.tup (x :: xs))) _ = _
  rw [h1, ob_some]
  show ob (some (PyData.tuple [])) _ = _
  rw [ob_some, if_pos ⟨shaped_of h2 h3 hn, rfl⟩]
  obtain ⟨ps, e0, e⟩ := ob_inv h1
  cases e
  obtain ⟨p1, _, e0⟩ := ob_inv e0
  obtain ⟨p2, _, e0⟩ := ob_inv e0
  cases e0
  rfl
/-! customs -/
def clOk : List Int → Bool
  | [n, j, m, i, p, q] => (btw n 1 4 && btw j 1 n) && (btw m 1 4 && btw i 1 m) && (btw p 0 100 && btw q 1 100)
  | _ => false
inductive Cu where
  | w (s : Str)
  | r (rs : List (List Int))
abbrev Cu.d : Cu → D
  | .w s => .str s
  | .r rs => rsD rs
def wOk (s : Str) : Bool := g_WORDS.any (· == s)
def cuOk : Cu → Bool
  | .w s => wOk s
  | .r rs => decide ((rs.length : Int) ≤ 12) && rs.all clOk
section
variable {prim : PrimT} (h : NoCl prim) (n : Nat) (B : Bg)
include h
theorem ev_joined (a b : Fm) (p q : Int) (hp : smallM p = true) (hq : smallM q = true) (ha : a.2.length ≤ 900) : run tab prim (n + 1) ("joined" : Str) [fP a, .int p, fP b, .int q] B = some (fP (jn a p b q), B) := by
  rw [run_fn h t_joined, runB_eq _ _ _ _ rfl]
  have m1 : ∀ x : Int, opB .mul (.int p) (.int x) = some (.int (p * x)) := fun x => o_mul (.inl hp)
  have m2 : ∀ x : Int, opB .mul (.int q) (.int x) = some (.int (q * x)) := fun x => o_mul (.inl hq)
  simp [i_joined, startE, zipD_eq, m1, m2]
  rw [lcGo_map (g := fun z : Int × Int => D.int (p * z.1 + q * z.2))]
  · simp [jn, m1, m2]
    omega
  · rintro ⟨x, y⟩ _
    simp [lcB, m1, m2]
theorem ev__law_mix (a b : Fm) (p q : Int) (hp : smallM p = true) (hq : smallM q = true) (ha : a.2.length = 10) (hb : b.2.length = 10) : run tab prim (n + 1) ("_law_mix" : Str) [fL a, .int p, fL b, .int q] B = some (fL (jn a p b q), B) := by
  rw [run_fn h t__law_mix, runB_eq _ _ _ _ rfl]
  have m1 : ∀ x : Int, opB .mul (.int p) (.int x) = some (.int (p * x)) := fun x => o_mul (.inl hp)
  have m2 : ∀ x : Int, opB .mul (.int q) (.int x) = some (.int (q * x)) := fun x => o_mul (.inl hq)
  simp [i__law_mix, startE, m1, m2]
  have e := rng1_nat 10 B (by omega)
  rw [show (10 : Int) = ((10 : Nat) : Int) from rfl, e]
  have hz : (a.2.zip b.2).length = 10 := by simp [ha, hb]
  rw [← hz, range_zip, bd_some]
  rw [lcGo_map (g := fun z : (Int × Int) × Nat => D.int (p * z.1.1 + q * z.1.2))]
  · rw [← map_zip (a.2.zip b.2) (fun z => D.int (p * z.1 + q * z.2))]
    simp [jn, ha, hb, m1, m2]
  · rintro ⟨⟨x, y⟩, i⟩ hm
    have e1 := mem_zip hm
    obtain ⟨e2, e3⟩ := List.getElem?_zip_eq_some.mp e1
    simp at e2 e3
    simp [lcB, m1, m2, atI_nat, e2, e3]
theorem ev_joinedP (x y : Int) (as bs : List Int) (p q : Int) (hp : smallM p = true) (hq : smallM q = true) (ha : as.length ≤ 900) : run tab prim (n + 1) ("joined" : Str) [.tup [.int x, tI as], .int p, .tup [.int y, tI bs], .int q] B = some (fP (jn (x, as) p (y, bs) q), B) := ev_joined h n B (x, as) (y, bs) p q hp hq ha
theorem ev__law_mixP (x y : Int) (as bs : List Int) (p q : Int) (hp : smallM p = true) (hq : smallM q = true) (ha : as.length = 10) (hb : bs.length = 10) : run tab prim (n + 1) ("_law_mix" : Str) [.tup [.int x, lI as], .int p, .tup [.int y, lI bs], .int q] B = some (fL (jn (x, as) p (y, bs) q), B) := ev__law_mix h n B (x, as) (y, bs) p q hp hq ha hb
theorem ev__law_whole (i lo hi : Int) : run tab prim (n + 1) ("_law_whole" : Str) [.int i, .int lo, .int hi] B = some (.bl (btw i lo hi), B) := by
  rw [run_fn h t__law_whole, runB_eq _ _ _ _ rfl]
  simp [i__law_whole, startE, btw]
theorem ev__law_from (i : Int) : run tab prim (n + 1) ("_law_from" : Str) [.int i] B = some (.bl (decide (0 ≤ i)), B) := by
  rw [run_fn h t__law_from, runB_eq _ _ _ _ rfl]
  simp [i__law_from, startE]
theorem ev_is_clause (r : List Int) : run tab prim (n + 3) ("is_clause" : Str) [tI r] B = some (.bl (clOk r), B) := by
  rw [run_fn h t_is_clause, runB_eq _ _ _ _ rfl]
  by_cases hl : r.length = 6
  · obtain ⟨a, b, c, d, e, f, rfl⟩ : ∃ a b c d e f, r = [a, b, c, d, e, f] := by
      match r, hl with
      | [a, b, c, d, e, f], _ => exact ⟨a, b, c, d, e, f, rfl⟩
    have s1 : slD (tI [a, b, c, d, e, f]) .non (.int 2) = some (.tup [.int a, .int b]) := rfl
    have s2 : slD (tI [a, b, c, d, e, f]) (.int 2) (.int 4) = some (.tup [.int c, .int d]) := rfl
    simp [i_is_clause, startE, s1, s2, forGo_cons, ev_is_between h, clOk]
    cases btw a 1 4 <;> cases btw b 1 a <;> cases btw c 1 4 <;> cases btw d 1 c <;> simp
  · have hl' : ¬ ((r.length : Int) = 6) := by omega
    have e : clOk r = false := by
      unfold clOk
      split
      · simp at hl
      · rfl
    simp [i_is_clause, startE, hl', e]
omit h in
theorem clOk_len {r : List Int} (hl : ¬ r.length = 6) : clOk r = false := by
  unfold clOk
  split
  · simp at hl
  · rfl
omit h in
theorem six {r : List Int} (hl : r.length = 6) : ∃ a b c d e f, r = [a, b, c, d, e, f] := by
  match r, hl with
  | [a, b, c, d, e, f], _ => exact ⟨a, b, c, d, e, f, rfl⟩
omit h in
@[simp] theorem lcGo_nil {f : D → Bg → Option (Option D × Bg)} {B : Bg} : lcGo f [] B = some ([], B) := nrfl rfl
omit h in
theorem lcGo_cons {f : D → Bg → Option (Option D × Bg)} {x : D} {xs : List D} {B : Bg} : lcGo f (x :: xs) B = bd (f x B) fun o B1 => bd (lcGo f xs B1) fun ys B2 => some (o.toList ++ ys, B2) := by
  rw [lcGo]
  congr <;> funext o B1 <;> congr <;> funext ys B2 <;> cases o <;> rfl
theorem ev_is_custom (cu : Cu) (hl : ∀ rs, cu = .r rs → rs.length ≤ 900) : run tab prim (n + 4) ("is_custom" : Str) [cu.d] B = some (.bl (cuOk cu), B) := by
  rw [run_fn h t_is_custom, runB_eq _ _ _ _ rfl]
  cases cu with
  | w s => simp [i_is_custom, startE, cuOk, wOk]
  | r rs =>
    have := hl rs rfl
    simp [i_is_custom, startE]
    rw [lcGo_map (g := fun r => D.bl (clOk r)) (fun r _ => by simp [lcB, ev_is_clause h])]
    by_cases hk : (rs.length : Int) ≤ 12
    · have h2 : rs.length ≤ 1000 := by omega
      simp [hk, cuOk, h2]
    · simp [hk, cuOk]
omit h in
theorem inDt_strs (s : Str) (ws : List Str) : inDt (.str s) (.lst (ws.map D.str)) = some (ws.any (· == s)) := by
  unfold inDt
  rw [seq_lst, ob_some, if_pos ⟨rfl, by simp [isFlat]⟩, List.any_map]
  rfl
omit h in
@[simp] theorem b_all6 (a b c d e f : Bool) : biF .all [.lst [.bl a, .bl b, .bl c, .bl d, .bl e, .bl f]] = some (.bl (a && (b && (c && (d && (e && f)))))) := by
  have e := b_all (id : Bool → Bool) [a, b, c, d, e, f]
  simpa using e
theorem ev__law_is_custom (cu : Cu) : run tab prim (n + 2) ("_law_is_custom" : Str) [cu.d] B = some (.bl (cuOk cu), B) := by
  rw [run_fn h t__law_is_custom, runB_eq _ _ _ _ rfl]
  cases cu with
  | w s =>
    have e := inDt_strs s g_WORDS
    simp [g_WORDS] at e
    simp [i__law_is_custom, startE, cuOk, wOk, e, g_WORDS]
  | r rs =>
    simp [i__law_is_custom, startE]
    by_cases hk : (rs.length : Int) ≤ 12
    · have hk2 : ¬ (12 : Int) < rs.length := by omega
      simp [hk2]
      rw [bd_bd]
      refine for_test (fun env => ∃ x1 x2 x3 x4 x5 x6 x7 x8, env = [.val (rsD rs), x1, x2, x3, x4, x5, x6, x7, x8]) (fun r => !clOk r) ⟨_, _, _, _, _, _, _, _, rfl⟩ (d := .bl false) ?_ ?_ ?_
      · rintro r _ env ⟨x1, x2, x3, x4, x5, x6, x7, x8, rfl⟩
        refine ⟨_, rfl, ?_⟩
        by_cases hl : r.length = 6
        · obtain ⟨a, b, c, d, e, f, rfl⟩ := six hl
          simp [lcB, lcGo_cons, ev__law_whole h, clOk]
          simp only [btw, Bool.and_eq_true, Bool.and_eq_false_iff, decide_eq_true_eq, decide_eq_false_iff_not]
          refine ⟨by omega, fun h1 h2 h3 h4 h5 h6 => ?_⟩
          rw [if_neg (by omega), if_neg (by omega), if_neg (by omega), if_neg (by omega)]
          exact ⟨_, rfl, _, _, _, _, _, _, _, _, rfl⟩
        · have hl' : ¬ ((r.length : Int) = 6) := by omega
          simp [clOk_len hl, hl']
      · intro e
        have e2 : cuOk (.r rs) = false := by
          simp [cuOk, hk] at e ⊢
          exact e
        simp [e2]
      · rintro e env ⟨x1, x2, x3, x4, x5, x6, x7, x8, rfl⟩
        have e2 : cuOk (.r rs) = true := by
          simp [cuOk, hk] at e ⊢
          exact e
        simp [e2]
    · have hk2 : (12 : Int) < rs.length := by omega
      simp [hk2, cuOk, hk]
/-! the clauses of a custom -/
omit h in
theorem eqD_tw (rs : List (List Int)) (s : Str) (hs : PyData.canLay0 (.str s) = true) : eqD (rsD rs) (.str s) = some false := eqD_ts (pyOk_rs (n := 0) rs) (by omega) hs
def lastL : List (List Int) := [[2, 1, 1, 1, 1, 1], [2, 2, 1, 1, 1, 1], [3, 1, 2, 1, 1, 1], [3, 2, 2, 1, 1, 1], [3, 2, 2, 2, 1, 1], [3, 3, 2, 2, 1, 1], [4, 1, 3, 1, 1, 1], [4, 2, 3, 1, 1, 1], [4, 2, 3, 2, 1, 1], [4, 3, 3, 2, 1, 1], [4, 3, 3, 3, 1, 1], [4, 4, 3, 3, 1, 1]]
def halvL : List (List Int) := [[2, 1, 2, 2, 2, 1], [3, 1, 3, 2, 2, 1], [3, 2, 3, 3, 2, 1], [4, 1, 4, 2, 2, 1], [4, 2, 4, 3, 2, 1], [4, 3, 4, 4, 2, 1]]
def rules : Cu → List (List Int)
  | .w s => if s = ("lasting" : Str) then lastL else if s = ("halved" : Str) then halvL else []
  | .r rs => rs
omit h in
theorem wOk_inv {s : Str} (hs : wOk s = true) : s = ("falling" : Str) ∨ s = ("lasting" : Str) ∨ s = ("halved" : Str) := by
  simp [wOk, g_WORDS] at hs
  rcases hs with e | e | e <;> simp [e]
theorem ev_lasting : run tab prim (n + 1) ("lasting_clauses" : Str) [] B = some (rsD lastL, B) := by
  rw [run_fn h t_lasting_clauses, runB_eq _ _ _ _ rfl]
  kernel_rfl
theorem ev_halved : run tab prim (n + 1) ("halved_clauses" : Str) [] B = some (rsD halvL, B) := by
  rw [run_fn h t_halved_clauses, runB_eq _ _ _ _ rfl]
  kernel_rfl
theorem ev_clauses_of (cu : Cu) (hc : cuOk cu = true) : run tab prim (n + 2) ("clauses_of" : Str) [cu.d] B = some (rsD (rules cu), B) := by
  rw [run_fn h t_clauses_of, runB_eq _ _ _ _ rfl]
  cases cu with
  | w s => rcases wOk_inv hc with rfl | rfl | rfl <;> simp [i_clauses_of, startE, ofS_inj, ev_lasting h, ev_halved h, rules]
  | r rs => simp [i_clauses_of, startE, rules]
theorem ev__law_rules (cu : Cu) (hc : cuOk cu = true) : run tab prim (n + 1) ("_law_rules" : Str) [cu.d] B = some (.lst ((rules cu).map tI), B) := by
  rw [run_fn h t__law_rules, runB_eq _ _ _ _ rfl]
  cases cu with
  | w s =>
    rcases wOk_inv hc with rfl | rfl | rfl
    · kernel_rfl
    · kernel_rfl
    · kernel_rfl
  | r rs =>
    have e1 := eqD_tw rs ("lasting" : Str) (by decide +kernel)
    have e2 := eqD_tw rs ("halved" : Str) (by decide +kernel)
    have e3 : opC .eq (rsD rs) (.str ("lasting" : Str)) = some false := e1
    have e4 : opC .eq (rsD rs) (.str ("halved" : Str)) = some false := e2
    simp [i__law_rules, startE, e3, e4, rules]
end
end Cab.P
set_option Elab.async false
set_option linter.all false
set_option maxRecDepth 100000
set_option maxHeartbeats 4000000
/-! The plain part: the rooms of all conditions. -/
namespace Cab.P
open PySem L2
def oI : Option Int → D
  | some i => .int i
  | none => .non
structure Slp where
  t : Tl
  a : List (Option Int)
  p : Int
abbrev Slp.d (s : Slp) : D := .tup [s.t.d, .tup (s.a.map oI), .int s.p]
/-- a receipt of the package -/
abbrev Slp.rc (s : Slp) : D := .tup [.ride (tI s.t.c) (rsD s.t.r), .tup (s.a.map oI), .int s.p]
def amOk (x : Option Int) : Bool := match x with
  | some i => btw i 0 100000000
  | none => true
def slpOk (s : Slp) : Bool := tlOk s.t && (decide (s.a.length = s.t.r.length) && (s.a.all amOk && btw s.p 0 1000))
def slpsOk (ss : List Slp) : Bool := decide ((ss.length : Int) ≤ 6) && ss.all slpOk
def clF : List Int → Fm
  | [n, j, m, i, p, q] => (0, adds [(spot m.toNat (i.toNat - 1), p), (spot n.toNat (j.toNat - 1), -q)] z10)
  | _ => (0, z10)
theorem clF_len (r : List Int) : (clF r).2.length = 10 := by
  unfold clF
  split <;> simp
def amF (o : Str) (s : Slp) (x : Option Int × Nat) : List Fm := match x.1 with
  | none => []
  | some v => [jn (v + s.p, z10) 1 (0, far o s.t x.2) (-1), jn (s.p - v, z10) 1 (0, far o s.t x.2) 1]
theorem amF_n (o : Str) (s : Slp) (i : Nat) : amF o s (none, i) = [] := rfl
theorem amF_s (o : Str) (s : Slp) (v : Int) (i : Nat) : amF o s (some v, i) = [jn (v + s.p, z10) 1 (0, far o s.t i) (-1), jn (s.p - v, z10) 1 (0, far o s.t i) 1] := rfl
def slF (o : Str) (s : Slp) : List Fm := s.a.zipIdx.flatMap (amF o s)
def rooms (cu : Cu) (o : Str) (ss : List Slp) : List Fm := (rules cu).map clF ++ ss.flatMap (slF o)
theorem jn_len {a b : Fm} {p q : Int} (ha : a.2.length = 10) (hb : b.2.length = 10) : (jn a p b q).2.length = 10 := by simp [jn, ha, hb]
theorem flat_len {α β : Type} {f : α → List β} {m : Nat} : ∀ {L : List α}, (∀ x ∈ L, (f x).length ≤ m) → (L.flatMap f).length ≤ m * L.length
  | [], _ => by simp
  | x :: xs, h => by
    rw [List.flatMap_cons, List.length_append, List.length_cons, Nat.mul_succ]
    have h1 := h x (by simp)
    have h2 := flat_len (L := xs) fun y hy => h y (by simp [hy])
    omega
theorem amF_le (o : Str) (s : Slp) (x : Option Int × Nat) : (amF o s x).length ≤ 2 := by
  unfold amF
  split <;> simp
theorem slF_le (o : Str) {s : Slp} (hs : slpOk s = true) : (slF o s).length ≤ 12 := by
  simp only [slpOk, Bool.and_eq_true, decide_eq_true_eq] at hs
  have := (tlOk_inv hs.1).2.2.2.2.1
  have := flat_len (L := s.a.zipIdx) fun x _ => amF_le o s x
  rw [List.length_zipIdx] at this
  unfold slF
  omega
theorem rules_le {cu : Cu} (hc : cuOk cu = true) : (rules cu).length ≤ 12 := by
  cases cu with
  | w s => rcases wOk_inv hc with rfl | rfl | rfl <;> simp [rules, ofS_inj, lastL, halvL]
  | r rs =>
    simp [cuOk] at hc
    simp [rules]
    omega
theorem rules_ok {cu : Cu} (hc : cuOk cu = true) : ∀ r ∈ rules cu, clOk r = true := by
  cases cu with
  | w s =>
    have h1 : ∀ r ∈ lastL, clOk r = true := by decide +kernel
    have h2 : ∀ r ∈ halvL, clOk r = true := by decide +kernel
    rcases wOk_inv hc with rfl | rfl | rfl <;> simp [rules, ofS_inj]
    · exact h1
    · exact h2
  | r rs =>
    simp [cuOk] at hc
    simp [rules]
    exact hc.2
theorem clOk_inv {r : List Int} (h : clOk r = true) : ∃ n j m i p q, r = [n, j, m, i, p, q] ∧ 1 ≤ j ∧ j ≤ n ∧ n ≤ 4 ∧ 1 ≤ i ∧ i ≤ m ∧ m ≤ 4 := by
  by_cases hl : r.length = 6
  · obtain ⟨a, b, c, d, e, f, rfl⟩ := six hl
    simp [clOk, btw] at h
    exact ⟨a, b, c, d, e, f, rfl, by omega, by omega, by omega, by omega, by omega, by omega⟩
  · rw [clOk_len hl] at h
    cases h
/-- the place of a share, told by whole numbers -/
theorem spot_i {m i : Int} (h1 : 1 ≤ i) (h2 : i ≤ m) (h3 : m ≤ 4) : m * (m - 1) / 2 + i - 1 = (spot m.toNat (i.toNat - 1) : Int) ∧ spot m.toNat (i.toNat - 1) < 10 := by
  obtain ⟨n, rfl⟩ := Int.eq_ofNat_of_zero_le (show 0 ≤ m by omega)
  obtain ⟨j, hj⟩ := Int.eq_ofNat_of_zero_le (show 0 ≤ i - 1 by omega)
  have hi : i = (j : Int) + 1 := by omega
  subst hi
  have e1 := spot_int j (n := n) (by omega)
  have e2 := spot_lt (n := n) (j := j) (by omega) (by omega)
  have e3 : ((j : Int) + 1).toNat - 1 = j := by omega
  have e4 : (n : Int).toNat = n := by omega
  rw [e3, e4]
  exact ⟨by omega, e2⟩
section
variable {prim : PrimT} (h : NoCl prim) (n : Nat) (B : Bg)
include h
theorem ev_clause_form {r : List Int} (hr : clOk r = true) : run tab prim (n + 3) ("clause_form" : Str) [tI r] B = some (fP (clF r), B) := by
  rw [run_fn h t_clause_form, runB_eq _ _ _ _ rfl]
  obtain ⟨a, b, c, d, e, f, rfl, h1, h2, h3, h4, h5, h6⟩ := clOk_inv hr
  obtain ⟨p1, p2⟩ := spot_i h4 h5 h6
  obtain ⟨p3, p4⟩ := spot_i h1 h2 h3
  have q := ev_form_of h n B 0 [(spot c.toNat (d.toNat - 1), e), (spot a.toNat (b.toNat - 1), -f)] (by
    intro p hp
    simp at hp
    rcases hp with rfl | rfl
    · exact p2
    · exact p4)
  have q1 := ev_place_in_row h (n + 1) B c d (by omega)
  have q2 := ev_place_in_row h (n + 1) B a b (by omega)
  rw [p1] at q1
  rw [p3] at q2
  simp at q
  simp [i_clause_form, startE, q1, q2, q, clF]
end
end Cab.P
set_option Elab.async false
set_option linter.all false
set_option maxRecDepth 100000
set_option maxHeartbeats 4000000
/-! The plain part: the rooms, by the package and by the law. -/
namespace Cab.P
open PySem L2
theorem sm1 : smallM 1 = true := by decide +kernel
theorem smN : smallM (-1) = true := by decide +kernel
theorem slpOk_inv {s : Slp} (h : slpOk s = true) : tlOk s.t = true ∧ s.a.length = s.t.r.length ∧ s.a.all amOk = true ∧ btw s.p 0 1000 = true := by
  simp only [slpOk, Bool.and_eq_true, decide_eq_true_eq] at h
  exact ⟨h.1, h.2.1, h.2.2.1, h.2.2.2⟩
theorem slpsOk_inv {ss : List Slp} (h : slpsOk ss = true) : ss.length ≤ 6 ∧ ∀ s ∈ ss, slpOk s = true := by
  simp only [slpsOk, Bool.and_eq_true, decide_eq_true_eq, List.all_eq_true] at h
  exact ⟨by omega, h.2⟩
theorem pre_len {α : Type} {L pre post : List α} {x : α} (h : L = pre ++ x :: post) : pre.length < L.length := by
  rw [h, List.length_append, List.length_cons]
  omega
theorem pre_mem {α : Type} {L pre post : List α} {x : α} (h : L = pre ++ x :: post) : ∀ y ∈ pre, y ∈ L := by
  intro y hy
  rw [h]
  simp [hy]
/-- how many rooms there are behind some receipts and some amounts -/
theorem room_lt {cu : Cu} {o : Str} {ss pre post : List Slp} {s : Slp} (hc : cuOk cu = true) (hs : slpsOk ss = true) (e : ss = pre ++ s :: post) {L p2 q2 : List (Option Int × Nat)} {x : Option Int × Nat} (e2 : L = p2 ++ x :: q2) (hL : L = s.a.zipIdx) :
    (((rules cu).map clF ++ pre.flatMap (slF o)) ++ p2.flatMap (amF o s)).length ≤ 900 := by
  obtain ⟨h1, h2⟩ := slpsOk_inv hs
  have h3 := flat_len (L := pre) (f := slF o) (m := 12) fun y hy => slF_le o (h2 y (pre_mem e y hy))
  have h4 := pre_len e
  have h5 := flat_len (L := p2) (f := amF o s) (m := 2) fun y hy => amF_le o s y
  have h6 := pre_len e2
  have h7 := slpOk_inv (h2 s (memOf e))
  have h8 := (tlOk_inv h7.1).2.2.2.2.1
  have h9 := rules_le hc
  rw [hL, List.length_zipIdx] at h6
  rw [List.length_append, List.length_append, List.length_map]
  omega
section
variable {prim : PrimT} (n : Nat) (B : Bg)
theorem ev_room_forms (h : PrR prim) {cu : Cu} (hc : cuOk cu = true) {o : Str} (ho : okO o) {ss : List Slp} (hs : slpsOk ss = true) :
    run tab prim (n + 4) ("room_forms" : Str) [cu.d, .str o, .tup (ss.map Slp.rc)] B = some (.lst ((rooms cu o ss).map fP), B) := by
  rw [run_fn h.nc t_room_forms, runB_eq _ _ _ _ rfl]
  have hr := rules_le hc
  simp [i_room_forms, startE, ev_clauses_of h.nc _ _ cu hc]
  rw [lcGo_map (g := fun r => fP (clF r)) (fun r hr => by simp [lcB, ev_clause_form h.nc n B (rules_ok hc r hr)])]
  have hr2 : (rules cu).length ≤ 1000 := by omega
  simp [hr2]
  rw [bd_bd]
  refine for_then (fun pre env => ∃ x4 x5 x6 x7 x8 x9, env = [.val cu.d, .val (.str o), .val (.tup (ss.map Slp.rc)), .own (((rules cu).map clF ++ pre.flatMap (slF o)).map fP), x4, x5, x6, x7, x8, x9, .un]) ?_ ?_ ?_
  · simp
  · rintro pre s post env hq ⟨x4, x5, x6, x7, x8, x9, rfl⟩
    obtain ⟨ht, hl, _, _⟩ := slpOk_inv ((slpsOk_inv hs).2 s (memOf hq))
    refine ⟨_, rfl, ?_⟩
    generalize hacc : (rules cu).map clF ++ pre.flatMap (slF o) = acc
    simp [enumD_eq]
    refine for_ex (fun p2 env => ∃ x7 x8 x9, env = [.val cu.d, .val (.str o), .val (.tup (ss.map Slp.rc)), .own ((acc ++ p2.flatMap (amF o s)).map fP), .val (.ride (tI s.t.c) (rsD s.t.r)), .val (.tup (s.a.map oI)), .val (.int s.p), x7, x8, x9, .un]) ⟨x7, x8, x9, by simp⟩ ?_ ?_
    · rintro p2 ⟨v, i⟩ q2 env hq2 ⟨x7, x8, x9, rfl⟩
      have hlen := room_lt (o := o) hc hs hq hq2 rfl
      rw [hacc] at hlen
      refine ⟨_, rfl, ?_⟩
      cases v with
      | none => simp [oI, isNon, amF_n]
      | some v =>
        rw [List.length_append] at hlen
        have h1 : acc.length + (p2.flatMap (amF o s)).length < 1000 := by omega
        have h2 : acc.length + ((p2.flatMap (amF o s)).length + 1) < 1000 := by omega
        have j1 := ev_joinedP h.nc (n + 2) B (v + s.p) 0 z10 (far o s.t i) 1 (-1) sm1 smN (by simp)
        have j2 := ev_joinedP h.nc (n + 2) B (s.p - v) 0 z10 (far o s.t i) 1 1 sm1 sm1 (by simp)
        simp [j1, j2, oI, isNon, ev_fare_form _ _ h ht ho, ev_form_of0 h.nc, amF_s, far_len, -List.length_flatMap, h1, h2]
    · rintro env ⟨x7, x8, x9, rfl⟩
      simp [← hacc, slF]
  · rintro env ⟨x4, x5, x6, x7, x8, x9, rfl⟩
    simp [rooms]
theorem set_two (p q : Int) (i j : Nat) (hi : i < 10) (hj : j < 10) : ((z10.set i p).set j ((z10.set i p).getD j 0 - q)) = adds [(i, p), (j, -q)] z10 := by
  have e : z10.getD i 0 = 0 := by
    have : i = 0 ∨ i = 1 ∨ i = 2 ∨ i = 3 ∨ i = 4 ∨ i = 5 ∨ i = 6 ∨ i = 7 ∨ i = 8 ∨ i = 9 := by omega
    rcases this with rfl | rfl | rfl | rfl | rfl | rfl | rfl | rfl | rfl | rfl <;> rfl
  show _ = addAt (addAt z10 i p) j (-q)
  unfold addAt
  rw [e, Int.zero_add]
  rfl
theorem ev__law_rooms (h : NoCl prim) {cu : Cu} (hc : cuOk cu = true) {o : Str} {ss : List Slp} (hs : slpsOk ss = true) :
    run tab prim (n + 3) ("_law_rooms" : Str) [cu.d, .str o, .tup (ss.map Slp.d)] B = some (.lst ((rooms cu o ss).map fL), B) := by
  rw [run_fn h t__law_rooms, runB_eq _ _ _ _ rfl]
  have hr := rules_le hc
  have e0 : opB .mul (.lst [.int 0]) (.int 10) = some (lI z10) := by rfl
  simp [i__law_rooms, startE, ev__law_rules h _ _ cu hc, e0]
  rw [bd_bd]
  refine for_then (fun pre env => ∃ x4 x5 x6 x7 x8 x9 x10 x11, env = [.val cu.d, .val (.str o), .val (.tup (ss.map Slp.d)), .own ((pre.map clF).map fL), x4, x5, x6, x7, x8, x9, x10, x11, .un, .un, .un, .un, .un]) ⟨_, _, _, _, _, _, _, _, rfl⟩ ?_ ?_
  · rintro pre r post env hq ⟨x4, x5, x6, x7, x8, x9, x10, x11, rfl⟩
    have hl : pre.length < 1000 := by
      have := pre_len hq
      omega
    obtain ⟨a, b, c, d, e, f, rfl, h1, h2, h3, h4, h5, h6⟩ := clOk_inv (rules_ok hc r (memOf hq))
    obtain ⟨p1, p2⟩ := spot_i h4 h5 h6
    obtain ⟨p3, p4⟩ := spot_i h1 h2 h3
    have m1 := o_mul (i := c) (j := c - 1) (.inl (smallM_of (by omega)))
    have m2 := o_mul (i := a) (j := a - 1) (.inl (smallM_of (by omega)))
    have d1 := o_div (i := c * (c - 1)) (j := 2) (by omega)
    have d2 := o_div (i := a * (a - 1)) (j := 2) (by omega)
    have e2 := set_two e f _ _ p2 p4
    simp [p4] at e2
    refine ⟨_, rfl, ?_⟩
    simp [e0, m1, m2, d1, d2, p1, p3, ixN_nat, p2, p4, atI_nat, hl, -List.map_set, set_map, e2, clF]
  · rintro env ⟨x4, x5, x6, x7, x8, x9, x10, x11, rfl⟩
    simp
    rw [bd_bd]
    refine for_then (fun pre env => ∃ x4 x5 x6 x7 x8 x9 x10 x11 x12 x13 x14 x15 x16, env = [.val cu.d, .val (.str o), .val (.tup (ss.map Slp.d)), .own (((rules cu).map clF ++ pre.flatMap (slF o)).map fL), x4, x5, x6, x7, x8, x9, x10, x11, x12, x13, x14, x15, x16]) (by simp) ?_ ?_
    · rintro pre s post env hq ⟨x4, x5, x6, x7, x8, x9, x10, x11, x12, x13, x14, x15, x16, rfl⟩
      obtain ⟨ht, hl, _, _⟩ := slpOk_inv ((slpsOk_inv hs).2 s (memOf hq))
      refine ⟨_, rfl, ?_⟩
      generalize hacc : (rules cu).map clF ++ pre.flatMap (slF o) = acc
      have hal : s.a.length ≤ 6 := by
        have := (tlOk_inv ht).2.2.2.2.1
        omega
      simp
      rw [rng1_nat _ _ (by omega), bd_some, range_zip]
      refine for_ex (fun p2 env => ∃ x4 x5 x6 x7 x8 x9 x10 x11 x15 x16, env = [.val cu.d, .val (.str o), .val (.tup (ss.map Slp.d)), .own ((acc ++ p2.flatMap (amF o s)).map fL), x4, x5, x6, x7, x8, x9, x10, x11, .val s.t.d, .val (.tup (s.a.map oI)), .val (.int s.p), x15, x16]) (by simp) ?_ ?_
      · rintro p2 ⟨v, i⟩ q2 env hq2 ⟨x4, x5, x6, x7, x8, x9, x10, x11, x15, x16, rfl⟩
        have hlen := room_lt (o := o) hc hs hq hq2 rfl
        rw [hacc] at hlen
        have hi := mem_zip (memOf hq2)
        simp at hi
        refine ⟨_, rfl, ?_⟩
        cases v with
        | none => simp [atI_nat, hi, oI, isNon, amF_n]
        | some v =>
          rw [List.length_append] at hlen
          have h1 : acc.length + (p2.flatMap (amF o s)).length < 1000 := by omega
          have h2 : acc.length + ((p2.flatMap (amF o s)).length + 1) < 1000 := by omega
          have j1 := ev__law_mixP h (n + 1) B (v + s.p) 0 z10 (far o s.t i) 1 (-1) sm1 smN rfl (far_len _ _ _)
          have j2 := ev__law_mixP h (n + 1) B (s.p - v) 0 z10 (far o s.t i) 1 1 sm1 sm1 rfl (far_len _ _ _)
          simp [atI_nat, hi, j1, j2, e0, oI, isNon, ev__law_fare _ _ h ht, amF_s, -List.length_flatMap, h1, h2]
      · rintro env ⟨x4, x5, x6, x7, x8, x9, x10, x11, x15, x16, rfl⟩
        simp [← hacc, slF]
    · rintro env ⟨x4, x5, x6, x7, x8, x9, x10, x11, x12, x13, x14, x15, x16, rfl⟩
      simp [rooms]
end
end Cab.P
set_option Elab.async false
set_option linter.all false
set_option maxRecDepth 100000
set_option maxHeartbeats 4000000
/-! The plain part: what a form is for the even table. -/
namespace Cab.P
open PySem L2
structure PrL (prim : PrimT) : Prop where
  nc : NoCl prim
  less : prim ("_law_less" : Str) = some pLess
  take : prim ("_law_take" : Str) = some pTake
def fr (t b : Int) : Int × Int := (t / (Int.gcd t b : Nat), b / (Int.gcd t b : Nat))
def pl (a b : Int × Int) : Int × Int := fr (a.1 * b.2 + b.1 * a.2) (a.2 * b.2)
def wst (tot z : Int × Int) : Int × Int := pl tot (fr (z.1 * 1) z.2)
def nsL : List Int := [1, 2, 2, 3, 3, 3, 4, 4, 4, 4]
def wth (f : Fm) : Int × Int := (f.2.zip nsL).foldl wst (f.1, 1)
def evenD : D := .tup [.tup [prD (1, 1)], .tup [prD (1, 2), prD (1, 2)], .tup [prD (1, 3), prD (1, 3), prD (1, 3)], .tup [prD (1, 4), prD (1, 4), prD (1, 4), prD (1, 4)]]
def sharesL : List D := nsL.map fun n => prD (1, n)
theorem gcd_b {t b : Int} (hb : 0 < b) : 0 < (Int.gcd t b : Int) ∧ (Int.gcd t b : Int) ≤ b := by
  have h1 : (Int.gcd t b : Int) ∣ b := Int.gcd_dvd_right _ _
  have h2 : Int.gcd t b ≠ 0 := fun e => by
    have := (Int.gcd_eq_zero_iff.mp e).2
    omega
  exact ⟨by omega, Int.le_of_dvd hb h1⟩
theorem fr_b {t b : Int} (hb : 0 < b) : 0 < (fr t b).2 ∧ (fr t b).2 ≤ b := by
  obtain ⟨h1, h2⟩ := gcd_b (t := t) hb
  unfold fr
  refine ⟨Int.ediv_pos_of_pos_of_dvd hb (Int.le_of_lt h1) (Int.gcd_dvd_right _ _), Int.ediv_le_self _ (by omega)⟩
theorem ns_ok : ∀ n ∈ nsL, 1 ≤ n ∧ n ≤ 4 := by decide +kernel
theorem wst_b {tot z : Int × Int} {m : Nat} (h1 : 0 < tot.2 ∧ tot.2 ≤ 4 ^ m) (h2 : 1 ≤ z.2 ∧ z.2 ≤ 4) : 0 < (wst tot z).2 ∧ (wst tot z).2 ≤ 4 ^ (m + 1) := by
  unfold wst pl
  obtain ⟨f1, f2⟩ := fr_b (t := z.1 * 1) (b := z.2) (by omega)
  have p := Int.mul_pos h1.1 f1
  obtain ⟨g1, g2⟩ := fr_b (t := tot.1 * (fr (z.1 * 1) z.2).2 + (fr (z.1 * 1) z.2).1 * tot.2) p
  refine ⟨g1, Int.le_trans g2 ?_⟩
  rw [Int.pow_succ]
  exact Int.mul_le_mul h1.2 (by omega) (by omega) (Int.le_of_lt (Int.pow_pos (by omega)))
theorem wfold_b {x : Int} : ∀ {L : List (Int × Int)}, (∀ z ∈ L, 1 ≤ z.2 ∧ z.2 ≤ 4) → 0 < (L.foldl wst (x, 1)).2 ∧ (L.foldl wst (x, 1)).2 ≤ 4 ^ L.length := by
  intro L
  generalize hn : L.length = n
  induction n generalizing L with
  | zero =>
    intro _
    cases L with
    | nil => exact ⟨Int.zero_lt_one, Int.le_refl 1⟩
    | cons _ _ => cases hn
  | succ n ih =>
    intro h
    obtain ⟨L', z, rfl⟩ : ∃ L' z, L = L' ++ [z] := by
      exact ⟨L.dropLast, L.getLast (by intro e; rw [e] at hn; cases hn), (List.dropLast_concat_getLast _).symm⟩
    rw [List.foldl_append]
    exact wst_b (ih (by simpa using hn) fun z hz => h z (by simp [hz])) (h z (by simp))
theorem zip_ns {f : Fm} : ∀ z ∈ f.2.zip nsL, 1 ≤ z.2 ∧ z.2 ≤ 4 := by
  rintro ⟨x, n⟩ hz
  exact ns_ok n (List.of_mem_zip hz).2
theorem zip_le (f : Fm) : (f.2.zip nsL).length ≤ 10 := by
  simp [nsL]
  omega
/-- the total behind some steps -/
theorem pre_b {f : Fm} {pre post : List (Int × Int)} {z : Int × Int} (h : f.2.zip nsL = pre ++ z :: post) : (0 < (pre.foldl wst (f.1, 1)).2 ∧ (pre.foldl wst (f.1, 1)).2 ≤ 1048576) ∧ 1 ≤ z.2 ∧ z.2 ≤ 4 := by
  obtain ⟨h1, h2⟩ := wfold_b (x := f.1) fun z hz => zip_ns z (pre_mem h z hz)
  have h3 := pre_len h
  have h4 := zip_le f
  refine ⟨⟨h1, Int.le_trans h2 ?_⟩, zip_ns z (memOf h)⟩
  have e : (4 : Int) ^ pre.length ≤ 4 ^ 10 := by
    have := Nat.pow_le_pow_right (n := 4) (by omega) (show pre.length ≤ 10 by omega)
    exact_mod_cast this
  exact e
section
variable {prim : PrimT} (n : Nat) (B : Bg)
theorem ev_fraction (h : PrR prim) (t b : Int) (hb : 0 < b ∧ b < 1073741824) : run tab prim (n + 1) ("fraction" : Str) [.int t, .int b] B = some (prD (fr t b), B) := by
  rw [run_fn h.nc t_fraction, runB_eq _ _ _ _ rfl]
  obtain ⟨h1, h2⟩ := gcd_b (t := t) hb.1
  have e : run tab prim n ("common" : Str) [.int t, .int b] B = some (.int (Int.gcd t b : Nat), B) := run_pr h.cm _ _ _
  have d1 := o_div (i := t) (j := (Int.gcd t b : Nat)) (by omega)
  have d2 := o_div (i := b) (j := (Int.gcd t b : Nat)) (by omega)
  simp [i_fraction, startE, e, d1, d2, prD, fr]
theorem ev_plus (h : PrR prim) (a b : Int × Int) (ha : 0 < a.2 ∧ a.2 ≤ 1048576) (hb : 0 < b.2 ∧ b.2 ≤ 4) : run tab prim (n + 2) ("plus" : Str) [prD a, prD b] B = some (prD (pl a b), B) := by
  rw [run_fn h.nc t_plus, runB_eq _ _ _ _ rfl]
  have m1 := o_mul (i := a.1) (j := b.2) (.inr (smallM_of (by omega)))
  have m2 := o_mul (i := b.1) (j := a.2) (.inr (smallM_of (by omega)))
  have m3 := o_mul (i := a.2) (j := b.2) (.inr (smallM_of (by omega)))
  have p := Int.mul_pos ha.1 hb.1
  have p2 : a.2 * b.2 ≤ 1048576 * 4 := Int.mul_le_mul ha.2 hb.2 (by omega) (by omega)
  have e := ev_fraction n B h (a.1 * b.2 + b.1 * a.2) (a.2 * b.2) (by omega)
  simp only [prD] at e
  simp [i_plus, startE, m1, m2, m3, e, prD, pl]
theorem ev_times (h : PrR prim) (x b : Int) (hb : 1 ≤ b ∧ b ≤ 4) : run tab prim (n + 2) ("times" : Str) [.int x, prD (1, b)] B = some (prD (fr (x * 1) b), B) := by
  rw [run_fn h.nc t_times, runB_eq _ _ _ _ rfl]
  have m1 := o_mul (i := x) (j := 1) (.inr sm1)
  have e := ev_fraction n B h (x * 1) b (by omega)
  simp only [prD] at e
  simp only [Int.mul_one] at m1 e
  simp [i_times, startE, m1, e, prD]
theorem ev_worth (h : PrR prim) (f : Fm) : run tab prim (n + 3) ("worth" : Str) [fP f, evenD] B = some (prD (wth f), B) := by
  rw [run_fn h.nc t_worth, runB_eq _ _ _ _ rfl]
  have e : ∀ F T, evE (run tab prim (n + 2)) (.lc2 (.seq (.v 1)) (.nm 6) (.seq (.v 6)) (.nm 5) (.v 5) [6, 5] [5]) [.val F, .val evenD, .val T, .un, .un, .un, .un] B = some (.lst (nsL.map fun n => prD (1, n)), B) := by
    intro F T
    kernel_rfl
  simp [i_worth, startE, e, -v_lc2, zipD_eq]
  rw [bd_bd]
  refine for_then (fun pre env => ∃ x4 x5, env = [.val (fP f), .val evenD, .val (prD (pre.foldl wst (f.1, 1))), .val (.lst (nsL.map fun n => prD (1, n))), x4, x5, .un]) ⟨_, _, rfl⟩ ?_ ?_
  · rintro pre ⟨x, m⟩ post env hq ⟨x4, x5, rfl⟩
    obtain ⟨h1, h2⟩ := pre_b hq
    obtain ⟨g1, g2⟩ := fr_b (t := x * 1) (b := m) (by omega)
    have e1 := ev_times n B h x m h2
    have e2 := ev_plus n B h (pre.foldl wst (f.1, 1)) (fr (x * 1) m) h1 ⟨g1, by omega⟩
    refine ⟨_, rfl, ?_⟩
    simp only [Int.mul_one] at e1 e2
    simp [e1, e2, wst]
  · rintro env ⟨x4, x5, rfl⟩
    simp [wth]
theorem ev__law_less (h : PrL prim) (t b : Int) (hb : 0 < b ∧ b < 1073741824) : run tab prim n ("_law_less" : Str) [.int t, .int b] B = some (prD (fr t b), B) := by
  rw [run_pr h.less]
  obtain ⟨h1, h2⟩ := gcd_b (t := t) hb.1
  show (if 0 < b ∧ (Int.gcd t b : Int) < 1073741824 then _ else _) = _
  rw [if_pos ⟨hb.1, by omega⟩]
  rfl
theorem ev__law_plus (h : PrL prim) (a b : Int × Int) (ha : 0 < a.2 ∧ a.2 ≤ 1048576) (hb : 0 < b.2 ∧ b.2 ≤ 4) : run tab prim (n + 1) ("_law_plus" : Str) [prD a, prD b] B = some (prD (pl a b), B) := by
  rw [run_fn h.nc t__law_plus, runB_eq _ _ _ _ rfl]
  have m1 := o_mul (i := a.1) (j := b.2) (.inr (smallM_of (by omega)))
  have m2 := o_mul (i := b.1) (j := a.2) (.inr (smallM_of (by omega)))
  have m3 := o_mul (i := a.2) (j := b.2) (.inr (smallM_of (by omega)))
  have p := Int.mul_pos ha.1 hb.1
  have p2 : a.2 * b.2 ≤ 1048576 * 4 := Int.mul_le_mul ha.2 hb.2 (by omega) (by omega)
  have e := ev__law_less n B h (a.1 * b.2 + b.1 * a.2) (a.2 * b.2) (by omega)
  simp only [prD] at e
  simp [i__law_plus, startE, m1, m2, m3, e, prD, pl]
theorem ev__law_at (h : PrL prim) (f : Fm) (hf : f.2.length = 10) : run tab prim (n + 2) ("_law_at" : Str) [fL f, evenD] B = some (prD (wth f), B) := by
  rw [run_fn h.nc t__law_at, runB_eq _ _ _ _ rfl]
  have a0 : atD evenD (.int 0) = some (.tup [prD (1, 1)]) := rfl
  have a1 : atD evenD (.int 1) = some (.tup [prD (1, 2), prD (1, 2)]) := rfl
  have a2 : atD evenD (.int 2) = some (.tup [prD (1, 3), prD (1, 3), prD (1, 3)]) := rfl
  have a3 : atD evenD (.int 3) = some (.tup [prD (1, 4), prD (1, 4), prD (1, 4), prD (1, 4)]) := rfl
  have o1 : opB .add (.tup [prD (1, 1)]) (.tup [prD (1, 2), prD (1, 2)]) = some (.tup [prD (1, 1), prD (1, 2), prD (1, 2)]) := by rfl
  have o2 : opB .add (.tup [prD (1, 1), prD (1, 2), prD (1, 2)]) (.tup [prD (1, 3), prD (1, 3), prD (1, 3)]) = some (.tup [prD (1, 1), prD (1, 2), prD (1, 2), prD (1, 3), prD (1, 3), prD (1, 3)]) := by rfl
  have o3 : opB .add (.tup [prD (1, 1), prD (1, 2), prD (1, 2), prD (1, 3), prD (1, 3), prD (1, 3)]) (.tup [prD (1, 4), prD (1, 4), prD (1, 4), prD (1, 4)]) = some (.tup (nsL.map fun n => prD (1, n))) := by rfl
  simp [i__law_at, startE, a0, a1, a2, a3, o1, o2, o3]
  have hz : (f.2.zip nsL).length = 10 := by simp [nsL, hf]
  have e10 := rng1_nat 10 B (by omega)
  rw [← hz, range_zip, hz] at e10
  simp at e10
  simp [e10]
  rw [bd_bd]
  refine for_then (fun pre env => ∃ x4, env = [.val (fL f), .val evenD, .val (prD ((pre.map fun q : (Int × Int) × Nat => q.1).foldl wst (f.1, 1))), .val (.tup (nsL.map fun n => prD (1, n))), x4]) ⟨_, rfl⟩ ?_ ?_
  · rintro pre ⟨⟨x, m⟩, i⟩ post env hq ⟨x4, rfl⟩
    have hq2 : f.2.zip nsL = pre.map (·.1) ++ (x, m) :: post.map (·.1) := by
      have := congrArg (List.map (·.1)) hq
      rw [List.zipIdx_map_fst, List.map_append, List.map_cons] at this
      exact this
    obtain ⟨h1, h2⟩ := pre_b hq2
    obtain ⟨g1, g2⟩ := fr_b (t := x * 1) (b := m) (by omega)
    have e1 := ev__law_less (n + 1) B h (x * 1) m (by omega)
    have e2 := ev__law_plus n B h ((pre.map (·.1)).foldl wst (f.1, 1)) (fr (x * 1) m) h1 ⟨g1, by omega⟩
    obtain ⟨i1, i2⟩ := List.getElem?_zip_eq_some.mp (mem_zip (memOf hq))
    simp at i1 i2
    have m1 := o_mul (i := x) (j := 1) (.inr sm1)
    refine ⟨_, rfl, ?_⟩
    simp only [Int.mul_one] at e1 e2 m1
    have p1 : prD (1, m) = .tup [.int 1, .int m] := rfl
    simp [atI_nat, i1, i2, m1, e1, e2, wst, p1, -List.foldl_map]
  · rintro env ⟨x4, rfl⟩
    rw [List.zipIdx_map_fst]
    simp [wth]
theorem ev_keeps (h : PrR prim) (fs : List Fm) (hl : fs.length ≤ 1000) : run tab prim (n + 4) ("keeps" : Str) [evenD, .lst (fs.map fP)] B = some (.bl (fs.all fun f => decide (0 ≤ (wth f).1)), B) := by
  rw [run_fn h.nc t_keeps, runB_eq _ _ _ _ rfl]
  simp [i_keeps, startE]
  rw [lcGo_map (g := fun f : Fm => D.bl (decide (0 ≤ (wth f).1))) (fun f _ => by simp [lcB, ev_worth _ _ h, prD])]
  simp [hl]
theorem ev__law_keeps (h : PrL prim) (fs : List Fm) (hl : fs.length ≤ 1000) (hf : ∀ f ∈ fs, f.2.length = 10) : run tab prim (n + 3) ("_law_keeps" : Str) [evenD, .lst (fs.map fL)] B = some (.bl (fs.all fun f => decide (0 ≤ (wth f).1)), B) := by
  rw [run_fn h.nc t__law_keeps, runB_eq _ _ _ _ rfl]
  simp [i__law_keeps, startE]
  rw [lcGo_map (g := fun f : Fm => D.bl (decide (0 ≤ (wth f).1))) (fun f hm => by simp [lcB, ev__law_at _ _ h f (hf f hm), prD])]
  simp [hl]
end
end Cab.P
set_option Elab.async false
set_option linter.all false
set_option maxRecDepth 100000
set_option maxHeartbeats 4000000
/-! The plain part: the greatest that a form is for any table. -/
namespace Cab.P
open PySem L2
def gr : Fm → Int
  | (x, [a, b, c, d, e, f, g, h, i, j]) => 12 * x + (a * 12 + (max (b * 12) ((b + c) * 6) + (max (max (d * 12) ((d + e) * 6)) ((d + (e + f)) * 4) + max (max (max (g * 12) ((g + h) * 6)) ((g + (h + i)) * 4)) ((g + (h + (i + j))) * 3))))
  | _ => 0
theorem ten {v : List Int} (h : v.length = 10) : ∃ a b c d e f g h i j, v = [a, b, c, d, e, f, g, h, i, j] := by
  match v, h with
  | [a, b, c, d, e, f, g, h, i, j], _ => exact ⟨a, b, c, d, e, f, g, h, i, j, rfl⟩
theorem r2a (B : Bg) : rng2D (.int 1) (.int 5) B = some ([.int 1, .int 2, .int 3, .int 4], B) := by kernel_rfl
theorem r2b (B : Bg) : rng2D (.int 1) (.int 2) B = some ([.int 1], B) := by kernel_rfl
theorem r2c (B : Bg) : rng2D (.int 1) (.int 3) B = some ([.int 1, .int 2], B) := by kernel_rfl
theorem r2d (B : Bg) : rng2D (.int 1) (.int 4) B = some ([.int 1, .int 2, .int 3], B) := by kernel_rfl
theorem o12 {j : Int} (h : 0 < j ∧ j < 1073741824) : opB .fdiv (.int 12) (.int j) = some (.int (12 / j)) := o_div h
theorem mulK {i j : Int} (h : smallM j = true) : opB .mul (.int i) (.int j) = some (.int (i * j)) := o_mul (.inr h)
theorem sum1 (a : Int) : biF .sum [.tup [.int a]] = some (.int a) ∧ biF .sum [.lst [.int a]] = some (.int a) := by simp [biF, intsOf]
theorem sum2 (a b : Int) : biF .sum [.tup [.int a, .int b]] = some (.int (a + b)) ∧ biF .sum [.lst [.int a, .int b]] = some (.int (a + b)) := by simp [biF, intsOf]
theorem sum3 (a b c : Int) : biF .sum [.tup [.int a, .int b, .int c]] = some (.int (a + (b + c))) ∧ biF .sum [.lst [.int a, .int b, .int c]] = some (.int (a + (b + c))) := by simp [biF, intsOf]
theorem sum4 (a b c d : Int) : biF .sum [.tup [.int a, .int b, .int c, .int d]] = some (.int (a + (b + (c + d)))) ∧ biF .sum [.lst [.int a, .int b, .int c, .int d]] = some (.int (a + (b + (c + d)))) := by simp [biF, intsOf]
theorem max1 (a : Int) : biF .maxl [.lst [.int a]] = some (.int a) := by simp [biF, intsOf, maxI]
theorem max2 (a b : Int) : biF .maxl [.lst [.int a, .int b]] = some (.int (max a b)) := by simp [biF, intsOf, maxI]
theorem max3 (a b c : Int) : biF .maxl [.lst [.int a, .int b, .int c]] = some (.int (max (max a b) c)) := by simp [biF, intsOf, maxI]
theorem max4 (a b c d : Int) : biF .maxl [.lst [.int a, .int b, .int c, .int d]] = some (.int (max (max (max a b) c) d)) := by simp [biF, intsOf, maxI]
section
variable {prim : PrimT} (n : Nat) (B : Bg)
theorem ev_corners (h : NoCl prim) (x a b c d e f g h1 i j : Int) : run tab prim (n + 2) ("corners" : Str) [fP (x, [a, b, c, d, e, f, g, h1, i, j])] B = some (.lst [lI [a * 12], lI [b * 12, (b + c) * 6], lI [d * 12, (d + e) * 6, (d + (e + f)) * 4], lI [g * 12, (g + h1) * 6, (g + (h1 + i)) * 4, (g + (h1 + (i + j))) * 3]], B) := by
  rw [run_fn h t_corners, runB_eq _ _ _ _ rfl]
  have q1 := ev_place_in_row h n B 1 1 (by omega)
  have q2 := ev_place_in_row h n B 2 1 (by omega)
  have q3 := ev_place_in_row h n B 3 1 (by omega)
  have q4 := ev_place_in_row h n B 4 1 (by omega)
  have k1 : ∀ i, opB .mul (.int i) (.int 12) = some (.int (i * 12)) := fun i => mulK (by decide +kernel)
  have k2 : ∀ i, opB .mul (.int i) (.int 6) = some (.int (i * 6)) := fun i => mulK (by decide +kernel)
  have k3 : ∀ i, opB .mul (.int i) (.int 4) = some (.int (i * 4)) := fun i => mulK (by decide +kernel)
  have k4 : ∀ i, opB .mul (.int i) (.int 3) = some (.int (i * 3)) := fun i => mulK (by decide +kernel)
  have s1 : slD (tI [a, b, c, d, e, f, g, h1, i, j]) (.int 0) (.int 1) = some (.tup [.int a]) := rfl
  have s2 : slD (tI [a, b, c, d, e, f, g, h1, i, j]) (.int 1) (.int 2) = some (.tup [.int b]) := rfl
  have s3 : slD (tI [a, b, c, d, e, f, g, h1, i, j]) (.int 1) (.int 3) = some (.tup [.int b, .int c]) := rfl
  have s4 : slD (tI [a, b, c, d, e, f, g, h1, i, j]) (.int 3) (.int 4) = some (.tup [.int d]) := rfl
  have s5 : slD (tI [a, b, c, d, e, f, g, h1, i, j]) (.int 3) (.int 5) = some (.tup [.int d, .int e]) := rfl
  have s6 : slD (tI [a, b, c, d, e, f, g, h1, i, j]) (.int 3) (.int 6) = some (.tup [.int d, .int e, .int f]) := rfl
  have s7 : slD (tI [a, b, c, d, e, f, g, h1, i, j]) (.int 6) (.int 7) = some (.tup [.int g]) := rfl
  have s8 : slD (tI [a, b, c, d, e, f, g, h1, i, j]) (.int 6) (.int 8) = some (.tup [.int g, .int h1]) := rfl
  have s9 : slD (tI [a, b, c, d, e, f, g, h1, i, j]) (.int 6) (.int 9) = some (.tup [.int g, .int h1, .int i]) := rfl
  have s10 : slD (tI [a, b, c, d, e, f, g, h1, i, j]) (.int 6) (.int 10) = some (.tup [.int g, .int h1, .int i, .int j]) := rfl
  simp at q1 q2 q3 q4
  simp [i_corners, startE, r2a, r2b, r2c, r2d, forGo_cons, lcGo_cons, lcB, q1, q2, q3, q4, k1, k2, k3, k4, o12, sum1, sum2, sum3, sum4, s1, s2, s3, s4, s5, s6, s7, s8, s9, s10]
theorem ev_greatest_of (h : NoCl prim) (f : Fm) (hf : f.2.length = 10) : run tab prim (n + 3) ("greatest_of" : Str) [fP f] B = some (.int (gr f), B) := by
  rw [run_fn h t_greatest_of, runB_eq _ _ _ _ rfl]
  obtain ⟨x, v⟩ := f
  obtain ⟨a, b, c, d, e, f, g, h1, i, j, rfl⟩ := ten hf
  have k1 : opB .mul (.int 12) (.int x) = some (.int (12 * x)) := o_mul (.inl (by decide +kernel))
  have ec := ev_corners n B h x a b c d e f g h1 i j
  simp only [lI, List.map] at ec
  simp [i_greatest_of, startE, ec, lcGo_cons, lcB, max1, max2, max3, max4, sum4, k1, gr]
theorem ev__law_top (h : NoCl prim) (f : Fm) (hf : f.2.length = 10) : run tab prim (n + 1) ("_law_top" : Str) [fL f] B = some (.int (gr f), B) := by
  rw [run_fn h t__law_top, runB_eq _ _ _ _ rfl]
  obtain ⟨x, v⟩ := f
  obtain ⟨a, b, c, d, e, f, g, h1, i, j, rfl⟩ := ten hf
  have k0 : opB .mul (.int 12) (.int x) = some (.int (12 * x)) := o_mul (.inl (by decide +kernel))
  have k1 : ∀ i, opB .mul (.int i) (.int 12) = some (.int (i * 12)) := fun i => mulK (by decide +kernel)
  have k2 : ∀ i, opB .mul (.int i) (.int 6) = some (.int (i * 6)) := fun i => mulK (by decide +kernel)
  have k3 : ∀ i, opB .mul (.int i) (.int 4) = some (.int (i * 4)) := fun i => mulK (by decide +kernel)
  have k4 : ∀ i, opB .mul (.int i) (.int 3) = some (.int (i * 3)) := fun i => mulK (by decide +kernel)
  have l0 : opB .mul (.int 1) (.int 0) = some (.int 0) := by rfl
  have l1 : opB .mul (.int 2) (.int 1) = some (.int 2) := by rfl
  have l2 : opB .mul (.int 3) (.int 2) = some (.int 6) := by rfl
  have l3 : opB .mul (.int 4) (.int 3) = some (.int 12) := by rfl
  have d0 : opB .fdiv (.int 0) (.int 2) = some (.int 0) := by rfl
  have d1 : opB .fdiv (.int 2) (.int 2) = some (.int 1) := by rfl
  have d2 : opB .fdiv (.int 6) (.int 2) = some (.int 3) := by rfl
  have d3 : opB .fdiv (.int 12) (.int 2) = some (.int 6) := by rfl
  have s1 : slD (lI [a, b, c, d, e, f, g, h1, i, j]) (.int 0) (.int 1) = some (.lst [.int a]) := rfl
  have s2 : slD (lI [a, b, c, d, e, f, g, h1, i, j]) (.int 1) (.int 2) = some (.lst [.int b]) := rfl
  have s3 : slD (lI [a, b, c, d, e, f, g, h1, i, j]) (.int 1) (.int 3) = some (.lst [.int b, .int c]) := rfl
  have s4 : slD (lI [a, b, c, d, e, f, g, h1, i, j]) (.int 3) (.int 4) = some (.lst [.int d]) := rfl
  have s5 : slD (lI [a, b, c, d, e, f, g, h1, i, j]) (.int 3) (.int 5) = some (.lst [.int d, .int e]) := rfl
  have s6 : slD (lI [a, b, c, d, e, f, g, h1, i, j]) (.int 3) (.int 6) = some (.lst [.int d, .int e, .int f]) := rfl
  have s7 : slD (lI [a, b, c, d, e, f, g, h1, i, j]) (.int 6) (.int 7) = some (.lst [.int g]) := rfl
  have s8 : slD (lI [a, b, c, d, e, f, g, h1, i, j]) (.int 6) (.int 8) = some (.lst [.int g, .int h1]) := rfl
  have s9 : slD (lI [a, b, c, d, e, f, g, h1, i, j]) (.int 6) (.int 9) = some (.lst [.int g, .int h1, .int i]) := rfl
  have s10 : slD (lI [a, b, c, d, e, f, g, h1, i, j]) (.int 6) (.int 10) = some (.lst [.int g, .int h1, .int i, .int j]) := rfl
  simp [i__law_top, startE, r2a, r2b, r2c, r2d, forGo_cons, lcGo_cons, lcB, k0, k1, k2, k3, k4, l0, l1, l2, l3, d0, d1, d2, d3, o12, sum1, sum2, sum3, sum4, max1, max2, max3, max4, gr, s1, s2, s3, s4, s5, s6, s7, s8, s9, s10]
  simp only [Int.add_assoc]
end
end Cab.P
set_option Elab.async false
set_option linter.all false
set_option maxRecDepth 100000
set_option maxHeartbeats 4000000
/-! The plain part: what the package's checker answers. -/
namespace Cab.P
open PySem L2
inductive Pp where
  | even
  | num (k : Nat)
def Pp.d : Pp → D
  | .even => evenD
  | .num k => .tup [.int 1, tI (List.replicate k 0)]
def byT (w : Str) (aim : Fm) (rs : List Fm) : Pp → Bool
  | .even => (rs.all fun f => decide (0 ≤ (wth f).1)) && (decide (w = ("fits" : Str)) || (if w = ("can pay" : Str) then decide ((wth aim).1 = 0) else decide (0 < (wth aim).1)))
  | .num _ => false
def tot (aim : Fm) (rs : List Fm) : Fm := rs.foldl (fun t r => jn t 1 r 0) (jn aim 1 (0, z10) 0)
def byN (w : Str) (aim : Fm) (rs : List Fm) : Pp → Bool
  | .even => false
  | .num k => decide (k = rs.length) && (if w = ("none fits" : Str) then decide (gr (tot aim rs) < 0) else decide (gr (tot aim rs) ≤ 0))
theorem tot_len {aim : Fm} (ha : aim.2.length = 10) : ∀ {rs : List Fm}, (∀ r ∈ rs, r.2.length = 10) → (tot aim rs).2.length = 10 := by
  intro rs hr
  unfold tot
  have h0 : (jn aim 1 (0, z10) 0).2.length = 10 := jn_len ha rfl
  generalize jn aim 1 (0, z10) 0 = t at h0
  induction rs generalizing t with
  | nil => exact h0
  | cons r rs ih => exact ih (fun q hq => hr q (by simp [hq])) _ (jn_len h0 (hr r (by simp)))
structure PrR2 (prim : PrimT) : Prop extends PrR prim where
  tb : ∀ n B, run tab prim (n + 6) ("is_table" : Str) [evenD] B = some (.bl true, B)
theorem b_allR (k : Nat) : biF .all [.lst (List.replicate k (D.bl true))] = some (.bl true) := by
  have e := b_all (fun _ : Unit => true) (List.replicate k ())
  simp at e
  simp [e]
theorem zip_rep (rs : List Fm) : zipD (rs.map fP) (List.replicate rs.length (D.int 0)) = rs.map fun r => .tup [fP r, .int 0] := by
  induction rs with
  | nil => rfl
  | cons r rs ih =>
    rw [List.length_cons, List.replicate_succ, List.map_cons, List.map_cons, zipD, ih]
section
variable {prim : PrimT} (n : Nat) (B : Bg)
theorem ev_is_table (h : PrR2 prim) (p : Pp) : run tab prim (n + 6) ("is_table" : Str) [p.d] B = some (.bl (match p with | .even => true | .num _ => false), B) := by
  cases p with
  | even => exact h.tb n B
  | num k =>
    rw [run_fn h.nc t_is_table, runB_eq _ _ _ _ rfl]
    simp [i_is_table, startE, Pp.d]
theorem ev_by_table (h : PrR2 prim) (w : Str) (aim : Fm) (rs : List Fm) (hl : rs.length ≤ 1000) (p : Pp) : run tab prim (n + 7) ("by_table" : Str) [.str w, fP aim, .lst (rs.map fP), p.d] B = some (.bl (byT w aim rs p), B) := by
  rw [run_fn h.nc t_by_table, runB_eq _ _ _ _ rfl]
  have e := ev_is_table n B h p
  cases p with
  | num k => simp [i_by_table, startE, e, byT]
  | even =>
    have e1 := ev_keeps (n + 2) B h.toPrR rs hl
    have e2 := ev_worth (n + 3) B h.toPrR aim
    simp only [Pp.d] at e ⊢
    simp only [prD] at e2
    simp [i_by_table, startE, e, e1, e2, byT]
    cases rs.all fun f => decide (0 ≤ (wth f).1) with
    | false => simp
    | true =>
      by_cases h1 : w = ("fits" : Str) <;> by_cases h2 : w = ("can pay" : Str) <;> simp [h1, h2, ofS_inj]
theorem ev_is_pair (h : NoCl prim) (p : Pp) (hp : ∀ k, p = .num k → k ≤ 900) (c : Nat) : run tab prim (n + 3) ("is_pair" : Str) [p.d, .int c] B = some (.bl (match p with | .even => false | .num k => decide (k = c)), B) := by
  rw [run_fn h t_is_pair, runB_eq _ _ _ _ rfl]
  cases p with
  | even => simp [i_is_pair, startE, Pp.d, evenD]
  | num k =>
    have hk := hp k rfl
    have e := lcGo_map (f := lcB (run tab prim (n + 2)) (.nm 2) .nop (.call ("is_natural" : Str) (.econs (.v 2) .enil)) [.val (Pp.num k).d, .val (.int c), .un]) (e := D.int) (g := fun i => D.bl (decide (0 ≤ i))) (B := B) (xs := List.replicate k 0) (fun i _ => by simp [lcB, ev_is_natural h])
    have hk2 : k ≤ 1000 := by omega
    by_cases hc : k = c
    · subst hc
      simp [Pp.d] at e
      simp [i_is_pair, startE, Pp.d, ev_is_natural h, e, hk2, b_allR]
    · have hc2 : ¬ ((k : Int) = c) := by omega
      simp [i_is_pair, startE, Pp.d, ev_is_natural h, hc, hc2]
theorem ev_by_numbers (h : NoCl prim) (w : Str) (aim : Fm) (sc : Int) (rs : List Fm) (p : Pp) (hp : ∀ k, p = .num k → k ≤ 900) (ha : aim.2.length = 10) (hr : ∀ r ∈ rs, r.2.length = 10) :
    run tab prim (n + 4) ("by_numbers" : Str) [.str w, fP aim, .int sc, .lst (rs.map fP), p.d] B = some (.bl (byN w aim rs p), B) := by
  rw [run_fn h t_by_numbers, runB_eq _ _ _ _ rfl]
  have e := ev_is_pair n B h p hp rs.length
  cases p with
  | even => simp [i_by_numbers, startE, e, byN]
  | num k =>
    by_cases hk : k = rs.length
    · subst hk
      simp only [Pp.d] at e ⊢
      have m0 : opB .mul (.int sc) (.int 0) = some (.int (sc * 0)) := o_mul (.inr (by decide +kernel))
      simp only [Int.mul_zero] at m0
      have j0 := ev_joined h (n + 2) B aim (0, z10) 1 0 sm1 (by decide +kernel) (by omega)
      simp at e
      simp [i_by_numbers, startE, e, j0, ev_form_of0 h, zip_rep]
      rw [bd_bd]
      refine for_then (fun pre env => ∃ x6 x7, env = [.val (.str w), .val (fP aim), .val (.int sc), .val (.lst (rs.map fP)), .val (.tup [.int 1, tI (List.replicate rs.length 0)]), .val (fP (tot aim pre)), x6, x7]) ⟨_, _, rfl⟩ ?_ ?_
      · rintro pre r post env hq ⟨x6, x7, rfl⟩
        have hl := tot_len ha (rs := pre) fun q hm => hr q (pre_mem hq q hm)
        have j1 := ev_joined h (n + 2) B (tot aim pre) r 1 0 sm1 (by decide +kernel) (by omega)
        refine ⟨_, rfl, ?_⟩
        have et : tot aim (pre ++ [r]) = jn (tot aim pre) 1 r 0 := by simp [tot]
        simp [j1, m0, et]
      · rintro env ⟨x6, x7, rfl⟩
        have g := ev_greatest_of n B h (tot aim rs) (tot_len ha hr)
        by_cases h1 : w = ("none fits" : Str)
        · simp [h1, g, byN]
        · simp [h1, g, byN]
    · simp [hk] at e
      simp [i_by_numbers, startE, e, byN, hk]
end
end Cab.P
set_option Elab.async false
set_option linter.all false
set_option maxRecDepth 100000
set_option maxHeartbeats 4000000
/-! The plain part: claims; what holds answers. -/
namespace Cab.P
open PySem L2
inductive Rs where
  | z
  | e (t : Tl) (k a b : Int)
  | m (t : Tl) (k : Int) (u : Tl) (j : Int)
def Rs.ds : Rs → List D
  | .z => []
  | .e t k a b => [t.d, .int k, .tup [.int a, .int b]]
  | .m t k u j => [t.d, .int k, u.d, .int j]
structure Cl where
  w : Str
  cu : Cu
  o : Str
  ss : List Slp
  r : Rs
def Cl.d (c : Cl) : D := .tup (.str c.w :: c.cu.d :: .str c.o :: .tup (c.ss.map Slp.d) :: c.r.ds)
def frOk (a b : Int) : Bool := decide (1 ≤ b) && decide ((Int.gcd a b : Int) = 1)
def kOk (t : Tl) (k : Int) : Bool := tlOk t && btw k 0 ((t.r.length : Int) - 1)
def rsOk : Rs → Bool
  | .z => true
  | .e t k a b => kOk t k && frOk a b
  | .m t k u j => kOk t k && kOk u j
def oOk (o : Str) : Bool := g_ORDERS.any (· == o)
def sgn (w : Str) : Int := if w = ("at least" : Str) then -1 else 1
def aim (w o : Str) : Rs → Fm × Int
  | .z => ((0, z10), 1)
  | .e t k a b => (jn (0, far o t k) (sgn w * b) (-a, z10) (sgn w), b)
  | .m t k u j => (jn (0, far o t k) 1 (0, far o u j) (-1), 1)
def clAll (c : Cl) : Bool := cuOk c.cu && oOk c.o && slpsOk c.ss && rsOk c.r
def tbl (w : Str) : Bool := g_BY_TABLE.any (· == w)
def ans (c : Cl) (p : Pp) : Bool := clAll c && (if tbl c.w = true then byT c.w (aim c.w c.o c.r).1 (rooms c.cu c.o c.ss) p else byN c.w (aim c.w c.o c.r).1 (rooms c.cu c.o c.ss) p)
/-- the word fits the rest -/
def wrdOk (w : Str) : Rs → Prop
  | .z => w = ("fits" : Str) ∨ w = ("none fits" : Str)
  | .e _ _ _ _ => w = ("can pay" : Str) ∨ w = ("at most" : Str) ∨ w = ("at least" : Str)
  | .m _ _ _ _ => w = ("can be more" : Str) ∨ w = ("never more" : Str)
/-- the fractions that are drawn -/
def endsL : List (Int × Int) := [(0, 1), (100000000, 1), (2, 4), (1, 0), (-7, 2), (3, -1)]
theorem ends_small : ∀ e ∈ endsL, smallM e.2 = true ∧ smallM (-e.2) = true := by decide +kernel
/-- what is drawn stays small -/
structure ClB (c : Cl) : Prop where
  wd : wrdOk c.w c.r
  cu : ∀ rs, c.cu = .r rs → rs.length ≤ 900
  sl : c.ss.length ≤ 900 ∧ ∀ s ∈ c.ss, s.a.length ≤ 900
  nd : ∀ t k a b, c.r = .e t k a b → (a, b) ∈ endsL
theorem oOk_inv {o : Str} (h : oOk o = true) : okO o := by
  simp [oOk, g_ORDERS] at h
  unfold okO
  rcases h with e | e | e <;> simp [e]
section
variable {prim : PrimT} (n : Nat) (B : Bg)
theorem ev_is_fraction (h : PrR prim) (a b : Int) : run tab prim (n + 2) ("is_fraction" : Str) [.tup [.int a, .int b]] B = some (.bl (frOk a b), B) := by
  rw [run_fn h.nc t_is_fraction, runB_eq _ _ _ _ rfl]
  have e : run tab prim (n + 1) ("common" : Str) [.int a, .int b] B = some (.int (Int.gcd a b : Nat), B) := run_pr h.cm _ _ _
  simp [i_is_fraction, startE, ev_is_integer h.nc, e, frOk]
  by_cases q : 1 ≤ b <;> simp [q]
theorem ev_is_amounts (h : NoCl prim) (a : List (Option Int)) (ha : a.length ≤ 900) (m : Nat) : run tab prim (n + 3) ("is_amounts" : Str) [.tup (a.map oI), .int m] B = some (.bl (decide (a.length = m) && a.all amOk), B) := by
  rw [run_fn h t_is_amounts, runB_eq _ _ _ _ rfl]
  by_cases hm : a.length = m
  · subst hm
    simp [i_is_amounts, startE]
    rw [lcGo_map (g := fun x => D.bl (amOk x))]
    · have : a.length ≤ 1000 := by omega
      simp [this]
    · intro x _
      cases x with
      | none => simp [lcB, oI, isNon, amOk]
      | some i => simp [lcB, oI, isNon, amOk, ev_is_between h]
  · have hm2 : ¬ ((a.length : Int) = m) := by omega
    simp [i_is_amounts, startE, hm, hm2]
theorem ev_is_receipt (h : NoCl prim) (s : Slp) (ha : s.a.length ≤ 900) (ht : s.t.r.length ≤ 900) : run tab prim (n + 4) ("is_receipt" : Str) [s.rc] B = some (.bl (decide (s.a.length = s.t.r.length) && (s.a.all amOk && btw s.p 0 1000)), B) := by
  rw [run_fn h t_is_receipt, runB_eq _ _ _ _ rfl]
  have e := ev_is_amounts n B h s.a ha s.t.r.length
  have el : biF .len [.ride (tI s.t.c) (rsD s.t.r)] = some (.int s.t.r.length) := by
    show (if (s.t.r.map tI).length ≤ 1000 then _ else _) = _
    rw [if_pos (by simp; omega)]
    simp
  generalize decide (s.a.length = s.t.r.length) = c1 at e ⊢
  generalize s.a.all amOk = c2 at e ⊢
  simp [i_is_receipt, startE, e, el, ev_is_between h, -Bool.decide_and, -Bool.decide_eq_true]
  cases c1 <;> cases c2 <;> simp
theorem ev_is_receipt0 (h : NoCl prim) (x y : D) : run tab prim (n + 1) ("is_receipt" : Str) [.tup [.non, x, y]] B = some (.bl false, B) := by
  rw [run_fn h t_is_receipt, runB_eq _ _ _ _ rfl]
  simp [i_is_receipt, startE]
theorem ev_receipts_of (h : PrR prim) (ss : List Slp) (hs : ss.length ≤ 900 ∧ ∀ s ∈ ss, s.a.length ≤ 900) : run tab prim (n + 5) ("receipts_of" : Str) [.tup (ss.map Slp.d)] B = some (if slpsOk ss = true then .tup (ss.map Slp.rc) else .non, B) := by
  rw [run_fn h.nc t_receipts_of, runB_eq _ _ _ _ rfl]
  by_cases hl : (6 : Int) < ss.length
  · have e : slpsOk ss = false := by
      simp [slpsOk]
      omega
    simp [i_receipts_of, startE, hl, e]
  · simp [i_receipts_of, startE, hl]
    rw [bd_bd]
    refine for_testP (fun pre env => ∃ x2 x3, env = [.val (.tup (ss.map Slp.d)), .own (pre.map Slp.rc), x2, x3]) (fun s => !slpOk s) ⟨_, _, rfl⟩ (d := .non) ?_ ?_ ?_
    · rintro pre s post env hq ⟨x2, x3, rfl⟩
      refine ⟨_, rfl, ?_⟩
      have hpl := pre_len hq
      have hpl2 : pre.length < 1000 := by omega
      simp [h.ride]
      by_cases ht : tlOk s.t = true
      · have er := ev_is_receipt n B h.nc s (hs.2 s (memOf hq)) (tlOk_inv ht).2.2.1.1
        have es : slpOk s = (decide (s.a.length = s.t.r.length) && (s.a.all amOk && btw s.p 0 1000)) := by
          simp only [slpOk, ht, Bool.true_and]
        rw [← es] at er
        simp [ht, er]
        cases slpOk s <;> simp [hpl2]
      · have es : slpOk s = false := by
          simp only [slpOk, ht, Bool.false_and]
        simp [ht, es, ev_is_receipt0 _ _ h.nc]
    · intro e
      have es : slpsOk ss = false := by
        simp [slpsOk] at e ⊢
        intro _
        exact e
      simp [es]
    · rintro e env ⟨x2, x3, rfl⟩
      have es : slpsOk ss = true := by
        simp [slpsOk] at e ⊢
        exact ⟨by omega, e⟩
      simp [es]
theorem ev_fare_told (h : PrR prim) (t : Tl) {o : Str} (ho : okO o) (k : Int) : run tab prim (n + 4) ("fare_told" : Str) [t.d, .int k, .str o] B = some (if kOk t k = true then fP (0, far o t k) else .non, B) := by
  rw [run_fn h.nc t_fare_told, runB_eq _ _ _ _ rfl]
  by_cases ht : tlOk t = true
  · have hl := (tlOk_inv ht).2.2.2.2.1
    have el : biF .len [.ride (tI t.c) (rsD t.r)] = some (.int t.r.length) := by
      show (if (t.r.map tI).length ≤ 1000 then _ else _) = _
      rw [if_pos (by simp; omega)]
      simp
    have ef := ev_fare_form n B h ht ho k
    simp [i_fare_told, startE, h.ride, ht, isNon, el, ev_is_between h.nc, kOk, ef]
    cases btw k 0 ((t.r.length : Int) - 1) <;> simp
  · simp [i_fare_told, startE, h.ride, ht, isNon, kOk]
theorem ev_aim_of (h : PrR prim) {c : Cl} (hc : ClB c) (ho : okO c.o) : run tab prim (n + 5) ("aim_of" : Str) [c.d] B = some (if rsOk c.r = true then .tup [fP (aim c.w c.o c.r).1, .int (aim c.w c.o c.r).2] else .non, B) := by
  rw [run_fn h.nc t_aim_of, runB_eq _ _ _ _ rfl]
  obtain ⟨w, cu, o, ss, r⟩ := c
  have f0 := ev_form_of0 h.nc (n + 2) B
  cases r with
  | z => simp [i_aim_of, startE, Cl.d, Rs.ds, rsOk, aim, f0]
  | e t k a b =>
    have e1 := ev_fare_told n B h t ho k
    have e2 := ev_is_fraction (n + 2) B h a b
    obtain ⟨s1, s2⟩ := ends_small _ (hc.nd t k a b rfl)
    have wd : w = ("can pay" : Str) ∨ w = ("at most" : Str) ∨ w = ("at least" : Str) := hc.wd
    have m1 : opB .mul (.int 1) (.int b) = some (.int (1 * b)) := o_mul (.inl sm1)
    have m2 : opB .mul (.int (-1)) (.int b) = some (.int (-1 * b)) := o_mul (.inl smN)
    have j1 := ev_joinedP h.nc (n + 3) B 0 (-a) (far o t k) z10 (1 * b) 1 (by simpa using s1) sm1 (by simp [far_len])
    have j2 := ev_joinedP h.nc (n + 3) B 0 (-a) (far o t k) z10 (-1 * b) (-1) (by simpa using s2) smN (by simp [far_len])
    simp only [Int.one_mul, Int.neg_mul] at m1 m2 j1 j2
    cases hk : kOk t k with
    | false =>
      simp [hk] at e1
      simp [i_aim_of, startE, Cl.d, Rs.ds, rsOk, hk, e1, isNon]
    | true =>
      simp [hk] at e1
      cases hf : frOk a b with
      | false =>
        simp [hf] at e2
        simp [i_aim_of, startE, Cl.d, Rs.ds, rsOk, hk, e1, isNon, e2, hf]
      | true =>
        simp [hf] at e2
        rcases wd with rfl | rfl | rfl <;> simp [i_aim_of, startE, Cl.d, Rs.ds, rsOk, hk, e1, isNon, e2, hf, m1, m2, f0, j1, j2, aim, sgn, ofS_inj]
  | m t k u j =>
    have e1 := ev_fare_told n B h t ho k
    have e2 := ev_fare_told n B h u ho j
    have j1 := ev_joinedP h.nc (n + 3) B 0 0 (far o t k) (far o u j) 1 (-1) sm1 smN (by simp [far_len])
    cases hk : kOk t k with
    | false =>
      simp [hk] at e1
      simp [i_aim_of, startE, Cl.d, Rs.ds, rsOk, hk, e1, isNon]
    | true =>
      simp [hk] at e1
      cases hj : kOk u j with
      | false =>
        simp [hj] at e2
        simp [i_aim_of, startE, Cl.d, Rs.ds, rsOk, hk, hj, e1, e2, isNon]
      | true =>
        simp [hj] at e2
        simp [i_aim_of, startE, Cl.d, Rs.ds, rsOk, hk, hj, e1, e2, isNon, j1, aim]
theorem aim_len (w o : Str) (r : Rs) : (aim w o r).1.2.length = 10 := by
  cases r <;> simp [aim, jn, far_len]
theorem rooms_len {cu : Cu} (hc : cuOk cu = true) (o : Str) {ss : List Slp} (hs : slpsOk ss = true) : (rooms cu o ss).length ≤ 900 := by
  have h1 := flat_len (L := ss) (f := slF o) (m := 12) fun y hy => slF_le o ((slpsOk_inv hs).2 y hy)
  have h2 := (slpsOk_inv hs).1
  have h3 := rules_le hc
  unfold rooms
  rw [List.length_append, List.length_map]
  omega
theorem rooms_ten (cu : Cu) (o : Str) (ss : List Slp) : ∀ r ∈ rooms cu o ss, r.2.length = 10 := by
  intro r hr
  unfold rooms at hr
  rcases List.mem_append.mp hr with h | h
  · obtain ⟨q, _, rfl⟩ := List.mem_map.mp h
    exact clF_len q
  · obtain ⟨s, _, h⟩ := List.mem_flatMap.mp h
    obtain ⟨⟨x, i⟩, _, h⟩ := List.mem_flatMap.mp h
    cases x with
    | none => simp [amF_n] at h
    | some v =>
      simp [amF_s] at h
      rcases h with rfl | rfl <;> simp [jn, far_len]
theorem ev_holds (h : PrR2 prim) {c : Cl} (hc : ClB c) {p : Pp} (hp : ∀ k, p = .num k → k ≤ 900) : run tab prim (n + 8) ("holds" : Str) [c.d, p.d] B = some (.bl (ans c p), B) := by
  rw [run_fn h.nc t_holds, runB_eq _ _ _ _ rfl]
  have e1 := ev_is_custom h.nc (n + 3) B c.cu hc.cu
  have e2 := ev_receipts_of (n + 2) B h.toPrR c.ss hc.sl
  have e3 := fun ho => ev_aim_of (n + 2) B h.toPrR hc ho
  obtain ⟨w, cu, o, ss, r⟩ := c
  have wd : ∃ m : Nat, (Cl.d ⟨w, cu, o, ss, r⟩ = .tup (.str w :: cu.d :: .str o :: .tup (ss.map Slp.d) :: r.ds)) ∧ lkD g_LENGTHS w = some (m : Int) ∧ r.ds.length + 4 = m := by
    have q := hc.wd
    cases r with
    | z => exact ⟨4, rfl, by rcases q with q | q <;> (subst q; rfl), rfl⟩
    | e t k a b => exact ⟨7, rfl, by rcases q with q | q | q <;> (subst q; rfl), rfl⟩
    | m t k u j => exact ⟨8, rfl, by rcases q with q | q <;> (subst q; rfl), rfl⟩
  obtain ⟨m, _, w2, w3⟩ := wd
  have w4 : (r.ds.length : Int) + 1 + 1 + 1 + 1 = m := by omega
  have hm : ¬ m = 0 := by omega
  simp only [Cl.d] at e1 e2 e3
  simp [i_holds, startE, Cl.d, w2, w4, e1, e2, hm]
  cases h1 : cuOk cu with
  | false => simp [ans, clAll, h1]
  | true =>
    cases h2 : oOk o with
    | false =>
      have hno : ∀ x ∈ g_ORDERS, ¬ x = o := by
        simpa [oOk] using h2
      simp only [if_pos hno]
      simp [ans, clAll, h2]
    | true =>
      have hyes : ¬ ∀ x ∈ g_ORDERS, ¬ x = o := by
        simpa [oOk] using h2
      simp only [if_neg hyes]
      have e4 := e3 (oOk_inv h2)
      cases h3 : slpsOk ss with
      | false => simp [isNon, ans, clAll, h3]
      | true =>
        cases h4 : rsOk r with
        | false =>
          simp [h4] at e4
          simp [isNon, e4, ans, clAll, h4]
        | true =>
          simp [h4] at e4
          have e5 := ev_room_forms (n + 3) B h.toPrR h1 (oOk_inv h2) h3
          have e6 := ev_by_table n B h w (aim w o r).1 (rooms cu o ss) (by have := rooms_len h1 o h3; omega) p
          have e7 := ev_by_numbers (n + 3) B h.nc w (aim w o r).1 (aim w o r).2 (rooms cu o ss) p hp (aim_len w o r) (rooms_ten cu o ss)
          have hb : (g_BY_TABLE.any fun x => x == w) = tbl w := rfl
          have ht : ans ⟨w, cu, o, ss, r⟩ p = if tbl w = true then byT w (aim w o r).1 (rooms cu o ss) p else byN w (aim w o r).1 (rooms cu o ss) p := by
            simp only [ans, clAll, h1, h2, h3, h4, Bool.true_and]
          rw [ht]
          simp [isNon, e4, e5, e6, e7, hb, -List.any_eq_true]
          cases tbl w <;> simp
end
end Cab.P
set_option Elab.async false
set_option linter.all false
set_option maxRecDepth 100000
set_option maxHeartbeats 4000000
/-! The plain part: what the law judges. -/
namespace Cab.P
open PySem L2
theorem fm_len (t : Int) : ∀ (rs : List (List Int)) (n : Nat), (rs.filterMap fun r => if on t r = true then some (tI r) else none).length = ((rs.zipIdx n).filterMap fun p => if on t p.1 = true then some (p.2 : Int) else none).length
  | [], _ => rfl
  | r :: rs, n => by
    rw [List.zipIdx_cons, List.filterMap_cons, List.filterMap_cons]
    have ih := fm_len t rs (n + 1)
    cases on t r
    · exact ih
    · simp only [if_true, List.length_cons, ih]
theorem p6 : opB .pow (.int 10) (.int 6) = some (.int 1000000) := by rfl
theorem p8 : opB .pow (.int 10) (.int 8) = some (.int 100000000) := by rfl
@[simp] theorem if_blp {c : Prop} [Decidable c] {y : Bool} {B : Bg} : (if c then some (D.bl y, B) else some (D.bl false, B)) = some (D.bl (decide c && y), B) := by
  by_cases h : c <;> simp [h]
section
variable {prim : PrimT} (n : Nat) (B : Bg)
theorem ev__law_full (h : NoCl prim) {y : D} {rs : List (List Int)} (hy : seqOf y = some (rs.map tI)) (hr : Rds rs) (m : Nat) (hm : m ≤ 900) : run tab prim (n + 1) ("_law_full" : Str) [y, .int m] B = some (.bl (crowd m rs), B) := by
  rw [run_fn h t__law_full, runB_eq _ _ _ _ rfl]
  simp [i__law_full, startE]
  rw [rng1_nat _ _ (by omega), bd_some, bd_bd]
  refine for_test (fun env => ∃ x2 x3, env = [.val y, .val (.int m), x2, x3]) (fun t : Nat => decide (4 < ((abd rs t).length : Int))) ⟨_, _, rfl⟩ (d := .bl true) ?_ ?_ ?_
  · rintro t _ env ⟨x2, x3, rfl⟩
    refine ⟨_, rfl, ?_⟩
    have e := lcGo_fm (f := lcB (run tab prim n) (.nm 3) (.tst (.and_ (.cmp .le (.ix (.v 3) (.c (.int 0))) (.v 2)) (.cmp .lt (.v 2) (.ix (.v 3) (.c (.int 1)))))) (.v 3) [.val y, .val (.int m), .val (.int t), .un]) (e := tI) (g := fun r => if on t r = true then some (tI r) else none) (B := B) (xs := rs) (by
      intro r hm
      obtain ⟨a, b, l, rfl⟩ := hr.2 r hm
      simp [lcB, on]
      by_cases h1 : a ≤ (t : Int) <;> by_cases h2 : (t : Int) < b <;> simp [h1, h2])
    have el : (rs.filterMap fun r => if on t r = true then some (tI r) else none).length = (abd rs t).length := fm_len t rs 0
    have el2 : (rs.filterMap fun r => if on t r = true then some (tI r) else none).length ≤ 1000 := by
      have := abd_len rs t
      have := hr.1
      omega
    simp [hy, e, el2]
    rw [el]
    constructor
    · intro q
      simp [q]
    · intro q
      have q2 : ¬ (4 : Int) < (abd rs t).length := by omega
      simp [q2]
  · intro e
    have e2 : crowd m rs = true := e
    simp [e2]
  · rintro e env ⟨x2, x3, rfl⟩
    have e2 : crowd m rs = false := e
    simp [e2]
theorem ev__law_is_told (h : NoCl prim) (t : Tl) : run tab prim (n + 2) ("_law_is_told" : Str) [t.d] B = some (.bl (tlOk t), B) := by
  rw [run_fn h t__law_is_told, runB_eq _ _ _ _ rfl]
  simp [i__law_is_told, startE, p6]
  cases h1 : lenOk t.c.length 12 with
  | false =>
    have q : (t.c.length : Int) < 1 ∨ 12 < (t.c.length : Int) := by
      simp [lenOk] at h1
      omega
    rw [if_pos q]
    simp [tlOk, h1]
  | true =>
    have q1 := lenOk_inv h1
    have q6 : t.c.length ≤ 1000 := by omega
    rw [if_neg (by omega), lcGo_map (g := fun x => D.bl (btw x 0 1000000)) (fun x _ => by simp [lcB, p6, ev__law_whole h])]
    generalize hc : (t.c.all fun x => btw x 0 1000000) = c2
    have hl : (!decide ((1 : Int) ≤ (t.r.length : Int)) || !decide ((t.r.length : Int) ≤ 6)) = !lenOk t.r.length 6 := by
      simp only [lenOk, Bool.not_and]
      rfl
    rw [hl]
    simp [q6, hc]
    cases c2 with
    | false => simp [tlOk, hc]
    | true =>
      cases h3 : lenOk t.r.length 6 with
      | false => simp [tlOk, h3]
      | true =>
        simp
        rw [bd_bd]
        refine for_test (fun env => ∃ x2, env = [.val t.d, .val (.int t.c.length), x2]) (fun r => !rdOk t.c.length r) ⟨_, rfl⟩ (d := .bl false) ?_ ?_ ?_
        · rintro r _ env ⟨x2, rfl⟩
          refine ⟨_, rfl, ?_⟩
          by_cases hl : r.length = 3
          · obtain ⟨a, b, l, rfl⟩ : ∃ a b l, r = [a, b, l] := by
              match r, hl with
              | [a, b, l], _ => exact ⟨a, b, l, rfl⟩
            simp [ev__law_whole h, rdOk]
            cases btw a 0 ((t.c.length : Int) - 1) <;> cases btw b (a + 1) t.c.length <;> cases btw l 0 9 <;> simp
          · have hl2 : ¬ ((r.length : Int) = 3) := by omega
            have e : rdOk t.c.length r = false := by
              unfold rdOk
              split
              · simp at hl
              · rfl
            simp [hl2, e]
        · intro e
          have e2 : t.r.all (rdOk t.c.length) = false := by
            simpa using e
          simp [tlOk, e2]
        · rintro e env ⟨x2, rfl⟩
          have e2 : t.r.all (rdOk t.c.length) = true := by
            simpa using e
          have ef := ev__law_full n B h (y := rsD t.r) rfl (rds_of h3 e2) t.c.length (by omega)
          simp [ef, tlOk, h1, hc, h3, e2]
theorem ev__law_are_slips (h : NoCl prim) (ss : List Slp) : run tab prim (n + 3) ("_law_are_slips" : Str) [.tup (ss.map Slp.d)] B = some (.bl (slpsOk ss), B) := by
  rw [run_fn h t__law_are_slips, runB_eq _ _ _ _ rfl]
  by_cases hl : (6 : Int) < ss.length
  · have e : slpsOk ss = false := by
      simp [slpsOk]
      omega
    simp [i__law_are_slips, startE, hl, e]
  · simp [i__law_are_slips, startE, hl]
    rw [bd_bd]
    refine for_test (fun env => ∃ x1 x2, env = [.val (.tup (ss.map Slp.d)), x1, x2]) (fun s => !slpOk s) ⟨_, _, rfl⟩ (d := .bl false) ?_ ?_ ?_
    · rintro s _ env ⟨x1, x2, rfl⟩
      refine ⟨_, rfl, ?_⟩
      simp only [slpOk]
      cases ht : tlOk s.t with
      | false => simp [ev__law_is_told _ _ h, ht]
      | true =>
        by_cases ha : s.a.length = s.t.r.length
        · have hr := (tlOk_inv ht).2.2.2.2.1
          have hal : s.a.length ≤ 1000 := by omega
          cases hp : btw s.p 0 1000 with
          | false => simp [ev__law_is_told _ _ h, ht, ha, ev__law_whole h, hp]
          | true =>
            have e := lcGo_map (f := lcB (run tab prim (n + 2)) (.nm 2) .nop (.or_ (.isN false (.v 2)) (.call ("_law_whole" : Str) (.econs (.v 2) (.econs (.c (.int 0)) (.econs (.bin .pow (.c (.int 10)) (.c (.int 8))) .enil))))) [.val (.tup (ss.map Slp.d)), .val s.d, .un]) (e := oI) (g := fun x => D.bl (amOk x)) (B := B) (xs := s.a) (by
              intro x _
              cases x with
              | none => simp [lcB, oI, isNon, amOk]
              | some i => simp [lcB, oI, isNon, amOk, p8, ev__law_whole h])
            generalize hc : s.a.all amOk = c2
            rw [ha] at hal
            simp [ev__law_is_told _ _ h, ht, ha, ev__law_whole h, hp, e, hc, hal]
            cases c2 <;> simp
        · have ha2 : ¬ ((s.a.length : Int) = s.t.r.length) := by omega
          simp [ev__law_is_told _ _ h, ht, ha]
          omega
    · intro e
      have es : slpsOk ss = false := by
        simp [slpsOk] at e ⊢
        intro _
        exact e
      simp [es]
    · rintro e env ⟨x1, x2, rfl⟩
      have es : slpsOk ss = true := by
        simp [slpsOk] at e ⊢
        exact ⟨by omega, e⟩
      simp [es]
end
end Cab.P
set_option Elab.async false
set_option linter.all false
set_option maxRecDepth 100000
set_option maxHeartbeats 4000000
/-! The plain part: the law's own answer. -/
namespace Cab.P
open PySem L2
structure PrL2 (prim : PrimT) : Prop extends PrL prim where
  sh : ∀ n B, run tab prim (n + 4) ("_law_is_sheet" : Str) [evenD] B = some (.bl true, B)
  pt : ∀ n B, ∀ e ∈ endsL, run tab prim (n + 2) ("_law_is_part" : Str) [prD e] B = some (.bl (frOk e.1 e.2), B)
theorem z10_zero : ∀ x ∈ z10, x = 0 := by decide +kernel
theorem jn_neg (f : Fm) (p a s : Int) : jn f p (-a, z10) s = jn f p (a, z10) (-s) := by
  unfold jn
  have e1 : p * f.1 + s * -a = p * f.1 + -s * a := by rw [Int.mul_neg, Int.neg_mul]
  refine Prod.ext e1 ?_
  apply List.map_congr_left
  rintro ⟨x, y⟩ hz
  have hy := z10_zero y (List.of_mem_zip hz).2
  subst hy
  simp
theorem clAll_inv {c : Cl} (h : clAll c = true) : cuOk c.cu = true ∧ oOk c.o = true ∧ slpsOk c.ss = true ∧ rsOk c.r = true := by
  simp only [clAll, Bool.and_eq_true] at h
  exact ⟨h.1.1.1, h.1.1.2, h.1.2, h.2⟩
section
variable {prim : PrimT} (n : Nat) (B : Bg)
theorem ev__law_excess (h : NoCl prim) {c : Cl} (hc : ClB c) (ha : clAll c = true) : run tab prim (n + 3) ("_law_excess" : Str) [c.d] B = some (.tup [fL (aim c.w c.o c.r).1, .int (aim c.w c.o c.r).2], B) := by
  rw [run_fn h t__law_excess, runB_eq _ _ _ _ rfl]
  obtain ⟨_, _, _, hr⟩ := clAll_inv ha
  have e0 : opB .mul (.lst [.int 0]) (.int 10) = some (lI z10) := by rfl
  obtain ⟨w, cu, o, ss, r⟩ := c
  cases r with
  | z => simp [i__law_excess, startE, Cl.d, Rs.ds, aim, e0]
  | e t k a b =>
    simp only [rsOk, kOk, Bool.and_eq_true] at hr
    have ht := hr.1.1
    obtain ⟨s1, s2⟩ := ends_small _ (hc.nd t k a b rfl)
    have wd : w = ("can pay" : Str) ∨ w = ("at most" : Str) ∨ w = ("at least" : Str) := hc.wd
    have m1 : opB .mul (.int 1) (.int b) = some (.int (1 * b)) := o_mul (.inl sm1)
    have m2 : opB .mul (.int (-1)) (.int b) = some (.int (-1 * b)) := o_mul (.inl smN)
    have j1 := ev__law_mixP h (n + 1) B 0 a (far o t k) z10 (1 * b) (-1) (by simpa using s1) smN (far_len _ _ _) rfl
    have j2 := ev__law_mixP h (n + 1) B 0 a (far o t k) z10 (-1 * b) 1 (by simpa using s2) sm1 (far_len _ _ _) rfl
    simp only [Int.one_mul, Int.neg_mul] at m1 m2 j1 j2
    have g1 := jn_neg (0, far o t k) b a 1
    have g2 := jn_neg (0, far o t k) (-b) a (-1)
    simp only [Int.neg_neg] at g1 g2
    rcases wd with rfl | rfl | rfl <;> simp [i__law_excess, startE, Cl.d, Rs.ds, ev__law_fare _ _ h ht, m1, m2, e0, j1, j2, aim, sgn, ofS_inj, g1, g2]
  | m t k u j =>
    simp only [rsOk, kOk, Bool.and_eq_true] at hr
    have ht := hr.1.1
    have hu := hr.2.1
    have j1 := ev__law_mixP h (n + 1) B 0 0 (far o t k) (far o u j) 1 (-1) sm1 smN (far_len _ _ _) (far_len _ _ _)
    simp [i__law_excess, startE, Cl.d, Rs.ds, ev__law_fare _ _ h ht, ev__law_fare _ _ h hu, j1, aim]
theorem py_told {m : Nat} (t : Tl) : PyOk (m + 3) t.d := pyOk_tup fun x hx => by
  simp at hx
  rcases hx with rfl | rfl
  · exact (pyOk_ints (n := 0) t.c).mono (by omega)
  · exact (pyOk_rs (n := 0) t.r).mono (by omega)
theorem py_slp {m : Nat} (s : Slp) : PyOk (m + 4) s.d := pyOk_tup fun x hx => by
  simp at hx
  rcases hx with rfl | rfl | rfl
  · exact py_told s.t
  · refine (pyOk_tup (n := 0) fun x hx => ?_).mono (by omega)
    obtain ⟨v, _, rfl⟩ := List.mem_map.mp hx
    cases v with
    | none => exact pyOk_non
    | some i => exact pyOk_int i
  · exact pyOk_int _
def strG (s : Str) : Prop := PyData.canLay0 (.str s) = true
theorem py_cl {c : Cl} (h1 : strG c.w) (h2 : strG c.o) (h3 : ∀ s, c.cu = .w s → strG s) : PyOk 6 c.d := pyOk_tup fun x hx => by
  obtain ⟨w, cu, o, ss, r⟩ := c
  simp at hx
  rcases hx with rfl | rfl | rfl | rfl | hx
  · exact pyOk_str h1
  · cases cu with
    | w s => exact pyOk_str (h3 s rfl)
    | r rs => exact (pyOk_rs (n := 0) rs).mono (by omega)
  · exact pyOk_str h2
  · refine pyOk_tup fun x hx => ?_
    obtain ⟨s, _, rfl⟩ := List.mem_map.mp hx
    exact py_slp s
  · cases r with
    | z => simp [Rs.ds] at hx
    | e t k a b =>
      simp [Rs.ds] at hx
      rcases hx with rfl | rfl | rfl
      · exact (py_told (m := 0) t).mono (by omega)
      · exact pyOk_int _
      · exact (pyOk_ints (n := 0) [a, b]).mono (by omega)
    | m t k u j =>
      simp [Rs.ds] at hx
      rcases hx with rfl | rfl | rfl | rfl
      · exact (py_told (m := 0) t).mono (by omega)
      · exact pyOk_int _
      · exact (py_told (m := 0) u).mono (by omega)
      · exact pyOk_int _
structure ClB2 (c : Cl) : Prop extends ClB c where
  g1 : strG c.w
  g2 : strG c.o
  g3 : ∀ s, c.cu = .w s → strG s
theorem ev__law_is_asked (h : PrL2 prim) {c : Cl} (hc : ClB2 c) : run tab prim (n + 4) ("_law_is_asked" : Str) [c.d] B = some (.bl (clAll c), B) := by
  rw [run_fn h.nc t__law_is_asked, runB_eq _ _ _ _ rfl]
  have q0 : opC .eq c.d (.tup []) = some false := eqD_t0 (py_cl hc.g1 hc.g2 hc.g3) (by omega)
  have e1 := ev__law_is_custom h.nc (n + 1) B c.cu
  have e2 := ev__law_are_slips n B h.nc c.ss
  obtain ⟨w, cu, o, ss, r⟩ := c
  have wd : ∃ m : Nat, lkD g_LENGTHS w = some (m : Int) ∧ r.ds.length + 4 = m := by
    have q := hc.wd
    cases r with
    | z => exact ⟨4, by rcases q with q | q <;> (subst q; rfl), rfl⟩
    | e t k a b => exact ⟨7, by rcases q with q | q | q <;> (subst q; rfl), rfl⟩
    | m t k u j => exact ⟨8, by rcases q with q | q <;> (subst q; rfl), rfl⟩
  obtain ⟨m, w2, w3⟩ := wd
  have w4 : (r.ds.length : Int) + 1 + 1 + 1 + 1 = m := by omega
  have ho := inDt_strs o g_ORDERS
  have hob : (g_ORDERS.any fun x => x == o) = oOk o := rfl
  rw [hob] at ho
  simp only [g_ORDERS, g_LENGTHS, List.map] at ho w2
  simp only [Cl.d] at q0 e1 e2
  simp [i__law_is_asked, startE, Cl.d, w2, w4, e1, e2, q0, ho]
  cases h1 : cuOk cu with
  | false => simp [clAll, h1]
  | true =>
    cases h2 : oOk o with
    | false => simp [clAll, h2]
    | true =>
      cases h3 : slpsOk ss with
      | false => simp [clAll, h3]
      | true =>
        cases r with
        | z =>
          have hm : m = 4 := by rw [← w3]; rfl
          subst hm
          simp [clAll, h1, h2, h3, rsOk]
        | e t k a b =>
          have hm : m = 7 := by rw [← w3]; rfl
          subst hm
          have ep := h.pt (n + 1) B (a, b) (hc.nd t k a b rfl)
          simp only [prD] at ep
          simp [Rs.ds, forGo_cons, ev__law_is_told _ _ h.nc, ev__law_whole h.nc, ep, clAll, h1, h2, h3, rsOk, kOk]
          cases tlOk t <;> cases btw k 0 ((t.r.length : Int) - 1) <;> simp
        | m t k u j =>
          have hm : m = 8 := by rw [← w3]; rfl
          subst hm
          simp [Rs.ds, forGo_cons, ev__law_is_told _ _ h.nc, ev__law_whole h.nc, clAll, h1, h2, h3, rsOk, kOk]
          cases tlOk t <;> cases btw k 0 ((t.r.length : Int) - 1) <;> cases tlOk u <;> cases btw j 0 ((u.r.length : Int) - 1) <;> simp
theorem ev__law_is_sheet (h : PrL2 prim) (p : Pp) : run tab prim (n + 4) ("_law_is_sheet" : Str) [p.d] B = some (.bl (match p with | .even => true | .num _ => false), B) := by
  cases p with
  | even => exact h.sh n B
  | num k =>
    rw [run_fn h.nc t__law_is_sheet, runB_eq _ _ _ _ rfl]
    simp [i__law_is_sheet, startE, Pp.d]
theorem ev__law_by_sheet (h : PrL2 prim) {c : Cl} (hc : ClB c) (ha : clAll c = true) (p : Pp) : run tab prim (n + 5) ("_law_by_sheet" : Str) [c.d, p.d] B = some (.bl (byT c.w (aim c.w c.o c.r).1 (rooms c.cu c.o c.ss) p), B) := by
  rw [run_fn h.nc t__law_by_sheet, runB_eq _ _ _ _ rfl]
  obtain ⟨h1, h2, h3, h4⟩ := clAll_inv ha
  have e := ev__law_is_sheet n B h p
  have er := ev__law_rooms (n + 1) B h.nc h1 (o := c.o) h3
  have ex := ev__law_excess (n + 1) B h.nc hc ha
  obtain ⟨w, cu, o, ss, r⟩ := c
  cases p with
  | num k => simp [i__law_by_sheet, startE, e, byT]
  | even =>
    have e1 := ev__law_keeps (n + 1) B h.toPrL (rooms cu o ss) (Nat.le_trans (rooms_len h1 o h3) (by omega)) (rooms_ten cu o ss)
    have e2 := ev__law_at (n + 2) B h.toPrL (aim w o r).1 (aim_len w o r)
    simp only [Pp.d, Cl.d] at e er ex ⊢
    simp only [prD] at e2
    generalize hk : ((rooms cu o ss).all fun f => decide (0 ≤ (wth f).1)) = c2 at e1
    simp [i__law_by_sheet, startE, e, er, e1]
    cases c2 with
    | false => simp [byT, hk]
    | true =>
      simp [ex, e2, byT, hk]
      by_cases q1 : w = ("fits" : Str) <;> by_cases q2 : w = ("can pay" : Str) <;> simp [q1, q2, ofS_inj]
theorem ev__law_by_sum (h : PrL2 prim) {c : Cl} (hc : ClB c) (ha : clAll c = true) (p : Pp) (hp : ∀ k, p = .num k → k ≤ 900) : run tab prim (n + 5) ("_law_by_sum" : Str) [c.d, p.d] B = some (.bl (byN c.w (aim c.w c.o c.r).1 (rooms c.cu c.o c.ss) p), B) := by
  rw [run_fn h.nc t__law_by_sum, runB_eq _ _ _ _ rfl]
  obtain ⟨h1, h2, h3, h4⟩ := clAll_inv ha
  have er := ev__law_rooms (n + 1) B h.nc h1 (o := c.o) h3
  have ex := ev__law_excess (n + 1) B h.nc hc ha
  obtain ⟨w, cu, o, ss, r⟩ := c
  simp only [Cl.d] at er ex h1 h3
  cases p with
  | even => simp [i__law_by_sum, startE, er, ex, Cl.d, Pp.d, evenD, byN]
  | num k =>
    have hk := hp k rfl
    have hk2 : k ≤ 1000 := by omega
    have hrl := rooms_len h1 o h3
    have hr10 := rooms_ten cu o ss
    have ha10 := aim_len w o r
    generalize rooms cu o ss = rs at er hrl hr10
    generalize aim w o r = am at ex ha10
    obtain ⟨am, sc⟩ := am
    simp only [Cl.d, Pp.d] at *
    by_cases hkr : k = rs.length
    · subst hkr
      have ef := lcGo_map (f := lcB (run tab prim (n + 4)) (.nm 7) .nop (.call ("_law_from" : Str) (.econs (.v 7) .enil)) [.val (D.tup (.str w :: cu.d :: .str o :: .tup (ss.map Slp.d) :: r.ds)), .val (.tup [.int 1, tI (List.replicate rs.length 0)]), .val (.lst (rs.map fL)), .val (fL am), .val (.int sc), .un, .un, .un]) (e := D.int) (g := fun i => D.bl (decide (0 ≤ i))) (B := B) (xs := List.replicate rs.length 0) (fun i _ => by simp [lcB, ev__law_from h.nc])
      have e0 : opB .mul (.lst [.int 0]) (.int 10) = some (lI z10) := by rfl
      have m0 : opB .mul (.int sc) (.int 0) = some (.int (sc * 0)) := o_mul (.inr (by decide +kernel))
      simp only [Int.mul_zero] at m0
      have j0 := ev__law_mixP h.nc (n + 3) B am.1 0 am.2 z10 1 0 sm1 (by decide +kernel) ha10 rfl
      simp at ef
      simp [i__law_by_sum, startE, er, ex, ev__law_from h.nc, ef, hk2, b_allR, e0, j0]
      rw [rng1_nat _ _ (by omega), bd_some, range_zip, bd_bd]
      refine for_then (fun pre env => ∃ x6 x7, env = [.val (D.tup (.str w :: cu.d :: .str o :: .tup (ss.map Slp.d) :: r.ds)), .val (.tup [.int 1, tI (List.replicate rs.length 0)]), .val (.lst (rs.map fL)), .val (fL am), .val (.int sc), .val (fL (tot am (pre.map fun q : Fm × Nat => q.1))), x6, x7]) ⟨_, _, rfl⟩ ?_ ?_
      · rintro pre ⟨f, i⟩ post env hq ⟨x6, x7, rfl⟩
        have hm := mem_zip (memOf hq)
        simp at hm
        obtain ⟨hi, hf⟩ := List.getElem?_eq_some_iff.mp hm
        have hsub : ∀ q ∈ pre.map (fun q : Fm × Nat => q.1), q.2.length = 10 := by
          intro q hqm
          obtain ⟨z, hz, rfl⟩ := List.mem_map.mp hqm
          have := mem_zip (pre_mem hq z hz)
          exact hr10 _ (List.mem_of_getElem? this)
        have j1 := ev__law_mix h.nc (n + 3) B (tot am (pre.map fun q : Fm × Nat => q.1)) f 1 0 sm1 (by decide +kernel) (tot_len ha10 hsub) (hr10 f (List.mem_of_getElem? hm))
        have et : tot am ((pre.map fun q : Fm × Nat => q.1) ++ [f]) = jn (tot am (pre.map fun q : Fm × Nat => q.1)) 1 f 0 := by simp [tot]
        refine ⟨_, rfl, ?_⟩
        simp [atI_nat, hm, hi, hf, m0, j1, et]
      · rintro env ⟨x6, x7, rfl⟩
        rw [show rs.zipIdx.map (fun q : Fm × Nat => q.1) = rs from List.zipIdx_map_fst 0 rs]
        have g := ev__law_top (n + 3) B h.nc (tot am rs) (tot_len ha10 hr10)
        by_cases q1 : w = ("none fits" : Str) <;> simp [q1, g, byN]
    · have hkr2 : ¬ ((k : Int) = rs.length) := by omega
      simp [i__law_by_sum, startE, er, ex, hkr, byN]
      omega
theorem ev__law_judge (h : PrL2 prim) {c : Cl} (hc : ClB2 c) (p : Pp) (hp : ∀ k, p = .num k → k ≤ 900) : run tab prim (n + 6) ("_law_judge" : Str) [c.d, p.d] B = some (.bl (ans c p), B) := by
  rw [run_fn h.nc t__law_judge, runB_eq _ _ _ _ rfl]
  have e1 := ev__law_is_asked (n + 1) B h hc
  cases ha : clAll c with
  | false =>
    rw [ha] at e1
    simp [i__law_judge, startE, e1, ans, ha]
  | true =>
    rw [ha] at e1
    have e2 := ev__law_by_sheet n B h hc.toClB ha p
    have e3 := ev__law_by_sum n B h hc.toClB ha p hp
    have ew := inDt_strs c.w g_BY_TABLE
    have hb : (g_BY_TABLE.any fun x => x == c.w) = tbl c.w := rfl
    rw [hb] at ew
    simp only [g_BY_TABLE, List.map] at ew
    have e0 : atD c.d (.int 0) = some (.str c.w) := by simp [Cl.d]
    simp [i__law_judge, startE, e1, e0, ew, e2, e3, ans, ha]
    cases tbl c.w <;> simp
end
end Cab.P
set_option Elab.async false
set_option linter.all false
set_option maxRecDepth 100000
set_option maxHeartbeats 4000000
/-! The plain part: what the law draws. -/
namespace Cab.P
open PySem L2
def BagOk (B : Bg) : Prop := 0 ≤ B.1 ∧ B.1 < 2147483587 ∧ 0 ≤ B.2.1
/-- a drawn ride -/
structure TlG (t : Tl) : Prop where
  c1 : 1 ≤ t.c.length
  c2 : t.c.length ≤ 5
  r1 : 1 ≤ t.r.length
  r2 : t.r.length ≤ 6
  tr : ∀ r ∈ t.r, ∃ a b l, r = [a, b, l]
theorem TlG.rds {t : Tl} (h : TlG t) : Rds t.r := ⟨by have := h.r2; omega, h.tr⟩
def isTl (d : D) : Prop := ∃ t : Tl, d = t.d ∧ TlG t
theorem seed_ok (B : Bg) : 0 ≤ seedN B ∧ seedN B < 2147483587 := by
  unfold seedN
  exact ⟨Int.emod_nonneg _ (by decide), Int.emod_lt_of_pos _ (by decide)⟩
theorem lcGo_bag {f : D → Bg → Option (Option D × Bg)} {Q : Bg → Prop} {R : D → Prop} : ∀ {xs : List D} {B : Bg}, Q B → (∀ x ∈ xs, ∀ B, Q B → ∃ y B', f x B = some (some y, B') ∧ R y ∧ Q B') →
    ∃ ys B', lcGo f xs B = some (ys, B') ∧ ys.length = xs.length ∧ (∀ y ∈ ys, R y) ∧ Q B'
  | [], B, hB, _ => ⟨[], B, rfl, rfl, by simp, hB⟩
  | x :: xs, B, hB, st => by
    obtain ⟨y, B1, h1, h2, h3⟩ := st x (by simp) B hB
    obtain ⟨ys, B2, h4, h5, h6, h7⟩   := lcGo_bag (xs := xs) h3 fun z hz => st z (by simp [hz])
    refine ⟨y :: ys, B2, ?_, by simp [h5], by simp; exact ⟨h2, h6⟩, h7⟩
    rw [lcGo, h1, bd_some, h4, bd_some]
theorem for_bag {t : Tg} {f : Env → Bg → Option (Out × Bg)} {Q : Bg → Prop} (P : Nat → Env → Prop) (K : Nat) : ∀ {xs : List D} {i : Nat} {env : Env} {B : Bg}, i + xs.length ≤ K → P i env → Q B →
    (∀ x ∈ xs, ∀ i env B, i < K → P i env → Q B → ∃ e1, bindT t x env = some e1 ∧ ∃ e2 B', f e1 B = some (.nx e2, B') ∧ P (i + 1) e2 ∧ Q B') → ∃ env' B', forGo t f xs env B = some (.nx env', B') ∧ P (i + xs.length) env' ∧ Q B'
  | [], i, env, B, _, hp, hB, _ => ⟨env, B, rfl, hp, hB⟩
  | x :: xs, i, env, B, hK, hp, hB, st => by
    rw [List.length_cons] at hK
    obtain ⟨e1, h1, e2, B1, h2, h3, h4⟩ := st x (by simp) i env B (by omega) hp hB
    obtain ⟨env', B2, h5, h6, h7⟩ := for_bag (xs := xs) P K (by omega) h3 h4 fun y hy => st y (by simp [hy])
    refine ⟨env', B2, ?_, ?_, h7⟩
    · rw [forGo, h1, ob_some, h2, bd_some]
      exact h5
    · rw [List.length_cons, show i + (xs.length + 1) = i + 1 + xs.length by omega]
      exact h6
/-- a value is drawn that is so, the bag stays good -/
def Gt (o : Option (D × Bg)) (R : D → Prop) : Prop := ∃ d B', o = some (d, B') ∧ R d ∧ BagOk B'
def Ng (o : Option (Out × Bg)) (P : Env → Prop) : Prop := ∃ e B', o = some (.nx e, B') ∧ P e ∧ BagOk B'
theorem Gt.of {d : D} {B : Bg} {R : D → Prop} (h : R d) (hB : BagOk B) : Gt (some (d, B)) R := ⟨d, B, rfl, h, hB⟩
theorem Ng.of {e : Env} {B : Bg} {P : Env → Prop} (h : P e) (hB : BagOk B) : Ng (some (.nx e, B)) P := ⟨e, B, rfl, h, hB⟩
theorem bag_then {t : Tg} {f : Env → Bg → Option (Out × Bg)} {xs : List D} {env : Env} {B : Bg} {k : Out → Bg → Option (D × Bg)} {R : D → Prop} (P : Nat → Env → Prop) (hp : P 0 env) (hB : BagOk B)
    (st : ∀ x ∈ xs, ∀ i env B, i < xs.length → P i env → BagOk B → ∃ e1, bindT t x env = some e1 ∧ Ng (f e1 B) (P (i + 1)))
    (q : ∀ env' B', P xs.length env' → BagOk B' → Gt (k (.nx env') B') R) : Gt (bd (forGo t f xs env B) k) R := by
  obtain ⟨env', B', h1, h2, h3⟩ := for_bag (Q := BagOk) P xs.length (i := 0) (by omega) hp hB st
  rw [h1, bd_some]
  rw [Nat.zero_add] at h2
  exact q env' B' h2 h3
section
variable {prim : PrimT}
theorem ev_take (h : PrL prim) {B : Bg} (hB : BagOk B) (k : Int) (hk : 0 < k ∧ k < 1073741824) : ∃ r B', (∀ n, run tab prim n ("_law_take" : Str) [.bag, .int k] B = some (.int r, B')) ∧ 0 ≤ r ∧ r < k ∧ BagOk B' := by
  obtain ⟨b1, b2, b3⟩ := hB
  have hs : smallM (B.1 / 4093) = true := smallM_of (by
    have h1 := Int.ediv_nonneg b1 (show (0 : Int) ≤ 4093 by decide)
    have h2 := Int.ediv_le_self (a := B.1) 4093 b1
    omega)
  obtain ⟨s1, s2⟩ := seed_ok B
  by_cases hd : B.2.1 > 0
  · refine ⟨B.2.1 % k, (seedN B, B.2.1 / k, B.2.2 + 1), fun n => ?_, Int.emod_nonneg _ (by omega), Int.emod_lt_of_pos _ hk.1, s1, s2, Int.ediv_nonneg b3 (by omega)⟩
    rw [run_pr h.take]
    show (if 0 < k ∧ k < 1073741824 ∧ smallM (B.1 / 4093) = true then _ else _) = _
    rw [if_pos ⟨hk.1, hk.2, hs⟩, if_pos hd]
  · refine ⟨seedN B / 512 % k, (seedN B, B.2.1, B.2.2 + 1), fun n => ?_, Int.emod_nonneg _ (by omega), Int.emod_lt_of_pos _ hk.1, s1, s2, b3⟩
    rw [run_pr h.take]
    show (if 0 < k ∧ k < 1073741824 ∧ smallM (B.1 / 4093) = true then _ else _) = _
    rw [if_pos ⟨hk.1, hk.2, hs⟩, if_neg hd]
theorem ev_of (h : PrL prim) {B : Bg} (hB : BagOk B) {xs : List D} (h1 : xs ≠ []) (h2 : xs.length ≤ 1000) : ∃ x B', (∀ n, run tab prim (n + 1) ("_law_of" : Str) [.bag, .lst xs] B = some (x, B')) ∧ x ∈ xs ∧ BagOk B' := by
  have hl : 0 < xs.length := List.length_pos_iff.mpr h1
  obtain ⟨r, B1, e, r1, r2, b⟩ := ev_take h hB xs.length (by omega)
  obtain ⟨i, rfl⟩ := Int.eq_ofNat_of_zero_le r1
  have hi : i < xs.length := by omega
  refine ⟨xs[i], B1, fun n => ?_, List.getElem_mem hi, b⟩
  rw [run_fn h.nc t__law_of, runB_eq _ _ _ _ rfl]
  simp [i__law_of, startE, e, atI_nat, hi]
theorem ints_of {ys : List D} (h : ∀ y ∈ ys, ∃ i, y = .int i) : ∃ is : List Int, ys = is.map D.int := by
  induction ys with
  | nil => exact ⟨[], rfl⟩
  | cons y ys ih =>
    obtain ⟨i, rfl⟩ := h y (by simp)
    obtain ⟨is, rfl⟩ := ih fun z hz => h z (by simp [hz])
    exact ⟨i :: is, rfl⟩
theorem ev__law_told (h : PrL prim) (n : Nat) {B : Bg} (hB : BagOk B) : Gt (run tab prim (n + 3) ("_law_told" : Str) [.bag] B) isTl := by
  rw [run_fn h.nc t__law_told, runB_eq _ _ _ _ rfl]
  obtain ⟨r, B1, e1, r1, r2, b1⟩ := ev_take h hB 5 (by omega)
  obtain ⟨m, rfl⟩ := Int.eq_ofNat_of_zero_le r1
  obtain ⟨M, hm, hM1, hM5⟩ : ∃ M : Nat, (1 : Int) + (m : Int) = (M : Int) ∧ 1 ≤ M ∧ M ≤ 5 := ⟨1 + m, by omega, by omega, by omega⟩
  obtain ⟨ys, B2, e2, l2, y2, b2⟩ := lcGo_bag (f := lcB (run tab prim (n + 2)) (.nm 7) .nop (.call ("_law_of" : Str) (.econs (.v 0) (.econs (.lst (.econs (.c (.int 0)) (.econs (.c (.int 1)) (.econs (.c (.int 6)) (.econs (.c (.int 10)) (.econs (.c (.int 12)) (.econs (.c (.int 60)) (.econs (.c (.int 999)) (.econs (.bin .pow (.c (.int 10)) (.c (.int 6))) .enil))))))))) .enil))) [.val .bag, .val (.int M), .un, .un, .un, .un, .un, .un]) (Q := BagOk) (R := fun y => ∃ i, y = .int i) (xs := (List.range M).map fun i : Nat => D.int i) b1 (by
    intro x hx B hB
    obtain ⟨i, _, rfl⟩ := List.mem_map.mp hx
    obtain ⟨y, B', e, hy, b⟩ := ev_of h hB (xs := [.int 0, .int 1, .int 6, .int 10, .int 12, .int 60, .int 999, .int 1000000]) (by simp) (by simp)
    refine ⟨y, B', by simp [lcB, p6, e], ?_, b⟩
    simp at hy
    rcases hy with rfl | rfl | rfl | rfl | rfl | rfl | rfl | rfl <;> exact ⟨_, rfl⟩)
  obtain ⟨cs, rfl⟩ := ints_of y2
  simp at l2
  obtain ⟨r3, B3, e3, r31, r32, b3⟩ := ev_take h b2 6 (by omega)
  obtain ⟨q, rfl⟩ := Int.eq_ofNat_of_zero_le r31
  obtain ⟨N, hq, hN1, hN6⟩ : ∃ N : Nat, (1 : Int) + (q : Int) = (N : Int) ∧ 1 ≤ N ∧ N ≤ 6 := ⟨1 + q, by omega, by omega, by omega⟩
  have g1 := rng1_nat M B1 (by omega)
  have g2 := rng1_nat N B3 (by omega)
  have l3 : cs.length ≤ 1000 := by omega
  simp [i__law_told, startE, e1, hm, g1, e2, l3, e3, hq, g2]
  rw [bd_bd]
  refine bag_then (fun i env => ∃ found x4 x5 x6, env = [.val .bag, .val (.int M), .val (tI cs), .own (found.map tI), x4, x5, x6, .un] ∧ found.length ≤ i ∧ (0 < i → 1 ≤ found.length) ∧ ∀ r ∈ found, ∃ a b l, r = [a, b, l]) ⟨[], _, _, _, rfl, by simp⟩ b3 ?_ ?_
  · rintro x hx i env B hi ⟨found, x4, x5, x6, rfl, f1, f2, f3⟩ hB
    simp at hi
    obtain ⟨z, _, rfl⟩ := List.mem_map.mp hx
    obtain ⟨j, B4, e4, j1, j2, b4⟩ := ev_take h hB M (by omega)
    obtain ⟨d, B5, e5, d1, d2, b5⟩ := ev_take h b4 ((M : Int) - j) (by omega)
    obtain ⟨y, B6, e6, hy, b6⟩ := ev_of h b5 (xs := [.int 0, .int 0, .int 1, .int 4, .int 9]) (by simp) (by simp)
    obtain ⟨l, rfl⟩ : ∃ l, y = .int l := by
      simp at hy
      rcases hy with rfl | rfl | rfl | rfl <;> exact ⟨_, rfl⟩
    obtain ⟨F, hF⟩ : ∃ F, F = found ++ [[j, j + 1 + d, l]] := ⟨_, rfl⟩
    have hR : Rds F := by
      rw [hF]
      refine ⟨by rw [List.length_append]; simp; omega, fun r hr => ?_⟩
      rcases List.mem_append.mp hr with hr | hr
      · exact f3 r hr
      · simp at hr
        exact ⟨_, _, _, hr⟩
    have ef := ev__law_full (n + 1) B6 h.nc (y := .lst (F.map tI)) rfl hR M (by omega)
    have oa : opB .add (.lst (found.map tI)) (.lst [.tup [.int j, .int (j + 1 + d), .int l]]) = some (.lst (F.map tI)) := by
      show (if _ then _ else _) = _
      rw [if_pos (by simp; omega), hF]
      simp
    have lf : found.length < 1000 := by omega
    refine ⟨_, rfl, ?_⟩
    cases hc : crowd M F with
    | true =>
      rw [hc] at ef
      simp [e4, e5, e6, oa, ef]
      refine Ng.of ⟨found, ⟨_, _, _, rfl⟩, by omega, ?_, f3⟩ b6
      cases found with
      | cons _ _ => simp
      | nil =>
        exfalso
        have hc2 : crowd M [[j, j + 1 + d, l]] = true := by
          rw [hF] at hc
          exact hc
        unfold crowd at hc2
        obtain ⟨t, _, ht⟩ := List.any_eq_true.mp hc2
        have hl := abd_len [[j, j + 1 + d, l]] t
        simp at ht hl
        omega
    | false =>
      rw [hc] at ef
      simp [e4, e5, e6, oa, ef, lf]
      have hm : F.map tI = found.map tI ++ [.tup [.int j, .int (j + 1 + d), .int l]] := by
        rw [hF]
        simp
      refine Ng.of ⟨F, ?_, ?_, ?_, hR.2⟩ b6
      · rw [hm]
        exact ⟨_, _, _, rfl⟩
      · rw [hF]
        simp
        omega
      · rw [hF]
        simp
  · rintro env B ⟨found, x4, x5, x6, rfl, f1, f2, f3⟩ hB
    simp at f1 f2
    simp
    exact Gt.of ⟨⟨cs, found⟩, rfl, by simp; omega, by simp; omega, f2 (by omega), by simp; omega, f3⟩ hB
end
end Cab.P
set_option Elab.async false
set_option linter.all false
set_option maxRecDepth 100000
set_option maxHeartbeats 4000000
/-! The plain part: what is bent. -/
namespace Cab.P
open PySem L2
def isTlB (d : D) : Prop := ∃ t : Tl, d = t.d ∧ t.c.length ≤ 100 ∧ t.r.length ≤ 100
theorem o_addL {xs ys : List D} (h : xs.length + ys.length ≤ 1000) : opB .add (.lst xs) (.lst ys) = some (.lst (xs ++ ys)) := if_pos h
theorem o_addT {xs ys : List D} (h : xs.length + ys.length ≤ 1000) : opB .add (.tup xs) (.tup ys) = some (.tup (xs ++ ys)) := if_pos h
theorem o_mulT {xs : List D} {k : Int} (h : 0 ≤ k ∧ k ≤ 1000 ∧ xs.length ≤ 1000 ∧ xs ≠ []) : opB .mul (.tup xs) (.int k) = some (.tup (List.replicate k.toNat xs).flatten) := if_pos h
theorem slT_to {xs : List D} {k : Nat} (h : k ≤ xs.length) : slD (.tup xs) .non (.int k) = some (.tup (xs.take k)) := by
  show some (D.tup (cutD xs none (some (k : Int)))) = _
  unfold cutD
  rw [HT.sIx_none, HT.sIx_nat]
  simp [Nat.min_eq_left h]
theorem slT_from {xs : List D} {k : Nat} (h : k ≤ xs.length) : slD (.tup xs) (.int k) .non = some (.tup (xs.drop k)) := by
  show some (D.tup (cutD xs (some (k : Int)) none)) = _
  unfold cutD
  rw [HT.sIx_none, HT.sIx_nat, Nat.min_eq_left h, List.take_of_length_le (by rw [List.length_drop]; exact Nat.le_refl _)]
theorem slT_last {xs : List D} : slD (.tup xs) .non (.int (-1)) = some (.tup (xs.take (xs.length - 1))) := by
  show some (D.tup (cutD xs none (some (-1)))) = _
  unfold cutD
  rw [HT.sIx_none]
  have e : HT.sIx xs.length xs.length (some (-1)) = xs.length - 1 := by
    show (if (-1 : Int) < 0 then ((-1 : Int) + (xs.length : Int)).toNat else min (-1 : Int).toNat xs.length) = _
    rw [if_pos (by decide)]
    omega
  rw [e]
  simp
section
variable {prim : PrimT}
theorem ev__law_bent_told (h : PrL prim) (n : Nat) {B : Bg} (hB : BagOk B) {t : Tl} (ht : TlG t) : Gt (run tab prim (n + 2) ("_law_bent_told" : Str) [.bag, t.d] B) isTlB := by
  rw [run_fn h.nc t__law_bent_told, runB_eq _ _ _ _ rfl]
  have t1 := ht.c1
  have t2 := ht.c2
  have t3 := ht.r1
  have t4 := ht.r2
  obtain ⟨k, B1, e1, k1, k2, b1⟩ := ev_take h hB t.r.length (by omega)
  obtain ⟨k, rfl⟩ := Int.eq_ofNat_of_zero_le k1
  have hk : k < t.r.length := by omega
  obtain ⟨a, b, l, er⟩ := ht.tr t.r[k] (List.getElem_mem hk)
  obtain ⟨w, B2, e2, w1, w2, b2⟩ := ev_take h b1 8 (by omega)
  have s1 := slT_to (xs := t.r.map tI) (k := k) (by simp; omega)
  have s2 := slT_from (xs := t.r.map tI) (k := k + 1) (by simp; omega)
  simp at s1 s2
  simp [i__law_bent_told, startE, e1, atI_nat, hk, er, o_addL, e2]
  by_cases hw : w < 4
  · obtain ⟨x, B3, e3, hx, b3⟩ := ev_of h b2 (xs := [.tup [.int a, .int b, .int 9], .tup [.int a, .int b, .int 10], .tup [.int a, .int a, .int l], .tup [.int a, .int t.c.length, .int l], .tup [.int a, .int (t.c.length + 1), .int l], .tup [.int 0, .int b, .int l], .tup [.int (-1), .int b, .int l],
      .tup [.int (t.c.length - 1), .int t.c.length, .int 0], .tup [.int a, .int b, .int (-1)], .tup [.int a, .int b]]) (by simp) (by simp)
    obtain ⟨r, rfl⟩ : ∃ r, x = tI r := by
      simp at hx
      rcases hx with rfl | rfl | rfl | rfl | rfl | rfl | rfl | rfl | rfl | rfl <;> first | exact ⟨[_, _, _], rfl⟩ | exact ⟨[_, _], rfl⟩
    have a1 : opB .add (.tup (List.take k (t.r.map tI))) (.tup [tI r]) = some (.tup (List.take k (t.r.map tI) ++ [tI r])) := o_addT (by simp; omega)
    have a2 : opB .add (.tup (List.take k (t.r.map tI) ++ [tI r])) (.tup (List.drop (k + 1) (t.r.map tI))) = some (.tup (List.take k (t.r.map tI) ++ [tI r] ++ List.drop (k + 1) (t.r.map tI))) := o_addT (by simp; omega)
    simp [-List.map_take, -List.map_drop, -List.append_assoc, hw, s1, s2, e3, a1, a2]
    exact Gt.of ⟨⟨t.c, t.r.take k ++ [r] ++ t.r.drop (k + 1)⟩, by simp, by simp; omega, by simp; omega⟩ b3
  · have hw' : w = 4 ∨ w = 5 ∨ w = 6 ∨ w = 7 := by omega
    rcases hw' with rfl | rfl | rfl | rfl
    · obtain ⟨x, B3, e3, hx, b3⟩ := ev_of h b2 (xs := [.int 0, .int 1000000, .int 1000001, .int (-1)]) (by simp) (by simp)
      obtain ⟨i, rfl⟩ : ∃ i, x = .int i := by
        simp at hx
        rcases hx with rfl | rfl | rfl | rfl <;> exact ⟨_, rfl⟩
      have s3 := slT_last (xs := t.c.map D.int)
      have a1 : opB .add (.tup (List.take ((t.c.map D.int).length - 1) (t.c.map D.int))) (.tup [.int i]) = some (.tup (List.take ((t.c.map D.int).length - 1) (t.c.map D.int) ++ [.int i])) := o_addT (by simp; omega)
      rw [List.length_map] at s3 a1
      simp [p6, e3, s3, a1, -List.map_take]
      exact Gt.of ⟨⟨t.c.take (t.c.length - 1) ++ [i], t.r⟩, by simp, by simp; omega, by simp; omega⟩ b3
    · obtain ⟨x, B3, e3, hx, b3⟩ := ev_of h b2 (xs := [.int 12, .int 13, .int 11]) (by simp) (by simp)
      obtain ⟨i, hi, rfl⟩ : ∃ i : Nat, i ≤ 13 ∧ x = .int i := by
        simp at hx
        rcases hx with rfl | rfl | rfl
        · exact ⟨12, by omega, rfl⟩
        · exact ⟨13, by omega, rfl⟩
        · exact ⟨11, by omega, rfl⟩
      have m1 := o_mulT (xs := [.int 1]) (k := (i : Int)) ⟨by omega, by omega, by simp, by simp⟩
      simp [e3, m1]
      exact Gt.of ⟨⟨List.replicate i 1, t.r⟩, by simp, by simp; omega, by simp; omega⟩ b3
    · have hne : t.r.map tI ≠ [] := by
        intro e
        have := congrArg List.length e
        simp at this
        rw [this] at t3
        simp at t3
      have m1 := o_mulT (xs := t.r.map tI) (k := 2) ⟨by omega, by omega, by simp; omega, hne⟩
      have m2 := o_mulT (xs := [.tup [.int 0, .int 1, .int 0]]) (k := 4) ⟨by omega, by omega, by simp, by simp⟩
      have s3 := slT_to (xs := t.r.map tI) (k := 1) (by simp; omega)
      have m3 := o_mulT (xs := (t.r.map tI).take 1) (k := 5) ⟨by omega, by omega, by simp; omega, by simpa using hne⟩
      simp at m1 m2 m3 s3
      obtain ⟨Y, hY⟩ : ∃ Y, Y = t.r.take 1 := ⟨_, rfl⟩
      have hYl : Y.length ≤ 1 := by
        rw [hY, List.length_take]
        omega
      have e4 : List.take 1 (t.r.map tI) = Y.map tI := by
        rw [hY, List.map_take]
      rw [e4] at m3 s3
      have a1 : opB .add (.tup (t.r.map tI)) (.tup [.tup [.int 0, .int 1, .int 0], .tup [.int 0, .int 1, .int 0], .tup [.int 0, .int 1, .int 0], .tup [.int 0, .int 1, .int 0]]) =
          some (.tup (t.r.map tI ++ [.tup [.int 0, .int 1, .int 0], .tup [.int 0, .int 1, .int 0], .tup [.int 0, .int 1, .int 0], .tup [.int 0, .int 1, .int 0]])) := o_addT (by simp; omega)
      obtain ⟨x, B3, e3, hx, b3⟩ := ev_of h b2 (xs := [.tup (t.r.map tI ++ t.r.map tI), .tup (t.r.map tI ++ [.tup [.int 0, .int 1, .int 0], .tup [.int 0, .int 1, .int 0], .tup [.int 0, .int 1, .int 0], .tup [.int 0, .int 1, .int 0]]),
        .tup (Y.map tI ++ (Y.map tI ++ (Y.map tI ++ (Y.map tI ++ Y.map tI)))), .tup []]) (by simp) (by simp)
      obtain ⟨rs, hl, rfl⟩ : ∃ rs : List (List Int), rs.length ≤ 100 ∧ x = rsD rs := by
        simp only [List.mem_cons, List.not_mem_nil, or_false] at hx
        rcases hx with rfl | rfl | rfl | rfl
        · exact ⟨t.r ++ t.r, by simp; omega, by simp⟩
        · exact ⟨t.r ++ [[0, 1, 0], [0, 1, 0], [0, 1, 0], [0, 1, 0]], by simp; omega, by simp⟩
        · exact ⟨Y ++ (Y ++ (Y ++ (Y ++ Y))), by simp; omega, by simp⟩
        · exact ⟨[], by simp, rfl⟩
      simp [m1, m2, m3, s3, a1, e3]
      exact Gt.of ⟨⟨t.c, rs⟩, rfl, by simp; omega, hl⟩ b3
    · have m1 : opB .mul (.int 3) (.int t.c.length) = some (.int (3 * t.c.length)) := o_mul (.inl (by decide +kernel))
      obtain ⟨x, B3, e3, hx, b3⟩ := ev_of h b2 (xs := [.int 3, .int (3 * t.c.length), .int (3 * t.c.length + 1)]) (by simp) (by simp)
      obtain ⟨i, hi, rfl⟩ : ∃ i : Nat, i ≤ 16 ∧ x = .int i := by
        simp at hx
        rcases hx with rfl | rfl | rfl
        · exact ⟨3, by omega, rfl⟩
        · exact ⟨3 * t.c.length, by omega, by simp⟩
        · exact ⟨3 * t.c.length + 1, by omega, by simp⟩
      have d1 : ∀ z : Int, opB .fdiv (.int z) (.int 3) = some (.int (z / 3)) := fun z => o_div (by omega)
      have g := rng1_nat i B3 (by omega)
      simp [m1, e3, g]
      rw [lcGo_map (g := fun z : Nat => tI [(z : Int) / 3, (z : Int) / 3 + 1, 0]) (fun z _ => by simp [lcB, d1])]
      have hi2 : i ≤ 1000 := by omega
      simp [hi2]
      exact Gt.of ⟨⟨t.c, (List.range i).map fun z : Nat => [(z : Int) / 3, (z : Int) / 3 + 1, 0]⟩, by simp, by simp; omega, by simp; omega⟩ b3
end
end Cab.P
set_option Elab.async false
set_option linter.all false
set_option maxRecDepth 100000
set_option maxHeartbeats 4000000
/-! The plain part: bent receipts, customs; the claim that is asked. -/
namespace Cab.P
open PySem L2
structure SlG (ss : List Slp) : Prop where
  l : ss.length ≤ 20
  a : ∀ s ∈ ss, s.a.length ≤ 100
def isSl (d : D) : Prop := ∃ ss : List Slp, d = .tup (ss.map Slp.d) ∧ SlG ss
def told0 : Tl := ⟨[10], [[0, 1, 0]]⟩
theorem told0G : TlG told0 := ⟨by decide, by decide, by decide, by decide, by
  intro r hr
  simp [told0] at hr
  exact ⟨0, 1, 0, hr⟩⟩
section
variable {prim : PrimT}
theorem ev__law_bent_slips (h : PrL prim) (n : Nat) {B : Bg} (hB : BagOk B) {ss : List Slp} (hs : SlG ss) : Gt (run tab prim (n + 3) ("_law_bent_slips" : Str) [.bag, .tup (ss.map Slp.d)] B) isSl := by
  rw [run_fn h.nc t__law_bent_slips, runB_eq _ _ _ _ rfl]
  have hl := hs.l
  obtain ⟨w, B1, e1, w1, w2, b1⟩ := ev_take h hB 4 (by omega)
  have t0 : told0.d = .tup [.tup [.int 10], .tup [.tup [.int 0, .int 1, .int 0]]] := rfl
  have s1 : slD (.tup (ss.map Slp.d)) .non (.int 2) = some (.tup ((ss.take 2).map Slp.d)) := by
    show some (D.tup (cutD _ none (some ((2 : Nat) : Int)))) = _
    unfold cutD
    rw [HT.sIx_none, HT.sIx_nat, List.map_take, Nat.sub_zero, List.drop_zero]
    congr 2
    by_cases q : 2 ≤ (ss.map Slp.d).length
    · rw [Nat.min_eq_left q]
    · rw [Nat.min_eq_right (by omega), List.take_of_length_le (Nat.le_refl _), List.take_of_length_le (by omega)]
  obtain ⟨T2, hT2⟩ : ∃ T2, T2 = ss.take 2 := ⟨_, rfl⟩
  have hTl : T2.length ≤ 2 := by
    rw [hT2, List.length_take]
    omega
  have hTa : ∀ s ∈ T2, s.a.length ≤ 100 := fun s hm => hs.a s (by rw [hT2] at hm; exact List.mem_of_mem_take hm)
  rw [← hT2] at s1
  have fin : ∀ (s : Slp), s.a.length ≤ 100 → isSl (.tup (T2.map Slp.d ++ [s.d])) := fun s hs =>
    ⟨T2 ++ [s], by simp, by simp; omega, fun q hq => by
      rcases List.mem_append.mp hq with hq | hq
      · exact hTa q hq
      · simp at hq
        rw [hq]
        exact hs⟩
  have add : ∀ x : D, opB .add (.tup (T2.map Slp.d)) (.tup [x]) = some (.tup (T2.map Slp.d ++ [x])) := fun x => o_addT (by simp; omega)
  have hw : w = 0 ∨ w = 1 ∨ w = 2 ∨ w = 3 := by omega
  by_cases h0 : w = 0
  · subst h0
    obtain ⟨x, B2, e2, hx, b2⟩ := ev_of h b1 (xs := [.int 6, .int 7]) (by simp) (by simp)
    obtain ⟨i, hi, rfl⟩ : ∃ i : Nat, i ≤ 7 ∧ x = .int i := by
      simp at hx
      rcases hx with rfl | rfl
      · exact ⟨6, by omega, rfl⟩
      · exact ⟨7, by omega, rfl⟩
    have m1 := fun z : D => o_mulT (xs := [z]) (k := (i : Int)) ⟨by omega, by omega, by simp, by simp⟩
    simp at m1
    simp [i__law_bent_slips, startE, e1, e2, m1]
    refine Gt.of ⟨List.replicate i ⟨told0, [some 10], 0⟩, by simp; exact .inr ⟨⟨rfl, rfl⟩, rfl⟩, by simp; omega, fun s hm => ?_⟩ b2
    rw [List.eq_of_mem_replicate hm]
    simp
  · obtain ⟨x, B2, e2, hx, b2⟩ := ev_of h b1 (xs := [.int 100000000, .int 100000001, .int 0, .int (-1), .int 10]) (by simp) (by simp)
    obtain ⟨i, rfl⟩ : ∃ i, x = .int i := by
      simp at hx
      rcases hx with rfl | rfl | rfl | rfl | rfl <;> exact ⟨_, rfl⟩
    obtain ⟨y, B3, e3, hy, b3⟩ := ev_of h b2 (xs := [.int 1000, .int 1001, .int 0, .int (-1)]) (by simp) (by simp)
    obtain ⟨j, rfl⟩ : ∃ j, y = .int j := by
      simp at hy
      rcases hy with rfl | rfl | rfl | rfl <;> exact ⟨_, rfl⟩
    rcases hw with hw | rfl | rfl | rfl
    · exact absurd hw h0
    · obtain ⟨z, B4, e4, hz, b4⟩ := ev_of h b3 (xs := [.tup [.int 10], .tup [.int 10, .int 10], .tup [], .tup [.non]]) (by simp) (by simp)
      obtain ⟨a, ha, rfl⟩ : ∃ a : List (Option Int), a.length ≤ 100 ∧ z = .tup (a.map oI) := by
        simp at hz
        rcases hz with rfl | rfl | rfl | rfl
        · exact ⟨[some 10], by simp, rfl⟩
        · exact ⟨[some 10, some 10], by simp, rfl⟩
        · exact ⟨[], by simp, rfl⟩
        · exact ⟨[none], by simp, rfl⟩
      simp [i__law_bent_slips, startE, e1, p8, e2, e3, e4, s1, add]
      exact Gt.of (fin ⟨told0, a, 0⟩ ha) b4
    · obtain ⟨d, B4, e4, ⟨t, rfl, _, _⟩, b4⟩ := ev__law_bent_told h n b3 told0G
      rw [t0] at e4
      simp [i__law_bent_slips, startE, e1, p8, e2, e3, e4, s1, add]
      exact Gt.of (fin ⟨t, [none], 0⟩ (by simp)) b4
    · simp [i__law_bent_slips, startE, e1, p8, e2, e3, s1, add]
      exact Gt.of (fin ⟨told0, [some i], j⟩ (by simp)) b3
structure CuG (cu : Cu) : Prop where
  r : ∀ rs, cu = .r rs → rs.length ≤ 100
  w : ∀ s, cu = .w s → strG s
def isCu (d : D) : Prop := ∃ cu : Cu, d = cu.d ∧ CuG cu
theorem cu_r {rs : List (List Int)} (h : rs.length ≤ 100) : isCu (rsD rs) := ⟨.r rs, rfl, ⟨fun q e => (by cases e; exact h), fun s e => (by cases e)⟩⟩
theorem cu_w {s : Str} (h : strG s) : isCu (.str s) := ⟨.w s, rfl, ⟨fun q e => (by cases e), fun q e => (by cases e; exact h)⟩⟩
theorem ev__law_bent_custom (h : PrL prim) (n : Nat) {B : Bg} (hB : BagOk B) : Gt (run tab prim (n + 2) ("_law_bent_custom" : Str) [.bag] B) isCu := by
  rw [run_fn h.nc t__law_bent_custom, runB_eq _ _ _ _ rfl]
  obtain ⟨x, B1, e1, hx, b1⟩ := ev_of h hB (xs := [tI [2, 2, 2, 1, 1, 1], tI [4, 4, 4, 1, 100, 100], tI [1, 1, 1, 1, 1, 1], tI [4, 2, 3, 1, 3, 2]]) (by simp) (by simp)
  obtain ⟨a, b, c, d, e, f, rfl⟩ : ∃ a b c d e f, x = tI [a, b, c, d, e, f] := by
    simp only [List.mem_cons, List.not_mem_nil, or_false] at hx
    rcases hx with rfl | rfl | rfl | rfl <;> exact ⟨_, _, _, _, _, _, rfl⟩
  obtain ⟨w, B2, e2, w1, w2, b2⟩ := ev_take h b1 8 (by omega)
  obtain ⟨y, B3, e3, hy, b3⟩ := ev_of h b2 (xs := [.int (-1), .int 1, .int 101, .int 0]) (by simp) (by simp)
  obtain ⟨j, rfl⟩ : ∃ j, y = .int j := by
    simp at hy
    rcases hy with rfl | rfl | rfl | rfl <;> exact ⟨_, rfl⟩
  simp only [tI, List.map] at e1
  have hw : w = 0 ∨ w = 1 ∨ w = 2 ∨ w = 3 ∨ w = 4 ∨ w = 5 ∨ w = 6 ∨ w = 7 := by omega
  rcases hw with rfl | rfl | rfl | rfl | rfl | rfl | rfl | rfl
  · have s1 : slD (.tup [.int a, .int b, .int c, .int d, .int e, .int f]) .non (.int 0) = some (.tup []) := rfl
    have s2 : slD (.tup [.int a, .int b, .int c, .int d, .int e, .int f]) (.int 1) .non = some (.tup [.int b, .int c, .int d, .int e, .int f]) := rfl
    simp [i__law_bent_custom, startE, e1, e2, e3, s1, s2, o_addT]
    exact Gt.of (cu_r (rs := [[a + j, b, c, d, e, f]]) (by simp)) b3
  · have s1 : slD (.tup [.int a, .int b, .int c, .int d, .int e, .int f]) .non (.int 1) = some (.tup [.int a]) := rfl
    have s2 : slD (.tup [.int a, .int b, .int c, .int d, .int e, .int f]) (.int 2) .non = some (.tup [.int c, .int d, .int e, .int f]) := rfl
    simp [i__law_bent_custom, startE, e1, e2, e3, s1, s2, o_addT]
    exact Gt.of (cu_r (rs := [[a, b + j, c, d, e, f]]) (by simp)) b3
  · have s1 : slD (.tup [.int a, .int b, .int c, .int d, .int e, .int f]) .non (.int 2) = some (.tup [.int a, .int b]) := rfl
    have s2 : slD (.tup [.int a, .int b, .int c, .int d, .int e, .int f]) (.int 3) .non = some (.tup [.int d, .int e, .int f]) := rfl
    simp [i__law_bent_custom, startE, e1, e2, e3, s1, s2, o_addT]
    exact Gt.of (cu_r (rs := [[a, b, c + j, d, e, f]]) (by simp)) b3
  · have s1 : slD (.tup [.int a, .int b, .int c, .int d, .int e, .int f]) .non (.int 3) = some (.tup [.int a, .int b, .int c]) := rfl
    have s2 : slD (.tup [.int a, .int b, .int c, .int d, .int e, .int f]) (.int 4) .non = some (.tup [.int e, .int f]) := rfl
    simp [i__law_bent_custom, startE, e1, e2, e3, s1, s2, o_addT]
    exact Gt.of (cu_r (rs := [[a, b, c, d + j, e, f]]) (by simp)) b3
  · have s1 : slD (.tup [.int a, .int b, .int c, .int d, .int e, .int f]) .non (.int 4) = some (.tup [.int a, .int b, .int c, .int d]) := rfl
    have s2 : slD (.tup [.int a, .int b, .int c, .int d, .int e, .int f]) (.int 5) .non = some (.tup [.int f]) := rfl
    simp [i__law_bent_custom, startE, e1, e2, e3, s1, s2, o_addT]
    exact Gt.of (cu_r (rs := [[a, b, c, d, e + j, f]]) (by simp)) b3
  · have s1 : slD (.tup [.int a, .int b, .int c, .int d, .int e, .int f]) .non (.int 5) = some (.tup [.int a, .int b, .int c, .int d, .int e]) := rfl
    have s2 : slD (.tup [.int a, .int b, .int c, .int d, .int e, .int f]) (.int 6) .non = some (.tup []) := rfl
    simp [i__law_bent_custom, startE, e1, e2, e3, s1, s2, o_addT]
    exact Gt.of (cu_r (rs := [[a, b, c, d, e, f + j]]) (by simp)) b3
  · have s1 : slD (.tup [.int a, .int b, .int c, .int d, .int e, .int f]) .non (.int 5) = some (.tup [.int a, .int b, .int c, .int d, .int e]) := rfl
    obtain ⟨z, B4, e4, hz, b4⟩ := ev_of h b3 (xs := [.str ("fallin" : Str), .str ("lasting " : Str), .str ("halved" : Str), .tup [.tup [.int a, .int b, .int c, .int d, .int e]], .tup [.tup [.int a, .int b, .int c, .int d, .int e, .int f, .int 1]]]) (by simp) (by simp)
    simp [i__law_bent_custom, startE, e1, e2, e3, s1, o_addT, e4]
    refine Gt.of ?_ b4
    simp only [List.mem_cons, List.not_mem_nil, or_false] at hz
    rcases hz with rfl | rfl | rfl | rfl | rfl
    · exact cu_w (by unfold strG; decide +kernel)
    · exact cu_w (by unfold strG; decide +kernel)
    · exact cu_w (by unfold strG; decide +kernel)
    · exact cu_r (rs := [[a, b, c, d, e]]) (by simp)
    · exact cu_r (rs := [[a, b, c, d, e, f, 1]]) (by simp)
  · obtain ⟨z, B4, e4, hz, b4⟩ := ev_of h b3 (xs := [.int 12, .int 13]) (by simp) (by simp)
    obtain ⟨i, hi, rfl⟩ : ∃ i : Nat, i ≤ 13 ∧ z = .int i := by
      simp at hz
      rcases hz with rfl | rfl
      · exact ⟨12, by omega, rfl⟩
      · exact ⟨13, by omega, rfl⟩
    have m1 := fun z : D => o_mulT (xs := [z]) (k := (i : Int)) ⟨by omega, by omega, by simp, by simp⟩
    simp at m1
    simp [i__law_bent_custom, startE, e1, e2, e3, m1, e4]
    have e : D.tup (List.replicate i (.tup [.int a, .int b, .int c, .int d, .int e, .int f])) = rsD (List.replicate i [a, b, c, d, e, f]) := by simp
    rw [e]
    exact Gt.of (cu_r (by simp; omega)) b4
end
end Cab.P
set_option Elab.async false
set_option linter.all false
set_option maxRecDepth 100000
set_option maxHeartbeats 4000000
/-! The plain part: the claim that is asked; the turns. -/
namespace Cab.P
open PySem L2
def isCl (d : D) : Prop := ∃ c : Cl, d = c.d ∧ ClB2 c
def kindOk (k : Str) : Prop := k = ("fits" : Str) ∨ k = ("can pay" : Str) ∨ k = ("can be more" : Str) ∨ k = ("none fits" : Str) ∨ k = ("at most" : Str) ∨ k = ("at least" : Str) ∨ k = ("never more" : Str)
theorem kind_g {k : Str} (h : kindOk k) : strG k := by
  unfold strG
  rcases h with rfl | rfl | rfl | rfl | rfl | rfl | rfl <;> decide +kernel
theorem cl_of {w : Str} {cu : Cu} {o : Str} {ss : List Slp} {r : Rs} (hw : kindOk w) (hwr : wrdOk w r) (hc : CuG cu) (ho : strG o) (hs : SlG ss) (he : ∀ t k a b, r = .e t k a b → (a, b) ∈ endsL) : isCl (Cl.d ⟨w, cu, o, ss, r⟩) :=
  ⟨_, rfl, ⟨⟨hwr, fun rs e => Nat.le_trans (hc.r rs e) (by omega), ⟨Nat.le_trans hs.l (by omega), fun s hm => Nat.le_trans (hs.a s hm) (by omega)⟩, he⟩, kind_g hw, ho, hc.w⟩⟩
section
variable {prim : PrimT}
theorem ev__law_asked (h : PrL prim) (n : Nat) {B : Bg} (hB : BagOk B) {k : Str} (hk : kindOk k) {cu : Cu} (hc : CuG cu) {o : Str} (ho : strG o) {ss : List Slp} (hs : SlG ss) {t : Tl} (ht : t.r.length ≤ 100) :
    Gt (run tab prim (n + 2) ("_law_asked" : Str) [.bag, .str k, cu.d, .str o, .tup (ss.map Slp.d), t.d] B) isCl := by
  rw [run_fn h.nc t__law_asked, runB_eq _ _ _ _ rfl]
  obtain ⟨x, B1, e1, hx, b1⟩ := ev_of h hB (xs := [.int 0, .int (t.r.length - 1), .int t.r.length, .int (-1)]) (by simp) (by simp)
  obtain ⟨q, rfl⟩ : ∃ q, x = .int q := by
    simp at hx
    rcases hx with rfl | rfl | rfl | rfl <;> exact ⟨_, rfl⟩
  obtain ⟨m, hm⟩ : ∃ m : Int, m = if (t.r.length : Int) > 1 then (t.r.length : Int) else 1 := ⟨_, rfl⟩
  have em : biF .max2 [.int 1, .int t.r.length] = some (.int m) := by rw [hm]; rfl
  have hm2 : 0 < m ∧ m < 1073741824 := by
    rw [hm]
    split <;> omega
  obtain ⟨j, B2, e2, _, _, b2⟩ := ev_take h b1 m hm2
  obtain ⟨z, B3, e3, hz, b3⟩ := ev_of h b2 (xs := [.tup [.int 0, .int 1], .tup [.int 100000000, .int 1], .tup [.int 2, .int 4], .tup [.int 1, .int 0], .tup [.int (-7), .int 2], .tup [.int 3, .int (-1)]]) (by simp) (by simp)
  obtain ⟨a, b, hab, rfl⟩ : ∃ a b, (a, b) ∈ endsL ∧ z = .tup [.int a, .int b] := by
    simp only [List.mem_cons, List.not_mem_nil, or_false] at hz
    rcases hz with rfl | rfl | rfl | rfl | rfl | rfl <;> exact ⟨_, _, by simp [endsL], rfl⟩
  have w1 : inDt (.str k) (.lst [.str ("fits" : Str), .str ("none fits" : Str)]) = some ([("fits" : Str), "none fits"].any (· == k)) := inDt_strs k [("fits" : Str), "none fits"]
  have w2 : inDt (.str k) (.lst [.str ("never more" : Str), .str ("can be more" : Str)]) = some ([("never more" : Str), "can be more"].any (· == k)) := inDt_strs k [("never more" : Str), "can be more"]
  simp [i__law_asked, startE, e1, em, e2, p8, e3, w1, w2]
  have hk' := hk
  rcases hk' with rfl | rfl | rfl | rfl | rfl | rfl | rfl <;> simp [ofS_inj]
  · exact Gt.of (cl_of (r := .z) hk (.inl rfl) hc ho hs fun _ _ _ _ e => by cases e) b3
  · exact Gt.of (cl_of (r := .e t q a b) hk (.inl rfl) hc ho hs fun _ _ _ _ e => by cases e; exact hab) b3
  · exact Gt.of (cl_of (r := .m t q t j) hk (.inl rfl) hc ho hs fun _ _ _ _ e => by cases e) b3
  · exact Gt.of (cl_of (r := .z) hk (.inr rfl) hc ho hs fun _ _ _ _ e => by cases e) b3
  · exact Gt.of (cl_of (r := .e t q a b) hk (.inr (.inl rfl)) hc ho hs fun _ _ _ _ e => by cases e; exact hab) b3
  · exact Gt.of (cl_of (r := .e t q a b) hk (.inr (.inr rfl)) hc ho hs fun _ _ _ _ e => by cases e; exact hab) b3
  · exact Gt.of (cl_of (r := .m t q t j) hk (.inr rfl) hc ho hs fun _ _ _ _ e => by cases e) b3
structure PrF (prim : PrimT) : Prop extends PrL2 prim where
  sd : ∀ n B (c : Cl) (p : Pp), ClB c → (∀ k, p = .num k → k ≤ 900) → run tab prim n ("_law_said" : Str) [c.d, p.d, .bl (ans c p)] B = some (.bl true, B)
theorem ng_seq {k : Call} {a b : IS} {env e1 : Env} {B B1 : Bg} {P : Env → Prop} (h : evS k a env B = some (.nx e1, B1)) (h2 : Ng (evS k b e1 B1) P) : Ng (evS k (.seq a b) env B) P := by
  rw [s_seq, h, bd_some, thenD_nx]
  exact h2
/-- what a turn asks at its end -/
def tailI : IS := (.seq (.asg (.nm 8) (.call ("_law_of" : Str) (.econs (.v 0) (.econs (.lst (.econs (.c (.str ("fits" : Str))) (.econs (.c (.str ("can pay" : Str))) (.econs (.c (.str ("can be more" : Str))) (.econs (.c (.str ("none fits" : Str))) (.econs (.c (.str ("at most" : Str))) (.econs (.c (.str ("at least" : Str))) (.econs (.c (.str ("never more" : Str))) .enil)))))))) .enil))))
  (.seq (.asg (.nm 9) (.call ("_law_asked" : Str) (.econs (.v 0) (.econs (.v 8) (.econs (.v 4) (.econs (.v 7) (.econs (.v 5) (.econs (.v 3) .enil))))))))
  (.for_ (.seq (.lst (.econs (.v 1) (.econs (.tup (.econs (.c (.int 1)) (.econs (.bin .mul (.tup (.econs (.c (.int 0)) .enil)) (.call ("_law_take" : Str) (.econs (.v 0) (.econs (.c (.int 13)) .enil)))) .enil))) (.econs (.tup (.econs (.c (.int 1)) (.econs (.tup .enil) .enil))) .enil))))) (.nm 10) (.ife (.nt (.call ("_law_said" : Str) (.econs (.v 9) (.econs (.v 10) (.econs (.call ("_law_judge" : Str) (.econs (.v 9) (.econs (.v 10) .enil))) .enil))))) (.ret (.c (.bl false))) .skip))))
def PR (env : Env) : Prop := ∃ x2 x3 x4 x5 x6 x7 x8 x9 x10 x11, env = [.val .bag, .val evenD, x2, x3, x4, x5, x6, x7, x8, x9, x10, x11]
theorem tail_ok (h : PrF prim) (n : Nat) {B : Bg} (hB : BagOk B) {t : Tl} (ht : t.r.length ≤ 100) {cu : Cu} (hc : CuG cu) {ss : List Slp} (hs : SlG ss) {o : Str} (ho : strG o) (x2 x6 x8 x9 x10 x11 : Sl) :
    Ng (evS (run tab prim (n + 7)) tailI [.val .bag, .val evenD, x2, .val t.d, .val cu.d, .val (.tup (ss.map Slp.d)), x6, .val (.str o), x8, x9, x10, x11] B) PR := by
  obtain ⟨x, B1, e1, hx, b1⟩ := ev_of h.toPrL hB (xs := [.str ("fits" : Str), .str ("can pay" : Str), .str ("can be more" : Str), .str ("none fits" : Str), .str ("at most" : Str), .str ("at least" : Str), .str ("never more" : Str)]) (by simp) (by simp)
  obtain ⟨k, hk, rfl⟩ : ∃ k, kindOk k ∧ x = .str k := by
    simp only [List.mem_cons, List.not_mem_nil, or_false] at hx
    rcases hx with rfl | rfl | rfl | rfl | rfl | rfl | rfl <;> exact ⟨_, by simp [kindOk], rfl⟩
  obtain ⟨d, B2, e2, ⟨c, rfl, hcl⟩, b2⟩ := ev__law_asked h.toPrL (n + 5) b1 hk hc ho hs ht
  obtain ⟨r, B3, e3, r1, r2, b3⟩ := ev_take h.toPrL b2 13 (by omega)
  obtain ⟨m, rfl⟩ := Int.eq_ofNat_of_zero_le r1
  have m1 := o_mulT (xs := [.int 0]) (k := (m : Int)) ⟨by omega, by omega, by simp, by simp⟩
  have hz : (List.replicate (m : Int).toNat [D.int 0]).flatten = List.replicate m (.int 0) := by simp
  rw [hz] at m1
  have p1 : Pp.d .even = evenD := rfl
  have p2 : Pp.d (.num m) = .tup [.int 1, .tup (List.replicate m (.int 0))] := by simp [Pp.d]
  have p3 : Pp.d (.num 0) = .tup [.int 1, .tup []] := rfl
  have j1 := ev__law_judge (n + 1) B3 h.toPrL2 hcl .even (fun k e => by cases e)
  have j2 := ev__law_judge (n + 1) B3 h.toPrL2 hcl (.num m) (fun k e => by cases e; omega)
  have j3 := ev__law_judge (n + 1) B3 h.toPrL2 hcl (.num 0) (fun k e => by cases e; omega)
  have s1 := h.sd (n + 7) B3 c .even hcl.toClB (fun k e => by cases e)
  have s2 := h.sd (n + 7) B3 c (.num m) hcl.toClB (fun k e => by cases e; omega)
  have s3 := h.sd (n + 7) B3 c (.num 0) hcl.toClB (fun k e => by cases e; omega)
  rw [p1] at j1 s1
  rw [p2] at j2 s2
  rw [p3] at j3 s3
  simp [tailI, e1, e2, e3, m1, forGo_cons, j1, j2, j3, s1, s2, s3]
  exact Ng.of ⟨_, _, _, _, _, _, _, _, _, _, rfl⟩ b3
theorem ev__law_right (h : PrF prim) (n : Nat) {B : Bg} (hB : BagOk B) : Gt (run tab prim (n + 8) ("_law_right" : Str) [.bag] B) (fun d => d = .bl true) := by
  rw [run_fn h.nc t__law_right, runB_eq _ _ _ _ rfl]
  have ee : evE (run tab prim (n + 7)) (.bi .tuple (.econs (.lc (.rng2 (.c (.int 1)) (.c (.int 5))) (.nm 11) .nop (.bin .mul (.tup (.econs (.tup (.econs (.c (.int 1)) (.econs (.v 11) .enil))) .enil)) (.v 11)) [11]) .enil)) [.val .bag, .un, .un, .un, .un, .un, .un, .un, .un, .un, .un, .un] B = some (evenD, B) := by kernel_rfl
  have st : startE ⟨1, 12, i__law_right⟩ [.bag] = [.val .bag, .un, .un, .un, .un, .un, .un, .un, .un, .un, .un, .un] := rfl
  have g : rng1D (D.int 8) B = some ((List.range 8).map fun i : Nat => D.int i, B) := rng1_nat 8 B (by omega)
  rw [st]
  unfold i__law_right
  rw [s_seq, s_asg, ee, bd_some, bindT_nm, ob_some, bd_some, thenD_nx, s_seq, s_for, v_rng1, v_c, bd_some, g, bd_some, bd_bd]
  refine bag_then (fun _ => PR) ⟨_, _, _, _, _, _, _, _, _, _, rfl⟩ hB ?_ ?_
  · rintro x hx i env B hi ⟨x2, x3, x4, x5, x6, x7, x8, x9, x10, x11, rfl⟩ hB
    refine ⟨_, rfl, ?_⟩
    obtain ⟨d, B1, e1, ⟨t, rfl, ht⟩, b1⟩ := ev__law_told h.toPrL (n + 4) hB
    obtain ⟨cd, B2, e2, hcd, b2⟩ := ev_of h.toPrL b1 (xs := [.str ("falling" : Str), .str ("lasting" : Str), .tup []]) (by simp) (by simp)
    obtain ⟨y, B3, e3, hy, b3⟩ := ev_of h.toPrL b2 (xs := [.tup [], .tup [], .tup [.int 1]]) (by simp) (by simp)
    obtain ⟨w, B4, e4, w1, w2, b4⟩ := ev_take h.toPrL b3 4 (by omega)
    obtain ⟨z, B5, e5, hz, b5⟩ := ev_of h.toPrL b4 (xs := [.str ("number" : Str), .str ("sat" : Str), .str ("bags" : Str), .str ("bags" : Str), .str ("Sat" : Str)]) (by simp) (by simp)
    obtain ⟨o, ho, rfl⟩ : ∃ o, strG o ∧ z = .str o := by
      simp only [List.mem_cons, List.not_mem_nil, or_false] at hz
      rcases hz with rfl | rfl | rfl | rfl | rfl <;> exact ⟨_, by unfold strG; decide +kernel, rfl⟩
    obtain ⟨cu, rfl, hc⟩ : isCu cd := by
      simp only [List.mem_cons, List.not_mem_nil, or_false] at hcd
      rcases hcd with rfl | rfl | rfl
      · exact cu_w (by unfold strG; decide +kernel)
      · exact cu_w (by unfold strG; decide +kernel)
      · exact cu_r (rs := []) (by simp)
    refine ng_seq (e1 := [.val .bag, .val evenD, .val x, .val t.d, .val cu.d, .val y, x6, x7, x8, x9, x10, x11]) (B1 := B3) (by simp [e1, e2, e3]) ?_
    refine ng_seq (e1 := [.val .bag, .val evenD, .val x, .val t.d, .val cu.d, .val y, .val (.int w), .val (.str o), x8, x9, x10, x11]) (B1 := B5) (by simp [e4, e5]) ?_
    obtain ⟨ss, hs, hss⟩ : ∃ ss, SlG ss ∧ evE (run tab prim (n + 7)) (.ite (.cmp .eq (.v 5) (.tup .enil)) (.v 5) (.tup (.econs (.tup (.econs (.v 3) (.econs (.bin .mul (.tup (.econs (.c .non) .enil)) (.bi .len (.econs (.ix (.v 3) (.c (.int 1))) .enil))) (.econs (.c (.int 0)) .enil)))) .enil)))
        [.val .bag, .val evenD, .val x, .val t.d, .val cu.d, .val y, .val (.int w), .val (.str o), x8, x9, x10, x11] B5 = some (.tup (ss.map Slp.d), B5) := by
      have q0 : opC .eq (.tup []) (.tup []) = some true := by rfl
      have q1 : opC .eq (.tup [.int 1]) (.tup []) = some false := by rfl
      have rl := ht.r2
      have m1 := o_mulT (xs := [.non]) (k := (t.r.length : Int)) ⟨by omega, by omega, by simp, by simp⟩
      have hzz : (List.replicate (t.r.length : Int).toNat [D.non]).flatten = (List.replicate t.r.length none).map oI := by simp [oI]
      rw [hzz] at m1
      simp only [List.mem_cons, List.not_mem_nil, or_false] at hy
      rcases hy with rfl | rfl | rfl
      · exact ⟨[], ⟨by simp, by simp⟩, by simp [q0]⟩
      · exact ⟨[], ⟨by simp, by simp⟩, by simp [q0]⟩
      · exact ⟨[⟨t, List.replicate t.r.length none, 0⟩], ⟨by simp, by simp; omega⟩, by simp [q1, m1]⟩
    refine ng_seq (e1 := [.val .bag, .val evenD, .val x, .val t.d, .val cu.d, .val (.tup (ss.map Slp.d)), .val (.int w), .val (.str o), x8, x9, x10, x11]) (B1 := B5) (by rw [s_asg, hss]; simp) ?_
    have hw : w = 0 ∨ w = 1 ∨ w = 2 ∨ w = 3 := by omega
    have hr : t.r.length ≤ 100 := by have := ht.r2; omega
    rcases hw with rfl | rfl | rfl | rfl
    · obtain ⟨d, B6, e6, ⟨t2, rfl, _, ht2⟩, b6⟩ := ev__law_bent_told h.toPrL (n + 5) b5 ht
      refine ng_seq (e1 := [.val .bag, .val evenD, .val x, .val t2.d, .val cu.d, .val (.tup (ss.map Slp.d)), .val (.int 0), .val (.str o), x8, x9, x10, x11]) (B1 := B6) (by simp [e6]) ?_
      refine ng_seq (e1 := [.val .bag, .val evenD, .val x, .val t2.d, .val cu.d, .val (.tup (ss.map Slp.d)), .val (.int 0), .val (.str o), x8, x9, x10, x11]) (B1 := B6) (by simp) ?_
      refine ng_seq (e1 := [.val .bag, .val evenD, .val x, .val t2.d, .val cu.d, .val (.tup (ss.map Slp.d)), .val (.int 0), .val (.str o), x8, x9, x10, x11]) (B1 := B6) (by simp) ?_
      exact tail_ok h n b6 ht2 hc hs ho _ _ _ _ _ _
    · obtain ⟨d, B6, e6, ⟨s2, rfl, hs2⟩, b6⟩ := ev__law_bent_slips h.toPrL (n + 4) b5 hs
      refine ng_seq (e1 := [.val .bag, .val evenD, .val x, .val t.d, .val cu.d, .val (.tup (ss.map Slp.d)), .val (.int 1), .val (.str o), x8, x9, x10, x11]) (B1 := B5) (by simp) ?_
      refine ng_seq (e1 := [.val .bag, .val evenD, .val x, .val t.d, .val cu.d, .val (.tup (s2.map Slp.d)), .val (.int 1), .val (.str o), x8, x9, x10, x11]) (B1 := B6) (by simp [e6]) ?_
      refine ng_seq (e1 := [.val .bag, .val evenD, .val x, .val t.d, .val cu.d, .val (.tup (s2.map Slp.d)), .val (.int 1), .val (.str o), x8, x9, x10, x11]) (B1 := B6) (by simp) ?_
      exact tail_ok h n b6 hr hc hs2 ho _ _ _ _ _ _
    · obtain ⟨d, B6, e6, ⟨c2, rfl, hc2⟩, b6⟩ := ev__law_bent_custom h.toPrL (n + 5) b5
      refine ng_seq (e1 := [.val .bag, .val evenD, .val x, .val t.d, .val cu.d, .val (.tup (ss.map Slp.d)), .val (.int 2), .val (.str o), x8, x9, x10, x11]) (B1 := B5) (by simp) ?_
      refine ng_seq (e1 := [.val .bag, .val evenD, .val x, .val t.d, .val cu.d, .val (.tup (ss.map Slp.d)), .val (.int 2), .val (.str o), x8, x9, x10, x11]) (B1 := B5) (by simp) ?_
      refine ng_seq (e1 := [.val .bag, .val evenD, .val x, .val t.d, .val c2.d, .val (.tup (ss.map Slp.d)), .val (.int 2), .val (.str o), x8, x9, x10, x11]) (B1 := B6) (by simp [e6]) ?_
      exact tail_ok h n b6 hr hc2 hs ho _ _ _ _ _ _
    · refine ng_seq (e1 := [.val .bag, .val evenD, .val x, .val t.d, .val cu.d, .val (.tup (ss.map Slp.d)), .val (.int 3), .val (.str o), x8, x9, x10, x11]) (B1 := B5) (by simp) ?_
      refine ng_seq (e1 := [.val .bag, .val evenD, .val x, .val t.d, .val cu.d, .val (.tup (ss.map Slp.d)), .val (.int 3), .val (.str o), x8, x9, x10, x11]) (B1 := B5) (by simp) ?_
      refine ng_seq (e1 := [.val .bag, .val evenD, .val x, .val t.d, .val cu.d, .val (.tup (ss.map Slp.d)), .val (.int 3), .val (.str o), x8, x9, x10, x11]) (B1 := B5) (by simp) ?_
      exact tail_ok h n b5 hr hc hs ho _ _ _ _ _ _
  · rintro env B ⟨x2, x3, x4, x5, x6, x7, x8, x9, x10, x11, rfl⟩ hB
    simp
    exact Gt.of rfl hB
end
end Cab.P
set_option Elab.async false
set_option linter.all false
set_option maxRecDepth 100000
set_option maxHeartbeats 4000000
/-! The plain part: joined. -/
namespace Cab.P
open PySem L2
theorem tab_ne {f : Str} {fn : Fn} (h : tab f = some fn) : f ≠ ("common" : Str) ∧ f ≠ ("_law_less" : Str) ∧ f ≠ ("_law_take" : Str) ∧ f ≠ ("ranked_at" : Str) ∧ f ≠ ("ride_of" : Str) ∧ f ≠ ("_law_said" : Str) := by
  have e := look_mem (show tabL.lookup f = some fn from h)
  have k : ∀ p ∈ tabL, p.1 ≠ ("common" : Str) ∧ p.1 ≠ ("_law_less" : Str) ∧ p.1 ≠ ("_law_take" : Str) ∧ p.1 ≠ ("ranked_at" : Str) ∧ p.1 ≠ ("ride_of" : Str) ∧ p.1 ≠ ("_law_said" : Str) := by decide +kernel
  exact k _ e
theorem nc0 : NoCl prim0 := fun f fn h => by
  obtain ⟨h1, h2, h3, _⟩ := tab_ne h
  unfold prim0
  rw [if_neg h1, if_neg h2, if_neg h3]
theorem nc1 (k : Call) : NoCl (prim1 k) := fun f fn h => by
  obtain ⟨_, _, _, h4, h5, _⟩ := tab_ne h
  unfold prim1
  rw [if_neg h4, if_neg h5]
  exact nc0 f fn h
theorem nc2 (k k1 : Call) : NoCl (prim2 k k1) := fun f fn h => by
  obtain ⟨_, _, _, _, _, h6⟩ := tab_ne h
  unfold prim2
  rw [if_neg h6]
  exact nc1 k f fn h
theorem prR2 : PrR2 (prim1 kA) where
  nc := nc1 _
  cm := by rfl
  rk := ⟨prim0, 3, nc0, by rfl⟩
  rd := ⟨prim0, 1, nc0, by rfl⟩
  tb := fun n B => by kernel_rfl
theorem prF : PrF (prim2 kA kB) where
  nc := nc2 _ _
  less := by rfl
  take := by rfl
  sh := fun n B => by kernel_rfl
  pt := fun n B e he => by
    simp only [endsL, List.mem_cons, List.not_mem_nil, or_false] at he
    rcases he with rfl | rfl | rfl | rfl | rfl | rfl
    · kernel_rfl
    · kernel_rfl
    · kernel_rfl
    · kernel_rfl
    · kernel_rfl
    · kernel_rfl
  sd := fun n B c p hc hp => by
    have e : prim2 kA kB ("_law_said" : Str) = some (pSaid kB) := by rfl
    rw [run_pr e]
    have eh : kB ("holds" : Str) [c.d, p.d] B = some (.bl (ans c p), B) := ev_holds 2 B prR2 hc hp
    show bd (kB ("holds" : Str) [c.d, p.d] B) _ = _
    rw [eh, bd_some, eh, bd_some]
    cases ans c p <;> rfl
theorem plain (B : Bg) (h1 : 0 ≤ B.1) (h2 : B.1 < 2147483587) (h3 : 0 ≤ B.2.1) : ∃ B', kC ("_law_right" : Str) [.bag] B = some (.bl true, B') := by
  obtain ⟨d, B', e, rfl, _⟩ := ev__law_right prF 4 (B := B) ⟨h1, h2, h3⟩
  exact ⟨B', e⟩
end Cab.P
theorem PySem.Challenge.cw_cabshares_k48_whole_claims_near_their_bo_holds : PySem.Challenge.rw_cabshares_k48_whole_claims_near_their_bo.Holds := by
  exact cab_top fun B h1 h2 h3 _ => Cab.P.plain B h1 h2 h3
