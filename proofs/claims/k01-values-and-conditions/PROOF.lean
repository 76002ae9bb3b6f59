import PyProof.Rows.All
import Wide.All
import OpenK.AllK
import Wide.FinOn
import HandS.ForMost
import HandS.ForExc
import HandS.Deep
import HandS.IsInst
import HandS.Zip
import HandS.Text
import HandS.Dict
import HandS.DictComp
import HandS.Small
import HandS.More
import KE.SortData
import KE.SortKeyHeap
import KE.DataMinMax
import PySem.Challenge.RW_legion_k01_values_and_conditions
set_option Elab.async false
set_option linter.all false
set_option maxRecDepth 100000
set_option maxHeartbeats 8000000
/-! PvCore: own small language over pure data, its reckoning, and the look that says which piece of the text it stands for. -/
namespace PV
open PySem

abbrev D := PyData
/-- how a value is held: shared for good, a peek that holds now, the root of an owned slot, a root that was just made -/
inductive Tag where | sh | pk | rt | ow
  deriving DecidableEq, Repr
def Tag.kid : Tag → Tag | .pk => .pk | _ => .sh
def Tag.dm : Tag → Tag | .sh => .sh | .ow => .sh | _ => .pk
def Tag.root : Tag → Tag | .sh => .ow | _ => .pk
def Tag.jn : Tag → Tag → Tag | .sh, .sh => .sh | _, _ => .pk
inductive R (α : Type) where | ok (a : α) | exc (c : Str) | stuck
def R.bind {α β : Type} : R α → (α → R β) → R β | .ok a, f => f a | .exc c, _ => .exc c | .stuck, _ => .stuck
abbrev TD := Tag × D
abbrev Gam := Str → Option (List D → R (Bool × D))
inductive Slot where | no | sh (d : D) | ow (d : D)
abbrev Env := List Slot
inductive Bop where | add | sub | mul | fdv | mod | pow | band | shl | shr
  deriving DecidableEq
inductive Cop where | eq | ne | lt | le | gt | ge | is | isn | inn | nin
  deriving DecidableEq
inductive Bi where | len | abs | min | max | int | list | tuple | sum | any | all | sorted | repr | str
  deriving DecidableEq
inductive Ty where | int | bool | str | list | tuple
  deriving DecidableEq
inductive Tg where | nm (i : Nat) | tp (is : List Nat)
  deriving DecidableEq
mutual
inductive Ex where
  | var (i : Nat)
  | cst (c : Const)
  | bin (o : Bop) (a b : Ex)
  | neg (a : Ex)
  | cmp (o : Cop) (a b : Ex)
  | chn (o p : Cop) (a b c : Ex)
  | lan (es : Exs) | lor (es : Exs) | lno (a : Ex)
  | ife (c : Te) (a b : Ex)
  | tup (es : Exs) | lst (es : Exs)
  | ix (a b : Ex)
  | sli (a : Ex) (lo hi : Pt)
  | call (f : Str) (es : Exs)
  | bi (b : Bi) (es : Exs)
  | isi (a : Ex) (t : Ty)
  | join (a b : Ex)
  | dnew | dix (a b : Ex) | dcpy (a : Ex)
  | cpr (own : List (Str × Nat)) (tg : Tg) (src : Src) (c : Tes) (e : Ex)
inductive Exs where | nil | cons (e : Ex) (es : Exs)
inductive Pt where | no | at (e : Ex)
inductive Te where
  | val (e : Ex) | tru (e : Ex) | and (ts : Tes) | or (ts : Tes) | not (a : Te)
inductive Tes where | nil | cons (t : Te) (ts : Tes)
inductive Src where
  | lst (e : Ex) | tup (e : Ex) | rg1 (a : Ex) | rg2 (a b : Ex) | enu (e : Ex) | zip (a b : Ex) | rev (e : Ex)
end
inductive Sx where
  | asg (fz : List Nat) (i : Nat) (e : Ex)
  | asgT (fz : List Nat) (is : List Nat) (e : Ex)
  | aug (i : Nat) (o : Bop) (e : Ex)
  | augX (i : Nat) (o : Bop) (x e : Ex)
  | setX (fz : List Nat) (i : Nat) (x e : Ex)
  | app (fz : List Nat) (i : Nat) (e : Ex)
  | setD (fz : List Nat) (i : Nat) (x e : Ex)
  | exp (e : Ex)
  | ifs (c : Te) (a b : List Sx)
  | whl (c : Te) (b : List Sx)
  | lop (fz : List Nat) (tg : Tg) (src : Src) (b : List Sx)
  | ret (fz : List Nat) (e : Ex)
  | rtv (i : Nat)
  | rtn | brk | cnt | pas
  | rai (c : Str)

/-! ### the reckoning -/
abbrev lim : Nat := 16000000
def scal : D → Bool | .none => true | .bool _ => true | .int _ => true | .str _ => true | _ => false
def nt (t : Tag) (d : D) : Tag := if scal d then .sh else t
def constD : Const → Option D
  | .none => some .none | .bool b => some (.bool b) | .int i => some (.int i) | .str s => some (.str s) | _ => none
def ok1 (d : D) : R TD := .ok (.sh, d)
def guard (b : Bool) (r : R TD) : R TD := if b then r else .stuck
def mulOk (i j : Int) : Bool := (decide (i.natAbs < 2 ^ 4000) && decide (j.natAbs < 2 ^ 4000)) || (decide (-(2 ^ 64) < i) && decide (i < 2 ^ 64)) || (decide (-(2 ^ 64) < j) && decide (j < 2 ^ 64))
def powOk (i j : Int) : Bool := decide (0 ≤ j) && decide (j ≤ 1000000) && decide (i.natAbs < 2 ^ 64)
def isRt : Tag → Bool | .rt => true | .ow => true | _ => false
def evBin : Bop → TD → TD → R TD
  | .add, (_, .int i), (_, .int j) => ok1 (.int (i + j))
  | .add, (s, .list xs), (t, .list ys) => guard (decide (xs.length + ys.length ≤ lim)) (.ok ((s.kid.jn t.kid).root, .list (xs ++ ys)))
  | .add, (_, .str x), (_, .str y) => guard (decide (x.length + y.length ≤ lim)) (ok1 (.str (x ++ y)))
  | .sub, (_, .int i), (_, .int j) => ok1 (.int (i - j))
  | .mul, (_, .int i), (_, .int j) => guard (mulOk i j) (ok1 (.int (i * j)))
  | .mul, (s, .list xs), (_, .int k) => guard (isRt s && decide (0 ≤ k) && decide (k ≤ (lim : Int)) && decide (xs.length * k.toNat ≤ lim)) (.ok (.ow, .list (List.replicate k.toNat xs).flatten))
  | .fdv, (_, .int i), (_, .int j) => guard (decide (0 < j) && decide (j < 1073741824)) (ok1 (.int (i / j)))
  | .mod, (_, .int i), (_, .int j) => guard (decide (0 < j)) (ok1 (.int (i % j)))
  | .pow, (_, .int i), (_, .int j) => guard (powOk i j) (ok1 (.int (i ^ j.toNat)))
  | .band, (_, .int i), (_, .int j) => ok1 (.int (Builtin.bitAnd i j))
  | .shl, (_, .int i), (_, .int j) => guard (powOk i j) (ok1 (.int (i * 2 ^ j.toNat)))
  | .shr, (_, .int i), (_, .int j) => guard (decide (0 ≤ j)) (ok1 (.int (i / 2 ^ j.toNat)))
  | _, _, _ => .stuck
def evNeg : D → R TD | .int i => ok1 (.int (-i)) | _ => .stuck
def isNone : D → Bool | .none => true | _ => false
def gB (c : Bool) (b : Bool) : R Bool := if c then .ok b else .stuck
def both (d e : D) : Bool := SeqAt.shaped d && SeqAt.shaped e
def dkey : D → Option L2.Key | .int i => some (Sum.inl i) | .str s => some (Sum.inr s) | _ => none
def dKey (k : L2.Key) : D := match k with | Sum.inl i => .int i | Sum.inr s => .str s
def dGetK (kvs : List (D × D)) (k : L2.Key) : Option D := (kvs.find? fun kv => decide (dkey kv.1 = some k)).map (·.2)
def dPutK (kvs : List (D × D)) (k : L2.Key) (d : D) : List (D × D) :=
  if (kvs.any fun kv => decide (dkey kv.1 = some k)) = true then kvs.map (fun kv => if dkey kv.1 = some k then (kv.1, d) else kv) else kvs ++ [(dKey k, d)]
def intKV : List (D × D) → Option (List (L2.Key × Int))
  | [] => some []
  | (k, .int i) :: r => match dkey k, intKV r with | some k, some l => some ((k, i) :: l) | _, _ => none
  | _ :: _ => none
def dSame (a b : List (D × D)) : Bool := match intKV a, intKV b with | some x, some y => decide (x = y) && decide ((x.map (·.1)).Nodup) | _, _ => false
def evEq : D → D → R Bool
  | .str x, .str y => .ok (decide (x = y))
  | .dict a, .dict b => if dSame a b then .ok true else .stuck
  | d, e => gB (both d e) (PyData.eqv d e)
def evNe : D → D → R Bool
  | .str x, .str y => .ok (!decide (x = y))
  | .dict a, .dict b => if dSame a b then .ok false else .stuck
  | d, e => gB (both d e) (!PyData.eqv d e)
def evCmp : Cop → D → D → R Bool
  | .eq, d, e => evEq d e
  | .ne, d, e => evNe d e
  | .lt, .int i, .int j => .ok (decide (i < j))
  | .le, .int i, .int j => .ok (decide (i ≤ j))
  | .gt, .int i, .int j => .ok (decide (j < i))
  | .ge, .int i, .int j => .ok (decide (j ≤ i))
  | .is, d, .none => .ok (isNone d)
  | .isn, d, .none => .ok (!isNone d)
  | .inn, d, .list xs => gB (both d (.list xs)) (xs.any fun z => PyData.eqv z d)
  | .nin, d, .list xs => gB (both d (.list xs)) (!xs.any fun z => PyData.eqv z d)
  | _, _, _ => .stuck
def truth : D → R Bool
  | .bool b => .ok b
  | .int i => .ok (i != 0)
  | .none => .ok false
  | .list xs => .ok (!xs.isEmpty)
  | .tuple xs => .ok (!xs.isEmpty)
  | .str z => gB (decide (z.length ≤ lim)) ((z.length : Int) != 0)
  | _ => .stuck
def isBool : D → R Bool | .bool b => .ok b | _ => .stuck
def evIx : TD → D → R TD
  | (t, .list xs), .int i => match L2.atI xs i with | some d => .ok (nt t.kid d, d) | none => .stuck
  | (t, .tuple xs), .int i => match L2.atI xs i with | some d => .ok (nt t.kid d, d) | none => .stuck
  | (_, .str z), .int i => guard (decide (z.length ≤ lim)) (match L2.atI z.cps.toList i with | some c => ok1 (.str ⟨#[c]⟩) | none => .stuck)
  | _, _ => .stuck
def cutD (xs : List D) (lo hi : Option Int) : List D := (xs.drop (HT.sIx xs.length 0 lo)).take (HT.sIx xs.length xs.length hi - HT.sIx xs.length 0 lo)
def evSl : TD → Option Int → Option Int → R TD
  | (t, .list xs), lo, hi => .ok (t.kid.root, .list (cutD xs lo hi))
  | (_, .str z), lo, hi => guard (decide (z.length ≤ lim)) (ok1 (.str (L2.cutS z lo hi)))
  | _, _, _ => .stuck
def isInt : D → R Int | .int i => .ok i | _ => .stuck
def intL : List D → Option (List Int)
  | [] => some []
  | .int i :: r => (intL r).map (i :: ·)
  | _ :: _ => none
def boolL : List D → Option (List Bool)
  | [] => some []
  | .bool i :: r => (boolL r).map (i :: ·)
  | _ :: _ => none
def leD : D → D → Bool := PySem.W.dataLe false id
def sortOk (xs : List D) : Bool := (xs.all fun d => xs.all fun e => PySem.W.alike d e) && ((xs.all fun d => match d with | .tuple (_ :: _) => true | _ => false) || (xs.all fun d => match d with | .none => false | .tuple _ => false | _ => true)) && (xs.all fun d => decide (d.depth ≤ 60) && d.canLay0)
def reprOk (d : D) : Bool := d.showable && d.canLay0 && decide (d.shown.length ≤ lim) && decide (d.depth ≤ 60)
def evBi : Bi → List TD → R TD
  | .len, [(_, .list xs)] => ok1 (.int xs.length)
  | .len, [(_, .tuple xs)] => ok1 (.int xs.length)
  | .len, [(_, .str z)] => guard (decide (z.length ≤ lim)) (ok1 (.int z.length))
  | .abs, [(_, .int i)] => ok1 (.int (if i < 0 then -i else i))
  | .min, [(_, .int i), (_, .int j)] => ok1 (.int (if j < i then j else i))
  | .max, [(_, .int i), (_, .int j)] => ok1 (.int (if j > i then j else i))
  | .min, [(_, .list xs)] => match intL xs with | some (n :: r) => ok1 (.int (r.foldl min n)) | _ => .stuck
  | .max, [(_, .list xs)] => match intL xs with | some (n :: r) => ok1 (.int (r.foldl max n)) | _ => .stuck
  | .int, [(_, .int i)] => ok1 (.int i)
  | .int, [(_, .bool b)] => ok1 (.int (if b then 1 else 0))
  | .list, [(t, .list xs)] => .ok (t.kid.root, .list xs)
  | .list, [(t, .tuple xs)] => .ok (t.kid.root, .list xs)
  | .tuple, [(t, .list xs)] => .ok (t.kid, .tuple xs)
  | .sum, [(_, .list xs)] => match intL xs with | some ns => ok1 (.int ns.sum) | none => .stuck
  | .any, [(_, .list xs)] => match boolL xs with | some bs => ok1 (.bool (bs.any id)) | none => .stuck
  | .all, [(_, .list xs)] => match boolL xs with | some bs => ok1 (.bool (bs.all id)) | none => .stuck
  | .sorted, [(t, .list xs)] => guard (sortOk xs) (.ok (t.kid.root, .list (xs.mergeSort leD)))
  | .repr, [(_, .list xs)] => guard (reprOk (.list xs)) (ok1 (.str (PyData.shown (.list xs))))
  | .repr, [(_, .tuple xs)] => guard (reprOk (.tuple xs)) (ok1 (.str (PyData.shown (.tuple xs))))
  | .str, [(_, .int i)] => guard (decide (i.natAbs.log2 < 1920)) (ok1 (.str (toString i)))
  | _, _ => .stuck
def strL : List D → Option (List Str)
  | [] => some []
  | .str i :: r => (strL r).map (i :: ·)
  | _ :: _ => none
def isStr : D → R Str | .str s => .ok s | _ => .stuck
def evJoin (a : Str) : D → R TD
  | .list xs => match strL xs with
    | some ys => guard (decide ((ys.map (·.length)).sum + ys.length * a.length ≤ lim)) (ok1 (.str (Txt.join a ys)))
    | none => .stuck
  | _ => .stuck
def evDix : TD → D → R TD
  | (t, .dict kvs), y => match dkey y with
    | some k => match dGetK kvs k with | some d => .ok (nt t.kid d, d) | none => .stuck
    | none => .stuck
  | _, _ => .stuck
def evDcp : TD → R TD
  | (t, .dict kvs) => .ok (t.kid.root, .dict kvs)
  | _ => .stuck
def isT : Ty → D → Option Bool
  | .int, .int _ => some true | .int, .bool _ => some true
  | .bool, .bool _ => some true
  | .str, .str _ => some true
  | .list, .list _ => some true
  | .tuple, .tuple _ => some true
  | _, .dict _ => none
  | _, _ => some false
def jnL : List TD → Tag | [] => .sh | x :: r => x.1.dm.jn (jnL r)
def bindT : Tg → TD → Env → Option Env
  | .nm i, (.sh, d), env => some (env.set i (.sh d))
  | .tp is, (.sh, .tuple ds), env => if ds.length = is.length then some ((is.zip ds).foldl (fun e p => e.set p.1 (.sh p.2)) env) else none
  | _, _, _ => none
/-- the items of a comprehension -/
def cpl (f : D → R (Option D)) : List D → R (List D)
  | [] => .ok []
  | d :: r => (f d).bind fun o => (cpl f r).bind fun s => match o with | none => .ok s | some x => .ok (x :: s)
def nox {α : Type} : R α → R α | .ok a => .ok a | _ => .stuck
def shOnly (x : TD) : R D := match (nt x.1 x.2).dm with | .sh => .ok x.2 | _ => .stuck
/-- two sources walked at once -/
def zt : Tag → Tag → Tag | .pk, _ => .pk | _, .pk => .pk | .rt, _ => .rt | _, .rt => .rt | _, _ => .sh
def wipeE (env : Env) : List Nat → Env | [] => env | v :: vs => (wipeE env vs).set v .no
def ranged (a b : Int) : List D := (List.range (b - a).toNat).map fun k => .int (a + (k : Nat))
def enumD (k : Nat) : List D → List D | [] => [] | d :: r => .tuple [.int k, d] :: enumD (k + 1) r
def zipD : List D → List D → List D | a :: r, b :: s => .tuple [a, b] :: zipD r s | _, _ => []
def small (i : Int) : Bool := decide (-(2 ^ 62) ≤ i) && decide (i < 2 ^ 62)
def callTag (t : Tag) (o : Bool) (d : D) : Tag := nt (match t with | .sh => if o then .ow else .sh | _ => .pk) d
mutual
def ev (G : Gam) : Ex → Env → R TD
  | .var i, env => match env[i]? with | some (.sh d) => .ok (.sh, d) | some (.ow d) => .ok (.rt, d) | _ => .stuck
  | .cst c, _ => match constD c with | some d => .ok (.sh, d) | none => .stuck
  | .bin o a b, env => (ev G a env).bind fun x => (ev G b env).bind fun y => evBin o x y
  | .neg a, env => (ev G a env).bind fun x => evNeg x.2
  | .cmp o a b, env => (ev G a env).bind fun x => (ev G b env).bind fun y => (evCmp o x.2 y.2).bind fun r => ok1 (.bool r)
  | .chn o p a b c, env => (ev G a env).bind fun x => (ev G b env).bind fun y => (evCmp o x.2 y.2).bind fun r =>
      match r with
      | true => (ev G c env).bind fun z => (evCmp p y.2 z.2).bind fun r => ok1 (.bool r)
      | false => ok1 (.bool false)
  | .lan es, env => evAnd G es env
  | .lor es, env => evOr G es env
  | .lno a, env => (ev G a env).bind fun x => (isBool x.2).bind fun b => ok1 (.bool (!b))
  | .ife c a b, env => (evT G c env).bind fun t => match t with | true => ev G a env | false => ev G b env
  | .tup es, env => (evs G es env).bind fun l => guard (decide (l.length ≤ lim)) (.ok (jnL l, .tuple (l.map (·.2))))
  | .lst es, env => (evs G es env).bind fun l => guard (decide (l.length ≤ lim)) (.ok ((jnL l).root, .list (l.map (·.2))))
  | .ix a b, env => (ev G a env).bind fun x => (ev G b env).bind fun y => evIx x y.2
  | .sli a lo hi, env => (ev G a env).bind fun x => (evP G lo env).bind fun l => (evP G hi env).bind fun h => evSl x l h
  | .call f es, env => match G f with | none => .stuck | some g => (evs G es env).bind fun l => (g (l.map (·.2))).bind fun r => .ok (callTag (jnL l) r.1 r.2, r.2)
  | .bi b es, env => (evs G es env).bind fun l => evBi b l
  | .isi a t, env => (ev G a env).bind fun x => match isT t x.2 with | some b => ok1 (.bool b) | none => .stuck
  | .join a b, env => (ev G a env).bind fun x => (isStr x.2).bind fun s => (ev G b env).bind fun y => evJoin s y.2
  | .dnew, _ => .ok (.ow, .dict [])
  | .dix a b, env => (ev G a env).bind fun x => (ev G b env).bind fun y => evDix x y.2
  | .dcpy a, env => (ev G a env).bind fun x => evDcp x
  | .cpr own tg src c e, env => (evSrc G src env).bind fun s =>
      (nox (cpl (fun d => match bindT tg (nt s.1.kid d, d) (wipeE env (own.map (·.2))) with
        | none => .stuck
        | some env2 => (evTA G c env2).bind fun t => match t with | true => (ev G e env2).bind fun x => (shOnly x).bind fun d => .ok (some d) | false => .ok none) s.2)).bind fun r => guard (decide (s.2.length ≤ lim)) (.ok (.ow, .list r))
def evP (G : Gam) : Pt → Env → R (Option Int)
  | .no, _ => .ok none
  | .at e, env => (ev G e env).bind fun x => (isInt x.2).bind fun i => .ok (some i)
def evs (G : Gam) : Exs → Env → R (List TD)
  | .nil, _ => .ok []
  | .cons e es, env => (ev G e env).bind fun x => (evs G es env).bind fun l => .ok (x :: l)
def evAnd (G : Gam) : Exs → Env → R TD
  | .nil, _ => .stuck
  | .cons e .nil, env => ev G e env
  | .cons e es, env => (ev G e env).bind fun x => (isBool x.2).bind fun b => match b with | true => evAnd G es env | false => ok1 (.bool false)
def evOr (G : Gam) : Exs → Env → R TD
  | .nil, _ => .stuck
  | .cons e .nil, env => ev G e env
  | .cons e es, env => (ev G e env).bind fun x => (isBool x.2).bind fun b => match b with | false => evOr G es env | true => ok1 (.bool true)
def evT (G : Gam) : Te → Env → R Bool
  | .val e, env => (ev G e env).bind fun x => isBool x.2
  | .tru e, env => (ev G e env).bind fun x => truth x.2
  | .and ts, env => evTA G ts env
  | .or ts, env => evTO G ts env
  | .not a, env => (evT G a env).bind fun t => .ok (!t)
def evTA (G : Gam) : Tes → Env → R Bool
  | .nil, _ => .ok true
  | .cons a ts, env => (evT G a env).bind fun t => match t with | true => evTA G ts env | false => .ok false
def evTO (G : Gam) : Tes → Env → R Bool
  | .nil, _ => .ok false
  | .cons a ts, env => (evT G a env).bind fun t => match t with | true => .ok true | false => evTO G ts env
def evSrc (G : Gam) : Src → Env → R (Tag × List D)
  | .lst e, env => (ev G e env).bind fun x => match x.2 with | .list ds => .ok (x.1, ds) | _ => .stuck
  | .tup e, env => (ev G e env).bind fun x => match x.2 with | .tuple ds => .ok (x.1, ds) | _ => .stuck
  | .rg1 a, env => (ev G a env).bind fun x => (isInt x.2).bind fun j => if small j then .ok (.sh, ranged 0 j) else .stuck
  | .rg2 a b, env => (ev G a env).bind fun x => (ev G b env).bind fun y => (isInt x.2).bind fun i => (isInt y.2).bind fun j => if small i && small j then .ok (.sh, ranged i j) else .stuck
  | .enu e, env => (ev G e env).bind fun x => match x.2 with | .list ds => .ok (x.1, enumD 0 ds) | _ => .stuck
  | .zip a b, env => (ev G a env).bind fun x => (ev G b env).bind fun y => match x.2, y.2 with | .list ds, .list es => .ok (zt x.1 y.1, zipD ds es) | _, _ => .stuck
  | .rev e, env => (ev G e env).bind fun x => match x.2 with | .list ds => .ok (x.1, ds.reverse) | _ => .stuck
end
/-! ### statements -/
inductive Out where | nx (e : Env) | ret (t : Tag) (d : D) | brk (e : Env) | cnt (e : Env) | exc (c : Str) (e : Env) | stuck
def frz : List Nat → Env → Env
  | [], env => env
  | i :: r, env => match env[i]? with | some (.ow d) => frz r (env.set i (.sh d)) | _ => frz r env
def put (env : Env) (i : Nat) (x : TD) : Out := match nt x.1 x.2, x.2 with
  | .sh, d => .nx (env.set i (.sh d))
  | .ow, .list ds => .nx (env.set i (.ow (.list ds)))
  | .ow, .dict ds => .nx (env.set i (.ow (.dict ds)))
  | _, _ => .stuck
def Out.of {α : Type} (env : Env) : R α → (α → Out) → Out | .ok a, f => f a | .exc c, _ => .exc c env | .stuck, _ => .stuck
def ownL (env : Env) (i : Nat) : R (List D) := match env[i]? with | some (.ow (.list ds)) => .ok ds | _ => .stuck
def ownD (env : Env) (i : Nat) : R (List (D × D)) := match env[i]? with | some (.ow (.dict ds)) => .ok ds | _ => .stuck
def shD (env : Env) (i : Nat) : R D := match env[i]? with | some (.sh d) => .ok d | _ => .stuck
def placed (ds : List D) (k : Int) : R (Nat × D) := match L2.ixN ds.length k with | some j => (match ds[j]? with | some d => .ok (j, d) | none => .stuck) | none => .stuck
def augB : Bop → D → D → R D
  | .add, .int i, .int j => .ok (.int (i + j))
  | .sub, .int i, .int j => .ok (.int (i - j))
  | _, _, _ => .stuck
/-- a for over items -/
def lp (f : D → Env → Out) : List D → Env → Out
  | [], env => .nx env
  | d :: r, env => match f d env with
    | .nx e => lp f r e
    | .cnt e => lp f r e
    | .brk e => .nx e
    | .ret t d => .ret t d
    | .exc c e => .exc c e
    | .stuck => .stuck
/-- a while of at most so many turns -/
def wh (c : Env → R Bool) (f : Env → Out) : Nat → Env → Out
  | 0, _ => .stuck
  | n + 1, env => Out.of env (c env) fun t => match t with
    | false => .nx env
    | true => match f env with
      | .nx e => wh c f n e
      | .cnt e => wh c f n e
      | .brk e => .nx e
      | .ret t d => .ret t d
      | .exc c e => .exc c e
      | .stuck => .stuck
/-- the rest behind a statement -/
def Out.then (o : Out) (f : Env → Out) : Out := match o with | .nx e => f e | o => o
mutual
def evS (G : Gam) (W : Nat) : Sx → Env → Out
  | .asg fz i e, env => Out.of (frz fz env) (ev G e (frz fz env)) fun x => put (frz fz env) i x
  | .asgT fz is e, env => Out.of (frz fz env) (ev G e (frz fz env)) fun x => match bindT (.tp is) ((nt x.1 x.2).dm, x.2) (frz fz env) with | some e2 => .nx e2 | none => .stuck
  | .aug i o e, env => Out.of env (shD env i) fun a => Out.of env (ev G e env) fun x => Out.of env (augB o a x.2) fun r => .nx (env.set i (.sh r))
  | .augX i o x e, env => Out.of env (ownL env i) fun ds => Out.of env (ev G x env) fun k => Out.of env (isInt k.2) fun k => Out.of env (placed ds k) fun p =>
      Out.of env (ev G e env) fun y => Out.of env (augB o p.2 y.2) fun r => .nx (env.set i (.ow (.list (ds.set p.1 r))))
  | .setX fz i x e, env => Out.of (frz fz env) (ev G e (frz fz env)) fun y => Out.of (frz fz env) (shOnly y) fun r => Out.of (frz fz env) (ownL (frz fz env) i) fun ds =>
      Out.of (frz fz env) (ev G x (frz fz env)) fun k => Out.of (frz fz env) (isInt k.2) fun k => Out.of (frz fz env) (placed ds k) fun p => .nx ((frz fz env).set i (.ow (.list (ds.set p.1 r))))
  | .app fz i e, env => Out.of (frz fz env) (ownL (frz fz env) i) fun ds => Out.of (frz fz env) (ev G e (frz fz env)) fun y => Out.of (frz fz env) (shOnly y) fun r =>
      if ds.length < lim then .nx ((frz fz env).set i (.ow (.list (ds ++ [r])))) else .stuck
  | .setD fz i x e, env => Out.of (frz fz env) (ev G e (frz fz env)) fun y => Out.of (frz fz env) (shOnly y) fun r => Out.of (frz fz env) (ownD (frz fz env) i) fun ds =>
      Out.of (frz fz env) (ev G x (frz fz env)) fun k => match dkey k.2 with
        | some kk => if ds.length < lim then .nx ((frz fz env).set i (.ow (.dict (dPutK ds kk r)))) else .stuck
        | none => .stuck
  | .exp e, env => Out.of env (ev G e env) fun _ => .nx env
  | .ifs c a b, env => Out.of env (evT G c env) fun t => match t with | true => evSs G W a env | false => evSs G W b env
  | .whl c b, env => wh (fun e => evT G c e) (fun e => evSs G W b e) W env
  | .lop fz tg src b, env => Out.of (frz fz env) (evSrc G src (frz fz env)) fun s => match s.1.dm with
      | .sh => lp (fun d e => match bindT tg (.sh, d) e with | some e2 => evSs G W b e2 | none => .stuck) s.2 (frz fz env)
      | _ => .stuck
  | .ret fz e, env => Out.of (frz fz env) (ev G e (frz fz env)) fun x => match nt x.1 x.2 with | .sh => .ret .sh x.2 | .ow => .ret .ow x.2 | _ => .stuck
  | .rtv i, env => match env[i]? with | some (.ow d) => .ret .ow d | some (.sh d) => .ret .sh d | _ => .stuck
  | .rtn, _ => .ret .sh .none
  | .brk, env => .brk env
  | .cnt, env => .cnt env
  | .pas, env => .nx env
  | .rai c, env => .exc c env
def evSs (G : Gam) (W : Nat) : List Sx → Env → Out
  | [], env => .nx env
  | s :: r, env => (evS G W s env).then fun e => evSs G W r e
end
/-- a def: its value from its arguments' -/
def evDef (G : Gam) (W sz k : Nat) (b : List Sx) (ds : List D) : R (Bool × D) :=
  if ds.length ≠ k then .stuck else match evSs G W b (ds.map Slot.sh ++ List.replicate (sz - ds.length) Slot.no) with
  | .ret .sh d => .ok (false, d)
  | .ret .ow d => .ok (true, d)
  | .nx _ => .ok (false, .none)
  | .exc c _ => .exc c
  | _ => .stuck

/-! ### the look: which text a piece stands for -/
open L2 (relS)
def visB (sc : Scope) (x : Str) : Bool := match sc.names.lookup x with | some .local => true | some .cell => true | some .free => true | _ => false
def glB (sc : Scope) (x : Str) : Bool := match sc.names.lookup x with | some .globalImplicit => true | _ => false
def nmB (x : Str) : Bool := !(x == "__debug__") && !(x == "__classdict__")
/-- a name that may be stored: its slot; in a block only the block's own cells -/
def stB (N : List Str) (sc : Scope) (cok : Str → Bool) (i : Nat) (x : Str) : Bool :=
  decide (N[i]? = some x) && (match sc.names.lookup x with | some .local => true | some .cell => cok x | _ => false)
def bopE : Bop → Operator | .add => .Add | .sub => .Sub | .mul => .Mult | .fdv => .FloorDiv | .mod => .Mod | .pow => .Pow | .band => .BitAnd | .shl => .LShift | .shr => .RShift
def copE : Cop → CmpOp | .eq => .Eq | .ne => .NotEq | .lt => .Lt | .le => .LtE | .gt => .Gt | .ge => .GtE | .is => .Is | .isn => .IsNot | .inn => .In | .nin => .NotIn
def Bi.name : Bi → Str | .len => "len" | .abs => "abs" | .min => "min" | .max => "max" | .int => "int" | .list => "list" | .tuple => "tuple" | .sum => "sum" | .any => "any" | .all => "all" | .sorted => "sorted" | .repr => "repr" | .str => "str"
def Ty.name : Ty → String | .int => "int" | .bool => "bool" | .str => "str" | .list => "list" | .tuple => "tuple"
def glN (sc : Scope) (bs : List Str) (x : Str) : Bool := glB sc x && decide (x ∈ bs)
def chkTg (N : List Str) (sc : Scope) (cok : Str → Bool) : Tg → Expr → Bool
  | .nm i, .Name x _ => stB N sc cok i x
  | .tp is, .Tuple es _ _ => go is es
  | _, _ => false
where go : List Nat → List Expr → Bool
  | [], [] => true
  | i :: is, .Name x _ :: es => stB N sc cok i x && go is es
  | _, _ => false
def tgIn : Tg → List Nat → Bool | .nm i, vs => vs.contains i | .tp is, vs => is.all fun i => vs.contains i
def isTupE : Expr → Bool | .Tuple _ _ _ => true | _ => false
def noSet : Expr → Bool | .Set .. => false | _ => true
def valE : Expr → Bool | .Compare .. => true | .Call .. => true | _ => false
def truE : Expr → Bool | .Name .. => true | .Subscript .. => true | .Call .. => true | _ => false
def attrOk : Expr → Bool | .Constant .. => true | .Name .. => true | _ => false
def noSl : Expr → Bool | .Slice .. => false | _ => true
mutual
def chkE (N : List Str) (bs : List Str) : Ex → Scope → Expr → Bool
  | .var i, sc, .Name x _ => decide (N[i]? = some x) && visB sc x && nmB x
  | .cst c, _, .Constant c' _ _ => decide (c = c') && (constD c).isSome
  | .bin o a b, sc, .BinOp l op r _ => decide (op = bopE o) && chkE N bs a sc l && chkE N bs b sc r
  | .neg a, sc, .UnaryOp .USub x _ => chkE N bs a sc x
  | .cmp o a b, sc, .Compare l [op] [r] _ => decide (op = copE o) && chkE N bs a sc l && chkE N bs b sc r
  | .chn o p a b c, sc, .Compare l [op, op'] [m, r] _ => decide (op = copE o) && decide (op' = copE p) && chkE N bs a sc l && chkE N bs b sc m && chkE N bs c sc r
  | .lan es, sc, .BoolOp .And vs _ => chkEs N bs es sc vs
  | .lor es, sc, .BoolOp .Or vs _ => chkEs N bs es sc vs
  | .lno a, sc, .UnaryOp .Not x _ => chkE N bs a sc x
  | .ife c a b, sc, .IfExp t l r _ => chkT N bs c sc t && chkE N bs a sc l && chkE N bs b sc r
  | .tup es, sc, .Tuple xs _ _ => chkEs N bs es sc xs
  | .lst es, sc, .List xs _ => chkEs N bs es sc xs
  | .ix a b, sc, .Subscript v s _ => noSl s && chkE N bs a sc v && chkE N bs b sc s
  | .sli a lo hi, sc, .Subscript v (.Slice l h none _) _ => chkE N bs a sc v && chkP N bs lo sc l && chkP N bs hi sc h
  | .call f es, sc, .Call (.Name x _) (y :: ys) [] _ => decide (x = f) && glB sc x && nmB x && chkEs N bs es sc (y :: ys)
  | .bi b es, sc, .Call (.Name x _) (y :: ys) [] _ => decide (x = b.name) && glN sc bs x && chkEs N bs es sc (y :: ys)
  | .isi a t, sc, .Call (.Name x _) [y, .Name z _] [] _ => decide (x = "isinstance") && glN sc bs x && decide (z = t.name) && glN sc bs z && chkE N bs a sc y
  | .join a b, sc, .Call (.Attribute o m ap) [y] [] p => decide (m = "join") && decide (ap.endLine = p.line) && attrOk o && chkE N bs a sc o && chkE N bs b sc y
  | .dnew, _, .Dict [] [] _ => true
  | .dix a b, sc, .Subscript v s _ => noSl s && chkE N bs a sc v && chkE N bs b sc s
  | .dcpy a, sc, .Call (.Name x _) [y] [] _ => decide (x = "dict") && glN sc bs x && chkE N bs a sc y
  | .cpr own tg src c e, sc, .ListComp elt [⟨t, it, ifs, z⟩] scope _ => decide (z = 0) && L2.blkC N sc scope own && chkTg N (relS scope sc) (fun x => scope.names.lookup x == some .cell) tg t && chkSrc N bs src sc it t &&
      chkTs N bs c (relS scope sc) ifs && decide (ifs.length ≤ 1) && chkE N bs e (relS scope sc) elt && tgIn tg (own.map (·.2))
  | _, _, _ => false
def chkEs (N : List Str) (bs : List Str) : Exs → Scope → List Expr → Bool
  | .nil, _, [] => true
  | .cons e es, sc, x :: xs => chkE N bs e sc x && chkEs N bs es sc xs
  | _, _, _ => false
def chkP (N : List Str) (bs : List Str) : Pt → Scope → Option Expr → Bool
  | .no, _, none => true
  | .at e, sc, some x => chkE N bs e sc x
  | _, _, _ => false
def chkT (N : List Str) (bs : List Str) : Te → Scope → Expr → Bool
  | .val e, sc, x => valE x && chkE N bs e sc x
  | .tru e, sc, x => truE x && chkE N bs e sc x
  | .not a, sc, .UnaryOp .Not x _ => chkT N bs a sc x
  | .and ts, sc, .BoolOp .And xs _ => !xs.isEmpty && chkTs N bs ts sc xs
  | .or ts, sc, .BoolOp .Or xs _ => !xs.isEmpty && chkTs N bs ts sc xs
  | _, _, _ => false
def chkTs (N : List Str) (bs : List Str) : Tes → Scope → List Expr → Bool
  | .nil, _, [] => true
  | .cons t ts, sc, x :: xs => chkT N bs t sc x && chkTs N bs ts sc xs
  | _, _, _ => false
def chkSrc (N : List Str) (bs : List Str) : Src → Scope → Expr → Expr → Bool
  | .lst e, sc, x, _ => noSet x && chkE N bs e sc x
  | .tup e, sc, x, _ => noSet x && chkE N bs e sc x
  | .rg1 a, sc, .Call (.Name x _) [y] [] _, _ => decide (x = "range") && glN sc bs x && chkE N bs a sc y
  | .rg2 a b, sc, .Call (.Name x _) [y, z] [] _, _ => decide (x = "range") && glN sc bs x && chkE N bs a sc y && chkE N bs b sc z
  | .enu a, sc, .Call (.Name x _) [y] [] _, tg => decide (x = "enumerate") && glN sc bs x && chkE N bs a sc y && isTupE tg
  | .zip a b, sc, .Call (.Name x _) [y, z] [] _, tg => decide (x = "zip") && glN sc bs x && chkE N bs a sc y && chkE N bs b sc z && isTupE tg
  | .rev a, sc, .Call (.Name x _) [y] [] _, _ => decide (x = "reversed") && glN sc bs x && chkE N bs a sc y
  | _, _, _, _ => false
end
def augO : Bop → Bool | .add => true | .sub => true | _ => false
def chkR (sc : Scope) (cs : List Str) (c : Str) : Expr → Bool
  | .Call (.Name x _) [.Constant (.str _) _ _] [] _ => decide (x = c) && glB sc x && nmB x && decide (x ∈ cs)
  | _ => false
def isCallE : Expr → Bool | .Call .. => true | _ => false
mutual
def chkS (N : List Str) (bs cs : List Str) (sc : Scope) : Sx → Stmt → Bool
  | .asg _ i e, .Assign [.Name x _] v _ => stB N sc (fun _ => true) i x && chkE N bs e sc v
  | .asgT _ is e, .Assign [.Tuple es _ _] v _ => chkTg.go N sc (fun _ => true) is es && !isTupE v && chkE N bs e sc v
  | .aug i o e, .AugAssign (.Name x _) op v _ => augO o && decide (op = bopE o) && stB N sc (fun _ => true) i x && chkE N bs e sc v
  | .augX i o k e, .AugAssign (.Subscript (.Name x _) s _) op v _ => augO o && decide (op = bopE o) && decide (N[i]? = some x) && visB sc x && nmB x && noSl s && chkE N bs k sc s && chkE N bs e sc v
  | .setX _ i k e, .Assign [.Subscript (.Name x _) s _] v _ => decide (N[i]? = some x) && visB sc x && nmB x && noSl s && chkE N bs k sc s && chkE N bs e sc v
  | .setD _ i k e, .Assign [.Subscript (.Name x _) s _] v _ => decide (N[i]? = some x) && visB sc x && nmB x && noSl s && chkE N bs k sc s && chkE N bs e sc v
  | .app _ i e, .Expr (.Call (.Attribute (.Name x _) m ap) [y] [] p) _ => decide (m = "append") && decide (ap.endLine = p.line) && decide (N[i]? = some x) && visB sc x && nmB x && chkE N bs e sc y
  | .exp e, .Expr v _ => isCallE v && chkE N bs e sc v
  | .ifs c a b, .If t x y _ => chkT N bs c sc t && chkSs N bs cs sc a x && chkSs N bs cs sc b y
  | .whl c a, .While t x [] _ => chkT N bs c sc t && chkSs N bs cs sc a x
  | .lop _ tg src a, .For t it x [] _ => chkTg N sc (fun _ => true) tg t && chkSrc N bs src sc it t && chkSs N bs cs sc a x
  | .ret _ e, .Return (some v) _ => chkE N bs e sc v
  | .rtv i, .Return (some (.Name x _)) _ => decide (N[i]? = some x) && visB sc x && nmB x
  | .rtn, .Return none _ => true
  | .brk, .Break _ => true
  | .cnt, .Continue _ => true
  | .pas, .Pass _ => true
  | .rai c, .Raise (some e) none _ => chkR sc cs c e
  | _, _ => false
def chkSs (N : List Str) (bs cs : List Str) (sc : Scope) : List Sx → List Stmt → Bool
  | [], [] => true
  | s :: r, x :: xs => chkS N bs cs sc s x && chkSs N bs cs sc r xs
  | _, _ => false
end
end PV

/-! PvRel: how the layer's heap bears pure data. -/
namespace PV
open PySem PySem.Spec PyProof.Rows L2

def keyD : Key → D | .inl i => .int i | .inr x => .str x
/-- a list that is read: tracked, locked, or one of the written part in its plain form -/
def LL (K : PySem.W.Frag) (H : Hp) (a : Addr) (vs : List V) : Prop :=
  Rd H a (.lst vs) ∨ ∃ (its : List Value) (n : Nat), K.lookup a = some { cls := .type "list", data := .seq its.toArray n } ∧ Vals vs its ∧ its.length ≤ sizeLine
theorem LL.seq {K : PySem.W.Frag} {H : Hp} {a : Addr} {vs : List V} (h : LL K H a vs) : SqL K H a vs := by
  rcases h with h | ⟨its, n, h1, h2, h3⟩
  · exact .inl h
  · exact .inr ⟨_, its.toArray, n, h1, rfl, rfl, rfl, by simpa using h3, by simpa using h2⟩
theorem rd_mono {H H' : Hp} {a : Addr} {u : HO} (e : Same H H') (h : Rd H a u) : Rd H' a u := by
  rcases h with h | ⟨o, h⟩
  · exact .inl (e _ _ h)
  · exact .inr ⟨o, e _ _ h⟩
theorem LL.mono {K : PySem.W.Frag} {H H' : Hp} {a : Addr} {vs : List V} (e : Same H H') (h : LL K H a vs) : LL K H' a vs := by
  rcases h with h | h
  · exact .inl (rd_mono e h)
  · exact .inr h
theorem sqT_mono {K : PySem.W.Frag} {H H' : Hp} {a : Addr} {vs : List V} (e : Same H H') (h : SqT K H a vs) : SqT K H' a vs := by
  rcases h with h | h
  · exact .inl (rd_mono e h)
  · exact .inr h
theorem LL.of {K : PySem.W.Frag} {H : Hp} {a : Addr} {vs : List V} (h : H a = some (.lst vs)) : LL K H a vs := .inl (.inl h)
mutual
def Is (K : PySem.W.Frag) (H : Hp) : D → V → Prop
  | .none, v => v = .non
  | .bool b, v => v = .bl b
  | .int i, v => v = .int i
  | .str x, v => v = .str x
  | .list ds, v => ∃ a vs, v = .ref a ∧ LL K H a vs ∧ IsL K H ds vs
  | .tuple ds, v => ∃ a vs, v = .ref a ∧ SqT K H a vs ∧ IsL K H ds vs
  | .dict kvs, v => ∃ a es, v = .ref a ∧ H a = some (.dK es) ∧ IsK K H kvs es
def IsL (K : PySem.W.Frag) (H : Hp) : List D → List V → Prop
  | [], vs => vs = []
  | d :: ds, vs => ∃ v r, vs = v :: r ∧ Is K H d v ∧ IsL K H ds r
def IsK (K : PySem.W.Frag) (H : Hp) : List (D × D) → List (Key × V) → Prop
  | [], es => es = []
  | (k, d) :: r, es => ∃ kk v es', es = (kk, v) :: es' ∧ k = keyD kk ∧ Is K H d v ∧ IsK K H r es'
end
section
variable {K : PySem.W.Frag} {H H' : Hp}
mutual
theorem Is.mono (e : Same H H') : ∀ {d : D} {v : V}, Is K H d v → Is K H' d v
  | .none, _, h => by simpa only [Is] using h
  | .bool _, _, h => by simpa only [Is] using h
  | .int _, _, h => by simpa only [Is] using h
  | .str _, _, h => by simpa only [Is] using h
  | .list ds, v, h => by
    simp only [Is] at h ⊢
    obtain ⟨a, vs, h1, h2, h3⟩ := h
    exact ⟨a, vs, h1, h2.mono e, IsL.mono e h3⟩
  | .tuple ds, v, h => by
    simp only [Is] at h ⊢
    obtain ⟨a, vs, h1, h2, h3⟩ := h
    exact ⟨a, vs, h1, sqT_mono e h2, IsL.mono e h3⟩
  | .dict kvs, v, h => by
    simp only [Is] at h ⊢
    obtain ⟨a, vs, h1, h2, h3⟩ := h
    exact ⟨a, vs, h1, e _ _ h2, IsK.mono e h3⟩
theorem IsL.mono (e : Same H H') : ∀ {ds : List D} {vs : List V}, IsL K H ds vs → IsL K H' ds vs
  | [], _, h => by simpa only [IsL] using h
  | d :: ds, vs, h => by
    simp only [IsL] at h ⊢
    obtain ⟨v, r, h1, h2, h3⟩ := h
    exact ⟨v, r, h1, Is.mono e h2, IsL.mono e h3⟩
theorem IsK.mono (e : Same H H') : ∀ {ds : List (D × D)} {vs : List (Key × V)}, IsK K H ds vs → IsK K H' ds vs
  | [], _, h => by simpa only [IsK] using h
  | (k, d) :: ds, vs, h => by
    simp only [IsK] at h ⊢
    obtain ⟨kk, v, r, h1, h0, h2, h3⟩ := h
    exact ⟨kk, v, r, h1, h0, Is.mono e h2, IsK.mono e h3⟩
end
theorem IsL.nil : IsL K H [] [] := by simp only [IsL]
theorem IsL.cons {d : D} {v : V} {ds : List D} {vs : List V} (h : Is K H d v) (t : IsL K H ds vs) : IsL K H (d :: ds) (v :: vs) := by
  simp only [IsL]
  exact ⟨v, vs, rfl, h, t⟩
theorem IsL.len : ∀ {ds : List D} {vs : List V}, IsL K H ds vs → vs.length = ds.length
  | [], _, h => by
    simp only [IsL] at h
    subst h
    rfl
  | d :: ds, _, h => by
    simp only [IsL] at h
    obtain ⟨v, r, rfl, _, t⟩ := h
    simp only [List.length_cons, IsL.len t]
theorem IsL.get : ∀ {ds : List D} {vs : List V} {i : Nat} {d : D}, IsL K H ds vs → ds[i]? = some d → ∃ v, vs[i]? = some v ∧ Is K H d v
  | [], _, _, _, _, e => by simp at e
  | d :: ds, _, 0, _, h, e => by
    simp only [IsL] at h
    obtain ⟨v, r, rfl, q, t⟩ := h
    simp at e
    subst e
    exact ⟨v, rfl, q⟩
  | d :: ds, _, i + 1, _, h, e => by
    simp only [IsL] at h
    obtain ⟨v, r, rfl, q, t⟩ := h
    obtain ⟨w, e1, e2⟩ := IsL.get (i := i) t (by simpa using e)
    exact ⟨w, by simpa using e1, e2⟩
theorem IsL.getV {ds : List D} {vs : List V} {i : Nat} {v : V} (h : IsL K H ds vs) (e : vs[i]? = some v) : ∃ d, ds[i]? = some d ∧ Is K H d v := by
  have hi : i < ds.length := by
    have := (List.getElem?_eq_some_iff.mp e).1
    rw [h.len] at this
    exact this
  obtain ⟨w, e1, e2⟩ := h.get (List.getElem?_eq_getElem hi)
  rw [e] at e1
  cases e1
  exact ⟨_, List.getElem?_eq_getElem hi, e2⟩
theorem IsL.app : ∀ {ds es : List D} {vs ws : List V}, IsL K H ds vs → IsL K H es ws → IsL K H (ds ++ es) (vs ++ ws)
  | [], _, _, _, h, t => by
    simp only [IsL] at h
    subst h
    exact t
  | d :: ds, _, _, _, h, t => by
    simp only [IsL] at h
    obtain ⟨v, r, rfl, q, u⟩ := h
    exact .cons q (IsL.app u t)
theorem IsL.one {d : D} {v : V} (h : Is K H d v) : IsL K H [d] [v] := .cons h .nil
theorem IsL.take : ∀ {ds : List D} {vs : List V} (n : Nat), IsL K H ds vs → IsL K H (ds.take n) (vs.take n)
  | _, _, 0, _ => by
    rw [List.take_zero, List.take_zero]
    exact .nil
  | [], _, n + 1, h => by
    simp only [IsL] at h
    subst h
    exact .nil
  | d :: ds, _, n + 1, h => by
    simp only [IsL] at h
    obtain ⟨v, r, rfl, q, u⟩ := h
    exact .cons q (IsL.take n u)
theorem IsL.drop : ∀ {ds : List D} {vs : List V} (n : Nat), IsL K H ds vs → IsL K H (ds.drop n) (vs.drop n)
  | _, _, 0, h => h
  | [], _, n + 1, h => by
    simp only [IsL] at h
    subst h
    exact .nil
  | d :: ds, _, n + 1, h => by
    simp only [IsL] at h
    obtain ⟨v, r, rfl, q, u⟩ := h
    exact IsL.drop n u
theorem IsL.set : ∀ {ds : List D} {vs : List V} {d : D} {v : V} (i : Nat), IsL K H ds vs → Is K H d v → IsL K H (ds.set i d) (vs.set i v)
  | [], _, _, _, i, h, _ => by
    simp only [IsL] at h
    subst h
    exact .nil
  | e :: ds, _, _, _, 0, h, q => by
    simp only [IsL] at h
    obtain ⟨w, r, rfl, _, u⟩ := h
    exact .cons q u
  | e :: ds, _, _, _, i + 1, h, q => by
    simp only [IsL] at h
    obtain ⟨w, r, rfl, z, u⟩ := h
    exact .cons z (IsL.set i u q)
theorem IsL.rep {ds : List D} {vs : List V} (h : IsL K H ds vs) : ∀ n : Nat, IsL K H (List.replicate n ds).flatten (List.replicate n vs).flatten
  | 0 => .nil
  | n + 1 => by
    rw [List.replicate_succ, List.replicate_succ, List.flatten_cons, List.flatten_cons]
    exact h.app (IsL.rep h n)
theorem IsL.rev : ∀ {ds : List D} {vs : List V}, IsL K H ds vs → IsL K H ds.reverse vs.reverse
  | [], _, h => by
    simp only [IsL] at h
    subst h
    exact .nil
  | d :: ds, _, h => by
    simp only [IsL] at h
    obtain ⟨v, r, rfl, q, u⟩ := h
    rw [List.reverse_cons, List.reverse_cons]
    exact (IsL.rev u).app (.one q)
theorem IsL.cut {ds : List D} {vs : List V} (h : IsL K H ds vs) (lo hi : Option Int) : IsL K H (cutD ds lo hi) (cutV vs lo hi) := by
  unfold cutD cutV
  rw [h.len]
  exact (h.drop _).take _
theorem Is.scal {d : D} {v : V} {G : Hp} (h : Is K H d v) (s : PV.scal d = true) : Is K G d v := by
  cases d with
  | none => simpa only [Is] using h
  | bool _ => simpa only [Is] using h
  | int _ => simpa only [Is] using h
  | str _ => simpa only [Is] using h
  | list _ => simp [PV.scal] at s
  | tuple _ => simp [PV.scal] at s
  | dict _ => simp [PV.scal] at s
theorem intL_map : ∀ {ds : List D} {ns : List Int}, intL ds = some ns → ds = ns.map .int
  | [], _, h => by
    simp [intL] at h
    subst h
    rfl
  | .int i :: r, ns, h => by
    simp only [intL, Option.map_eq_some_iff] at h
    obtain ⟨m, h1, rfl⟩ := h
    rw [intL_map h1, List.map_cons]
  | .none :: _, _, h => by simp [intL] at h
  | .bool _ :: _, _, h => by simp [intL] at h
  | .str _ :: _, _, h => by simp [intL] at h
  | .list _ :: _, _, h => by simp [intL] at h
  | .tuple _ :: _, _, h => by simp [intL] at h
  | .dict _ :: _, _, h => by simp [intL] at h
theorem boolL_map : ∀ {ds : List D} {ns : List Bool}, boolL ds = some ns → ds = ns.map .bool
  | [], _, h => by
    simp [boolL] at h
    subst h
    rfl
  | .bool i :: r, ns, h => by
    simp only [boolL, Option.map_eq_some_iff] at h
    obtain ⟨m, h1, rfl⟩ := h
    rw [boolL_map h1, List.map_cons]
  | .none :: _, _, h => by simp [boolL] at h
  | .int _ :: _, _, h => by simp [boolL] at h
  | .str _ :: _, _, h => by simp [boolL] at h
  | .list _ :: _, _, h => by simp [boolL] at h
  | .tuple _ :: _, _, h => by simp [boolL] at h
  | .dict _ :: _, _, h => by simp [boolL] at h
theorem isL_ints : ∀ {ns : List Int} {vs : List V}, IsL K H (ns.map .int) vs → vs = ns.map .int
  | [], _, h => by simpa only [IsL, List.map_nil] using h
  | n :: r, _, h => by
    simp only [IsL, List.map_cons, Is] at h
    obtain ⟨v, w, rfl, rfl, t⟩ := h
    rw [isL_ints t, List.map_cons]
theorem isL_bools : ∀ {ns : List Bool} {vs : List V}, IsL K H (ns.map .bool) vs → vs = ns.map .bl
  | [], _, h => by simpa only [IsL, List.map_nil] using h
  | n :: r, _, h => by
    simp only [IsL, List.map_cons, Is] at h
    obtain ⟨v, w, rfl, rfl, t⟩ := h
    rw [isL_bools t, List.map_cons]
theorem ints_isL : ∀ ns : List Int, IsL K H (ns.map .int) (ns.map V.int)
  | [] => .nil
  | n :: r => .cons (by simp only [Is]) (ints_isL r)
mutual
theorem Is.dp : ∀ {d : D} {v : V}, d.canLay0 = true → Is K H d v → Dp K H v d
  | .none, _, _, h => by
    simp only [Is] at h
    subst h
    exact .non
  | .bool b, _, _, h => by
    simp only [Is] at h
    subst h
    exact .bl b
  | .int i, _, _, h => by
    simp only [Is] at h
    subst h
    exact .int i
  | .str x, _, _, h => by
    simp only [Is] at h
    subst h
    exact .str x
  | .list ds, _, c, h => by
    simp only [Is] at h
    obtain ⟨a, vs, rfl, h1, h2⟩ := h
    exact .lst h1.seq (IsL.dp (by simpa only [PyData.canLay0] using c) h2)
  | .tuple ds, _, c, h => by
    simp only [Is] at h
    obtain ⟨a, vs, rfl, h1, h2⟩ := h
    exact .tup h1 (IsL.dp (by simpa only [PyData.canLay0] using c) h2)
  | .dict _, _, c, _ => by simp [PyData.canLay0] at c
theorem IsL.dp : ∀ {ds : List D} {vs : List V}, PyData.canLayAll0 ds = true → IsL K H ds vs → DpAll K H vs ds
  | [], _, _, h => by
    simp only [IsL] at h
    subst h
    exact .nil
  | d :: ds, _, c, h => by
    simp only [IsL] at h
    obtain ⟨v, r, rfl, h1, h2⟩ := h
    simp only [PyData.canLayAll0, Bool.and_eq_true] at c
    exact .cons (Is.dp c.1 h1) (IsL.dp c.2 h2)
end
end

/-! ### more of the frozen part, more of the heap -/
structure Ext (F H F' H' : Hp) : Prop where
  f : Same F F'
  h : Same H H'
  s : Same F' H'
  n : ∀ p, F' p ≠ none → F p ≠ none ∨ H p = none
theorem Ext.refl {F H : Hp} (s : Same F H) : Ext F H F H := ⟨Same.refl _, Same.refl _, s, fun _ h => .inl h⟩
theorem Ext.trans {F H F1 H1 F2 H2 : Hp} (a : Ext F H F1 H1) (b : Ext F1 H1 F2 H2) : Ext F H F2 H2 :=
  ⟨a.f.trans b.f, a.h.trans b.h, b.s, fun p h => by
    rcases b.n p h with h | h
    · exact a.n p h
    · exact .inr (a.h.free h)⟩
theorem Ext.gone {F H F' H' : Hp} (e : Ext F H F' H') {p : Addr} (h : F p = none) (k : H p ≠ none) : F' p = none := by
  cases q : F' p with
  | none => rfl
  | some o =>
    rcases e.n p (by rw [q]; intro z; cases z) with z | z
    · exact absurd h z
    · exact absurd z k
theorem same_upd {H : Hp} {p : Addr} {o : HO} (h : H p = none) : Same H (upd H p o) := fun b u e => by
  rw [upd_ne (ne_of_none e h)]
  exact e
theorem same_updF {F H : Hp} {p : Addr} {o : HO} (s : Same F H) (h : H p = some o) : Same (upd F p o) H := fun b u e => by
  by_cases q : b = p
  · subst q
    rw [upd_same] at e
    cases e
    exact h
  · rw [upd_ne q] at e
    exact s _ _ e
/-- a new object, frozen at once -/
theorem Ext.new {F H : Hp} {p : Addr} {o : HO} (s : Same F H) (h : H p = none) : Ext F H (upd F p o) (upd H p o) :=
  ⟨same_upd (s.free h), same_upd h, fun b u e => by
    by_cases q : b = p
    · subst q
      rw [upd_same] at e ⊢
      exact e
    · rw [upd_ne q] at e ⊢
      exact s _ _ e, fun b e => by
    by_cases q : b = p
    · subst q
      exact .inr h
    · rw [upd_ne q] at e
      exact .inl e⟩
/-- a new object, not frozen -/
theorem Ext.new0 {F H : Hp} {p : Addr} {o : HO} (s : Same F H) (h : H p = none) : Ext F H F (upd H p o) :=
  ⟨Same.refl _, same_upd h, s.trans (same_upd h), fun _ e => .inl e⟩
def Root (K : PySem.W.Frag) (F H : Hp) (p : Addr) : D → Prop
  | .list ds => F p = none ∧ ∃ vs, H p = some (.lst vs) ∧ IsL K F ds vs
  | .dict kvs => F p = none ∧ ∃ es, H p = some (.dK es) ∧ IsK K F kvs es
  | _ => False
def Res (K : PySem.W.Frag) (H F' H' : Hp) (v : V) : TD → Prop
  | (.sh, d) => Is K F' d v
  | (.pk, d) => Is K H' d v
  | (.rt, d) => ∃ p, v = .ref p ∧ Root K F' H' p d
  | (.ow, d) => ∃ p, v = .ref p ∧ H p = none ∧ Root K F' H' p d
section
variable {K : PySem.W.Frag} {F H F' H' F2 H2 : Hp} {v : V} {p : Addr} {d : D} {x : TD}
theorem Root.fno (h : Root K F H p d) : F p = none := by
  cases d with
  | list _ => exact h.1
  | dict _ => exact h.1
  | _ => exact h.elim
theorem Root.hso (h : Root K F H p d) : H p ≠ none := by
  cases d with
  | list _ => obtain ⟨_, vs, e, _⟩ := h; rw [e]; intro z; cases z
  | dict _ => obtain ⟨_, vs, e, _⟩ := h; rw [e]; intro z; cases z
  | _ => exact h.elim
theorem Root.is (h : Root K F H p d) (s : Same F H) : Is K H d (.ref p) := by
  cases d with
  | list _ =>
    obtain ⟨_, vs, e, q⟩ := h
    simp only [Is]
    exact ⟨p, vs, rfl, .of e, q.mono s⟩
  | dict _ =>
    obtain ⟨_, vs, e, q⟩ := h
    simp only [Is]
    exact ⟨p, vs, rfl, e, q.mono s⟩
  | _ => exact h.elim
theorem Root.mono (h : Root K F H p d) (e : Ext F H F' H') : Root K F' H' p d := by
  have g := e.gone h.fno h.hso
  cases d with
  | list _ =>
    obtain ⟨_, vs, z, q⟩ := h
    exact ⟨g, vs, e.h _ _ z, q.mono e.f⟩
  | dict _ =>
    obtain ⟨_, vs, z, q⟩ := h
    exact ⟨g, vs, e.h _ _ z, q.mono e.f⟩
  | _ => exact h.elim
/-- a root frozen -/
theorem Root.freeze (h : Root K F H p d) (s : Same F H) : ∃ o, H p = some o ∧ Same F (upd F p o) ∧ Same (upd F p o) H ∧ Is K (upd F p o) d (.ref p) := by
  cases d with
  | list _ =>
    obtain ⟨n, vs, e, q⟩ := h
    refine ⟨_, e, same_upd n, same_updF s e, ?_⟩
    simp only [Is]
    exact ⟨p, vs, rfl, .of upd_same, q.mono (same_upd n)⟩
  | dict _ =>
    obtain ⟨n, vs, e, q⟩ := h
    refine ⟨_, e, same_upd n, same_updF s e, ?_⟩
    simp only [Is]
    exact ⟨p, vs, rfl, upd_same, q.mono (same_upd n)⟩
  | _ => exact h.elim
theorem Res.is (h : Res K H F' H' v x) (s : Same F' H') : Is K H' x.2 v := by
  obtain ⟨t, d⟩ := x
  cases t with
  | sh => exact Is.mono s h
  | pk => exact h
  | rt => obtain ⟨p, rfl, q⟩ := h; exact q.is s
  | ow => obtain ⟨p, rfl, _, q⟩ := h; exact q.is s
theorem Res.mono (h : Res K H F' H' v x) (e : Ext F' H' F2 H2) : Res K H F2 H2 v x := by
  obtain ⟨t, d⟩ := x
  cases t with
  | sh => exact Is.mono e.f h
  | pk => exact Is.mono e.h h
  | rt => obtain ⟨p, rfl, q⟩ := h; exact ⟨p, rfl, q.mono e⟩
  | ow => obtain ⟨p, rfl, n, q⟩ := h; exact ⟨p, rfl, n, q.mono e⟩
theorem Res.back {H0 : Hp} (s : Same H0 H) (h : Res K H F' H' v x) : Res K H0 F' H' v x := by
  obtain ⟨t, d⟩ := x
  cases t with
  | ow => obtain ⟨p, rfl, n, q⟩ := h; exact ⟨p, rfl, s.free n, q⟩
  | _ => exact h
theorem Res.nt (h : Res K H F' H' v x) (s : Same F' H') : Res K H F' H' v (nt x.1 x.2, x.2) := by
  unfold PV.nt
  by_cases c : scal x.2 = true
  · rw [if_pos c]
    exact (h.is s).scal c
  · rw [if_neg c]
    exact h
/-- where the items of a list or tuple stand -/
def hp (t : Tag) (F H : Hp) : Hp := match t with | .sh => F | _ => H
theorem Res.list {t : Tag} {ds : List D} (h : Res K H F' H' v (t, .list ds)) (s : Same F' H') : ∃ a vs, v = .ref a ∧ LL K H' a vs ∧ IsL K (hp t.kid F' H') ds vs := by
  cases t with
  | sh =>
    obtain ⟨a, vs, rfl, q, u⟩ := (by simpa only [Res, Is] using h : ∃ a vs, v = .ref a ∧ LL K F' a vs ∧ IsL K F' ds vs)
    exact ⟨a, vs, rfl, q.mono s, u⟩
  | pk =>
    obtain ⟨a, vs, rfl, q, u⟩ := (by simpa only [Res, Is] using h : ∃ a vs, v = .ref a ∧ LL K H' a vs ∧ IsL K H' ds vs)
    exact ⟨a, vs, rfl, q, u⟩
  | rt => obtain ⟨p, rfl, _, vs, e, q⟩ := h; exact ⟨p, vs, rfl, .of e, q⟩
  | ow => obtain ⟨p, rfl, _, _, vs, e, q⟩ := h; exact ⟨p, vs, rfl, .of e, q⟩
theorem Res.tuple {t : Tag} {ds : List D} (h : Res K H F' H' v (t, .tuple ds)) (s : Same F' H') : ∃ a vs, v = .ref a ∧ SqT K H' a vs ∧ IsL K (hp t.kid F' H') ds vs := by
  cases t with
  | sh =>
    obtain ⟨a, vs, rfl, q, u⟩ := (by simpa only [Res, Is] using h : ∃ a vs, v = .ref a ∧ SqT K F' a vs ∧ IsL K F' ds vs)
    exact ⟨a, vs, rfl, sqT_mono s q, u⟩
  | pk =>
    obtain ⟨a, vs, rfl, q, u⟩ := (by simpa only [Res, Is] using h : ∃ a vs, v = .ref a ∧ SqT K H' a vs ∧ IsL K H' ds vs)
    exact ⟨a, vs, rfl, q, u⟩
  | rt => obtain ⟨p, rfl, z⟩ := h; exact z.elim
  | ow => obtain ⟨p, rfl, _, z⟩ := h; exact z.elim
theorem hp_same {t : Tag} (s : Same F' H') : Same (hp t F' H') H' := by
  cases t <;> first | exact s | exact Same.refl _
theorem Res.of_hp {t : Tag} (h : Is K (hp t.kid F' H') d v) : Res K H F' H' v (t.kid, d) := by
  cases t <;> exact h
/-- an argument, an item: a new root is frozen -/
theorem Res.dm (e : Ext F H F' H') (h : Res K H F' H' v x) : ∃ F2, Ext F H F2 H' ∧ Same F' F2 ∧ (∀ p, F2 p ≠ none → F' p ≠ none ∨ H p = none) ∧ Res K H F2 H' v (x.1.dm, x.2) := by
  obtain ⟨t, d⟩ := x
  cases t with
  | sh => exact ⟨F', e, Same.refl _, fun _ z => .inl z, h⟩
  | pk => exact ⟨F', e, Same.refl _, fun _ z => .inl z, h⟩
  | rt => obtain ⟨p, rfl, q⟩ := h; exact ⟨F', e, Same.refl _, fun _ z => .inl z, q.is e.s⟩
  | ow =>
    obtain ⟨p, rfl, n, q⟩ := h
    obtain ⟨o, e1, e2, e3, e4⟩ := q.freeze e.s
    refine ⟨upd F' p o, ⟨e.f.trans e2, e.h, e3, fun b z => ?_⟩, e2, fun b z => ?_, e4⟩
    · by_cases c : b = p
      · subst c
        exact .inr n
      · rw [upd_ne c] at z
        exact e.n b z
    · by_cases c : b = p
      · subst c
        exact .inr n
      · rw [upd_ne c] at z
        exact .inl z
end

/-! ### the slots -/
def SlotOk (K : PySem.W.Frag) (F H : Hp) (o : Option (Option V)) : Slot → Prop
  | .no => True
  | .sh d => ∃ v, o = some (some v) ∧ Is K F d v
  | .ow d => ∃ p, o = some (some (.ref p)) ∧ Root K F H p d
structure Rel (K : PySem.W.Frag) (F H : Hp) (σ : L2.St) (env : Env) : Prop where
  sub : Same F H
  len : env.length = σ.length
  slot : ∀ (i : Nat) (s : Slot), env[i]? = some s → SlotOk K F H (σ[i]?) s
  dis : ∀ (i j : Nat) (d e : D) (p : Addr), env[i]? = some (.ow d) → env[j]? = some (.ow e) → σ[i]? = some (some (.ref p)) → σ[j]? = some (some (.ref p)) → i = j
section
variable {K : PySem.W.Frag} {F H F' H' : Hp} {σ : L2.St} {env : Env}
theorem Rel.ext (r : Rel K F H σ env) (e : Ext F H F' H') : Rel K F' H' σ env :=
  ⟨e.s, r.len, fun i s h => by
    have q := r.slot i s h
    cases s with
    | no => trivial
    | sh d => obtain ⟨v, z, y⟩ := q; exact ⟨v, z, y.mono e.f⟩
    | ow d => obtain ⟨v, z, y⟩ := q; exact ⟨v, z, y.mono e⟩, r.dis⟩
/-- an own slot's place is in the heap -/
theorem Rel.own (r : Rel K F H σ env) {i : Nat} {d : D} (h : env[i]? = some (.ow d)) : ∃ p, σ[i]? = some (some (.ref p)) ∧ Root K F H p d := r.slot i _ h
theorem Rel.set (r : Rel K F H σ env) {i : Nat} {v : V} {d : D} (h : Is K F d v) : Rel K F H (σ.set i (some v)) (env.set i (.sh d)) := by
  by_cases hi : i < σ.length
  case neg =>
    rw [List.set_eq_of_length_le (by omega), List.set_eq_of_length_le (by rw [r.len]; omega)]
    exact r
  refine ⟨r.sub, by rw [List.length_set, List.length_set]; exact r.len, fun j s hj => ?_, fun j k d' e p h1 h2 h3 h4 => ?_⟩
  · by_cases c : i = j
    · subst c
      rw [List.getElem?_set_self hi]
      have hl : i < env.length := by
        have := (List.getElem?_eq_some_iff.mp hj).1
        rwa [List.length_set] at this
      rw [List.getElem?_set_self hl] at hj
      cases hj
      exact ⟨v, rfl, h⟩
    · rw [List.getElem?_set_ne c] at hj ⊢
      exact r.slot j s hj
  · by_cases c : i = j
    · subst c
      have hl : i < env.length := by
        have := (List.getElem?_eq_some_iff.mp h1).1
        rwa [List.length_set] at this
      rw [List.getElem?_set_self hl] at h1
      cases h1
    · by_cases c2 : i = k
      · subst c2
        have hl : i < env.length := by
          have := (List.getElem?_eq_some_iff.mp h2).1
          rwa [List.length_set] at this
        rw [List.getElem?_set_self hl] at h2
        cases h2
      · rw [List.getElem?_set_ne c] at h1 h3
        rw [List.getElem?_set_ne c2] at h2 h4
        exact r.dis j k d' e p h1 h2 h3 h4
/-- an own root stored that no own slot holds -/
theorem Rel.setO (r : Rel K F H σ env) {i : Nat} {p : Addr} {d : D} (h : Root K F H p d) (nw : ∀ (j : Nat) (e : D), env[j]? = some (.ow e) → σ[j]? ≠ some (some (.ref p))) : Rel K F H (σ.set i (some (.ref p))) (env.set i (.ow d)) := by
  by_cases hi : i < σ.length
  case neg =>
    rw [List.set_eq_of_length_le (by omega), List.set_eq_of_length_le (by rw [r.len]; omega)]
    exact r
  refine ⟨r.sub, by rw [List.length_set, List.length_set]; exact r.len, fun j s hj => ?_, fun j k d' e q h1 h2 h3 h4 => ?_⟩
  · by_cases c : i = j
    · subst c
      rw [List.getElem?_set_self hi]
      have hl : i < env.length := by
        have := (List.getElem?_eq_some_iff.mp hj).1
        rwa [List.length_set] at this
      rw [List.getElem?_set_self hl] at hj
      cases hj
      exact ⟨p, rfl, h⟩
    · rw [List.getElem?_set_ne c] at hj ⊢
      exact r.slot j s hj
  · by_cases c : i = j
    · by_cases c2 : i = k
      · exact c.symm.trans c2
      · subst c
        rw [List.getElem?_set_self hi] at h3
        rw [List.getElem?_set_ne c2] at h2 h4
        cases h3
        exact absurd h4 (nw k e h2)
    · by_cases c2 : i = k
      · subst c2
        rw [List.getElem?_set_self hi] at h4
        rw [List.getElem?_set_ne c] at h1 h3
        cases h4
        exact absurd h3 (nw j d' h1)
      · rw [List.getElem?_set_ne c] at h1 h3
        rw [List.getElem?_set_ne c2] at h2 h4
        exact r.dis j k d' e q h1 h2 h3 h4
/-- the own list in slot i is written -/
theorem Rel.write (r : Rel K F H σ env) {i : Nat} {p : Addr} {d d' : D} {o : HO} (h : env[i]? = some (.ow d)) (hp : σ[i]? = some (some (.ref p))) (hr : Root K F H p d) (n : Root K F (upd H p o) p d') :
    Rel K F (upd H p o) σ (env.set i (.ow d')) := by
  have sub : Same F (upd H p o) := fun b u e => by
    have c : b ≠ p := fun z => by
      subst z
      rw [hr.fno] at e
      cases e
    rw [upd_ne c]
    exact r.sub _ _ e
  refine ⟨sub, by rw [List.length_set]; exact r.len, fun j s hj => ?_, fun j k d1 e q h1 h2 h3 h4 => ?_⟩
  · by_cases c : i = j
    · subst c
      have hl : i < env.length := (List.getElem?_eq_some_iff.mp h).1
      rw [List.getElem?_set_self hl] at hj
      cases hj
      exact ⟨p, hp, n⟩
    · rw [List.getElem?_set_ne c] at hj
      have q := r.slot j s hj
      cases s with
      | no => trivial
      | sh d => exact q
      | ow d2 =>
        obtain ⟨w, z, y⟩ := q
        have c2 : w ≠ p := fun e => c (r.dis i j d d2 p h hj hp (by rw [← e]; exact z))
        refine ⟨w, z, ?_⟩
        cases d2 with
        | list _ => obtain ⟨a1, vs, a2, a3⟩ := y; exact ⟨a1, vs, by rw [upd_ne c2]; exact a2, a3⟩
        | dict _ => obtain ⟨a1, vs, a2, a3⟩ := y; exact ⟨a1, vs, by rw [upd_ne c2]; exact a2, a3⟩
        | _ => exact y.elim
  · have back : ∀ (j : Nat) (d1 : D), (env.set i (.ow d'))[j]? = some (.ow d1) → ∃ d2, env[j]? = some (.ow d2) := fun j d1 hj => by
      by_cases c : i = j
      · subst c
        exact ⟨d, h⟩
      · rw [List.getElem?_set_ne c] at hj
        exact ⟨d1, hj⟩
    obtain ⟨a, ha⟩ := back j d1 h1
    obtain ⟨b, hb⟩ := back k e h2
    exact r.dis j k a b q ha hb h3 h4
/-- slots forgotten -/
theorem wipeE_get {env : Env} {i : Nat} : ∀ {vs : List Nat} {s : Slot}, (wipeE env vs)[i]? = some s → s = .no ∨ (i ∉ vs ∧ env[i]? = some s)
  | [], s, h => .inr ⟨by simp, h⟩
  | v :: vs, s, h => by
    unfold wipeE at h
    by_cases c : v = i
    · subst c
      have hl : v < (wipeE env vs).length := by
        have := (List.getElem?_eq_some_iff.mp h).1
        rwa [List.length_set] at this
      rw [List.getElem?_set_self hl] at h
      cases h
      exact .inl rfl
    · rw [List.getElem?_set_ne c] at h
      rcases wipeE_get h with q | ⟨q1, q2⟩
      · exact .inl q
      · exact .inr ⟨by simp only [List.mem_cons, not_or]; exact ⟨fun z => c z.symm, q1⟩, q2⟩
theorem wipeE_len {env : Env} : ∀ {vs : List Nat}, (wipeE env vs).length = env.length
  | [] => rfl
  | v :: vs => by
    unfold wipeE
    rw [List.length_set, wipeE_len]
theorem wipe_at {σ : L2.St} {i : Nat} : ∀ {vs : List Nat}, i ∉ vs → (wipe σ vs)[i]? = σ[i]?
  | [], _ => rfl
  | v :: vs, h => by
    unfold wipe
    simp only [List.mem_cons, not_or] at h
    rw [List.getElem?_set_ne (fun z => h.1 z.symm)]
    exact wipe_at h.2
theorem Rel.wipe (r : Rel K F H σ env) (vs : List Nat) : Rel K F H (L2.wipe σ vs) (wipeE env vs) := by
  refine ⟨r.sub, by rw [wipeE_len, wipe_length]; exact r.len, fun i s h => ?_, fun i j d e p h1 h2 h3 h4 => ?_⟩
  · rcases wipeE_get h with q | ⟨q1, q2⟩
    · subst q
      trivial
    · rw [wipe_at q1]
      exact r.slot i s q2
  · rcases wipeE_get h1 with q | ⟨q1, q2⟩
    · cases q
    · rcases wipeE_get h2 with z | ⟨z1, z2⟩
      · cases z
      · rw [wipe_at q1] at h3
        rw [wipe_at z1] at h4
        exact r.dis i j d e p q2 z2 h3 h4
/-- an own slot frozen -/
theorem Rel.freeze (r : Rel K F H σ env) {i : Nat} {d : D} (h : env[i]? = some (.ow d)) : ∃ p o, σ[i]? = some (some (.ref p)) ∧ F p = none ∧ Same F (upd F p o) ∧ Same (upd F p o) H ∧ Rel K (upd F p o) H σ (env.set i (.sh d)) := by
  obtain ⟨p, hp, hr⟩ := r.own h
  obtain ⟨o, e1, e2, e3, e4⟩ := hr.freeze r.sub
  have hl : i < env.length := (List.getElem?_eq_some_iff.mp h).1
  refine ⟨p, o, hp, hr.fno, e2, e3, e3, by rw [List.length_set]; exact r.len, fun j s hj => ?_, fun j k d1 e q h1 h2 h3 h4 => ?_⟩
  · by_cases c : i = j
    · subst c
      rw [List.getElem?_set_self hl] at hj
      cases hj
      exact ⟨_, hp, e4⟩
    · rw [List.getElem?_set_ne c] at hj
      have q := r.slot j s hj
      cases s with
      | no => trivial
      | sh d => obtain ⟨v, z, y⟩ := q; exact ⟨v, z, y.mono e2⟩
      | ow d2 =>
        obtain ⟨w, z, y⟩ := q
        have c2 : w ≠ p := fun e => c (r.dis i j d d2 p h hj hp (by rw [← e]; exact z))
        refine ⟨w, z, ?_⟩
        cases d2 with
        | list _ => obtain ⟨a1, vs, a2, a3⟩ := y; exact ⟨by rw [upd_ne c2]; exact a1, vs, a2, a3.mono e2⟩
        | dict _ => obtain ⟨a1, vs, a2, a3⟩ := y; exact ⟨by rw [upd_ne c2]; exact a1, vs, a2, a3.mono e2⟩
        | _ => exact y.elim
  · have back : ∀ (j : Nat) (d1 : D), (env.set i (.sh d))[j]? = some (.ow d1) → env[j]? = some (.ow d1) := fun j d1 hj => by
      by_cases c : i = j
      · subst c
        rw [List.getElem?_set_self hl] at hj
        cases hj
      · rw [List.getElem?_set_ne c] at hj
        exact hj
    exact r.dis j k d1 e q (back _ _ h1) (back _ _ h2) h3 h4
end

/-! ### a def's promise -/
/-- the arguments bear the data ds; the answer is what g says of them -/
def spD (K : PySem.W.Frag) (cref : Str → Value) (k : Nat) (g : List D → R (Bool × D)) : Sp := fun vs H Q E => vs.length = k ∧ ∃ F ds, Same F H ∧ IsL K F ds vs ∧ match g ds with
  | .ok (o, d) => ∀ v F' H', Ext F H F' H' → Res K H F' H' v (if o then .ow else .sh, d) → Q v H'
  | .exc c => ∀ F' H', Ext F H F' H' → E (cref c) none H'
  | .stuck => False
end PV

/-! PvOps: each operation of the language by the layer's rule. -/
namespace PV
open PySem PySem.Spec PyProof.Rows L2

/-! ### behind a reckoning -/
def Aft {α : Type} (F H : Hp) (W : Str → Hp → Prop) (r : R α) (P : α → Hp → Hp → Prop) : Prop := match r with
  | .ok a => ∀ F' H', Ext F H F' H' → P a F' H'
  | .exc c => ∀ F' H', Ext F H F' H' → W c H'
  | .stuck => False
theorem Aft.bind {α β : Type} {F H : Hp} {W : Str → Hp → Prop} {r : R α} {f : α → R β} {P : β → Hp → Hp → Prop} (h : Aft F H W (r.bind f) P) :
    Aft F H W r fun a F1 H1 => Aft F1 H1 W (f a) P := by
  cases r with
  | ok a =>
    intro F1 H1 e
    have h' : Aft F H W (f a) P := h
    cases q : f a with
    | ok b =>
      rw [q] at h'
      exact fun F2 H2 e2 => h' F2 H2 (e.trans e2)
    | exc c =>
      rw [q] at h'
      exact fun F2 H2 e2 => h' F2 H2 (e.trans e2)
    | stuck =>
      rw [q] at h'
      exact h'
  | exc c => exact h
  | stuck => exact h
theorem Aft.imp {α : Type} {F H : Hp} {W : Str → Hp → Prop} {r : R α} {P P' : α → Hp → Hp → Prop} (h : Aft F H W r P) (k : ∀ a F' H', r = .ok a → Ext F H F' H' → P a F' H' → P' a F' H') : Aft F H W r P' := by
  cases r with
  | ok a => exact fun F' H' e => k a F' H' rfl e (h F' H' e)
  | exc c => exact h
  | stuck => exact h
theorem Aft.at {α : Type} {F H F1 H1 : Hp} {W : Str → Hp → Prop} {r : R α} {P : α → Hp → Hp → Prop} (h : Aft F H W r P) (e : Ext F H F1 H1) : Aft F1 H1 W r P := by
  cases r with
  | ok a => exact fun F' H' z => h F' H' (e.trans z)
  | exc c => exact fun F' H' z => h F' H' (e.trans z)
  | stuck => exact h

/-! ### what an operation asks and gives, over any heap that bears its operands -/
abbrev H0 : Hp := fun _ => none
theorem same0 {H : Hp} : Same H0 H := fun _ _ h => by cases h
/-- the wish: whatever bears the answer -/
def Give (K : PySem.W.Frag) (F H : Hp) (r : R TD) (Q : VK) : Prop := match r with
  | .ok x => ∀ v F' H', Ext F H F' H' → Res K H F' H' v x → Q v H'
  | _ => False
def rBin (K : PySem.W.Frag) (o : Bop) : R2 := fun x y H Q => ∃ F a b, Same F H ∧ Res K H0 F H x a ∧ Res K H0 F H y b ∧ Give K F H (evBin o a b) Q
def rCmp (K : PySem.W.Frag) (o : Cop) : R2 := fun x y H Q => ∃ d e b, Is K H d x ∧ Is K H e y ∧ evCmp o d e = .ok b ∧ Q (.bl b) H
def rIxD (K : PySem.W.Frag) : R2 := fun x y H Q => ∃ F a d, Same F H ∧ Res K H0 F H x a ∧ Is K H d y ∧ Give K F H (evIx a d) Q
def rNeg (K : PySem.W.Frag) : V → Hp → VK → Prop := fun x H Q => ∃ F d, Same F H ∧ Is K H d x ∧ Give K F H (evNeg d) Q
def rSlD (K : PySem.W.Frag) : V → Option Int → Option Int → Hp → VK → Prop := fun x lo hi H Q => ∃ F a, Same F H ∧ Res K H0 F H x a ∧ Give K F H (evSl a lo hi) Q
theorem Give.of {K : PySem.W.Frag} {F H : Hp} {Q : VK} {d : D} {v : V} (s : Same F H) (h : Give K F H (ok1 d) Q) (i : Is K F d v) : Q v H := h v F H (Ext.refl s) i
theorem Give.guard {K : PySem.W.Frag} {F H : Hp} {Q : VK} {b : Bool} {r : R TD} (h : Give K F H (guard b r) Q) : b = true ∧ Give K F H r Q := by
  unfold PV.guard at h
  cases b with
  | true => exact ⟨rfl, h⟩
  | false => exact h.elim
section
variable {X : Cx} {K : PySem.W.Frag}
theorem OpR.imp {f : Value → Value → Sem Value} {r r' : R2} (h : OpR X f r) (k : ∀ x y H Q, r' x y H Q → r x y H Q) : OpR X f r' :=
  fun pins s σ H x y v u Q I rx ry q => h pins s σ H x y v u Q I rx ry (k x y H Q q)
theorem UnR.imp {f : Value → Sem Value} {r r' : V → Hp → VK → Prop} (h : UnR X f r) (k : ∀ x H Q, r' x H Q → r x H Q) : UnR X f r' :=
  fun pins s σ H x v Q I rx q => h pins s σ H x v Q I rx (k x H Q q)
theorem IxR.imp {r r' : R2} (h : IxR X r) (k : ∀ x y H Q, r' x y H Q → r x y H Q) : IxR X r' :=
  fun value slice pins s σ H x y v u Q I rx ry q hs => h value slice pins s σ H x y v u Q I rx ry (k x y H Q q) hs
theorem SlR.imp {r r' : V → Option Int → Option Int → Hp → VK → Prop} (h : SlR X r) (k : ∀ x l u H Q, r' x l u H Q → r x l u H Q) : SlR X r' :=
  fun pins s σ H x v vl vu lo hi sl Q I rx hs pl pu q => h pins s σ H x v vl vu lo hi sl Q I rx hs pl pu (k x lo hi H Q q)
theorem CallR.imp {f : Value} {r r' : List V → Hp → VK → Prop} (h : CallR X f r) (k : ∀ xs H Q, r' xs H Q → r xs H Q) : CallR X f r' :=
  fun pins s σ H xs us Q I rx q => h pins s σ H xs us Q I rx (k xs H Q q)
theorem OpR.none {f : Value → Value → Sem Value} {r : R2} (h : ∀ x y H Q, ¬ r x y H Q) : OpR X f r := fun pins s σ H x y v u Q I rx ry q => absurd q (h x y H Q)
theorem lim_le : lim ≤ sizeLine := by
  rw [sizeLine_eq]
  decide
theorem is_int {H : Hp} {i : Int} {v : V} (h : Is K H (.int i) v) : v = .int i := by simpa only [Is] using h
theorem is_bool {H : Hp} {i : Bool} {v : V} (h : Is K H (.bool i) v) : v = .bl i := by simpa only [Is] using h
theorem is_str {H : Hp} {i : Str} {v : V} (h : Is K H (.str i) v) : v = .str i := by simpa only [Is] using h
theorem is_none {H : Hp} {v : V} (h : Is K H .none v) : v = .non := by simpa only [Is] using h
theorem int_is {H : Hp} {i : Int} : Is K H (.int i) (.int i) := by simp only [Is]
theorem bool_is {H : Hp} {i : Bool} : Is K H (.bool i) (.bl i) := by simp only [Is]
theorem str_is {H : Hp} {i : Str} : Is K H (.str i) (.str i) := by simp only [Is]
theorem Res.int {H1 F H : Hp} {t : Tag} {i : Int} {v : V} (h : Res K H1 F H v (t, .int i)) (s : Same F H) : v = .int i := is_int (h.is s)
theorem Res.str {H1 F H : Hp} {t : Tag} {i : Str} {v : V} (h : Res K H1 F H v (t, .str i)) (s : Same F H) : v = .str i := is_str (h.is s)

/-! ### list + list, list * int: over anything that bears a list -/
def rCatL (K : PySem.W.Frag) : R2 := fun x y H Q => ∃ l b xs zs, x = .ref l ∧ y = .ref b ∧ LL K H l xs ∧ LL K H b zs ∧ xs.length + zs.length ≤ sizeLine ∧ ∀ p, H p = none → Q (.ref p) (upd H p (.lst (xs ++ zs)))
theorem LL.obj {pins : List (Addr × Obj)} {σ : L2.St} {H : Hp} {s : Shared} {l : Addr} {xs : List V} (I : Inv X pins σ H s) (h : LL X.K H l xs) :
    ∃ (its : List Value) (n : Nat), Vals xs its ∧ s.heap.get? l = some { cls := .type "list", data := .seq its.toArray n } := by
  rcases h with h | ⟨its, n, h1, h2, h3⟩
  · obtain ⟨z, its, n, r, e⟩ := h.ok I.hok
    exact ⟨its, n, r, e⟩
  · exact ⟨its, n, h2, I.kIn l _ h1⟩
theorem op_catL : OpR X (binaryOp .Add) (rCatL X.K) := by
  intro pins s σ H x y v u Q I rx ry h
  obtain ⟨l, b, xs, zs, rfl, rfl, hH, hB, hz, q⟩ := h
  cases rx
  cases ry
  obtain ⟨its, n, r, e⟩ := hH.obj I
  obtain ⟨its2, n2, r2, e2⟩ := hB.obj I
  have l1 := r.length
  have l2 := r2.length
  refine PySem.P.add_list e e2 ?_ (by rw [List.size_toArray, List.size_toArray]; omega)
  rw [show its.toArray ++ its2.toArray = (its ++ its2).toArray by simp]
  exact ⟨.ref _, _, I.lnew (t' := s.toks) (r.append r2) (by rw [List.length_append]; omega), rfl, q _ I.fresh⟩
theorem hp_le {t u : Tag} {F H : Hp} (s : Same F H) : Same (hp t F H) (hp (t.jn u) F H) := by
  cases t <;> cases u <;> first | exact Same.refl _ | exact s
theorem hp_le2 {t u : Tag} {F H : Hp} (s : Same F H) : Same (hp u F H) (hp (t.jn u) F H) := by
  cases t <;> cases u <;> first | exact Same.refl _ | exact s
theorem kid_kid (t : Tag) : t.kid.kid = t.kid := by cases t <;> rfl
/-- a new list of such items -/
theorem new_list {F H : Hp} {t : Tag} {ds : List D} {vs : List V} {Q : VK} (ht : t = .sh ∨ t = .pk) (s : Same F H) (h : IsL K (hp t F H) ds vs) (g : Give K F H (.ok (t.root, .list ds)) Q) :
    ∀ p, H p = none → Q (.ref p) (upd H p (.lst vs)) := fun p np => by
  refine g (.ref p) F _ (Ext.new0 s np) ?_
  rcases ht with rfl | rfl
  · exact ⟨p, rfl, np, s.free np, vs, upd_same, h⟩
  · show Is K (upd H p (.lst vs)) (.list ds) (.ref p)
    simp only [Is]
    exact ⟨p, vs, rfl, .of upd_same, h.mono (same_upd np)⟩
theorem kid_cases (t : Tag) : t.kid = .sh ∨ t.kid = .pk := by cases t <;> first | exact .inl rfl | exact .inr rfl
theorem jn_cases (t u : Tag) : t.jn u = .sh ∨ t.jn u = .pk := by cases t <;> cases u <;> first | exact .inl rfl | exact .inr rfl
theorem res_root {H1 F H : Hp} {t : Tag} {ds : List D} {v : V} (h : Res K H1 F H v (t, .list ds)) (c : isRt t = true) : ∃ p vs, v = .ref p ∧ H p = some (.lst vs) ∧ IsL K F ds vs := by
  cases t with
  | rt => obtain ⟨p, rfl, _, vs, e, q⟩ := h; exact ⟨p, vs, rfl, e, q⟩
  | ow => obtain ⟨p, rfl, _, _, vs, e, q⟩ := h; exact ⟨p, vs, rfl, e, q⟩
  | _ => cases c
theorem of_kid {H1 F H : Hp} {t : Tag} {d : D} {v : V} (h : Is K (hp t.kid F H) d v) : Res K H1 F H v (t.kid, d) := by
  cases t <;> exact h
theorem bits_le {i : Int} (h : i.natAbs < 2 ^ 4000) : Builtin.Int.intBits i ≤ 4000 := by
  unfold Builtin.Int.intBits
  split
  · exact Nat.zero_le _
  · rename_i c
    have h0 : i.natAbs ≠ 0 := fun z => c (by simpa using z)
    have := (Nat.log2_lt h0).mpr h
    omega
theorem mulOk_fits {i j : Int} (h : mulOk i j = true) : IntMulOk i j := by
  simp only [mulOk, Bool.or_eq_true, Bool.and_eq_true, decide_eq_true_eq] at h
  rcases h with (⟨h1, h2⟩ | h) | h
  · unfold IntMulOk
    intro z
    simp only [Bool.and_eq_true] at z
    have h3 := z.2
    unfold Builtin.Int.intTooBig at h3
    have h4 := of_decide_eq_true h3
    have a := bits_le h1
    have b := bits_le h2
    have c : (bitsLine : Int) = 134217728 := by decide +kernel
    rw [c] at h4
    omega
  · exact CMul.ok (.inl h)
  · exact CMul.ok (.inr h)
theorem op_mulB : OpR X (binaryOp .Mult) (rI IntMulOk fun i j => .int (i * j)) := opI fun _ _ _ _ _ _ _ hc q => mul_int q hc
theorem op_bin (o : Bop) : OpR X (binaryOp (bopE o)) (rBin X.K o) := by
  cases o with
  | add =>
    refine OpR.imp (OpR.or op_add (OpR.or op_catL op_add_str)) fun x y H Q h => ?_
    obtain ⟨F, ⟨s, a⟩, ⟨t, b⟩, sm, ra, rb, g⟩ := h
    cases a with
    | int i =>
      cases b with
      | int j => exact .inl ⟨i, j, ra.int sm, rb.int sm, g.of sm int_is⟩
      | _ => exact g.elim
    | str i =>
      cases b with
      | str j =>
        obtain ⟨g1, g2⟩ := g.guard
        exact .inr (.inr ⟨i, j, ra.str sm, rb.str sm, Nat.le_trans (of_decide_eq_true g1) lim_le, g2.of sm str_is⟩)
      | _ => exact g.elim
    | list xs =>
      cases b with
      | list ys =>
        obtain ⟨g1, g2⟩ := g.guard
        obtain ⟨l, vs, rfl, h1, h2⟩ := ra.list sm
        obtain ⟨m, ws, rfl, h3, h4⟩ := rb.list sm
        refine .inr (.inl ⟨l, m, vs, ws, rfl, rfl, h1, h3, ?_, new_list (jn_cases _ _) sm ((h2.mono (hp_le sm)).app (h4.mono (hp_le2 sm))) g2⟩)
        rw [h2.len, h4.len]
        exact Nat.le_trans (of_decide_eq_true g1) lim_le
      | _ => exact g.elim
    | _ => exact g.elim
  | sub =>
    refine OpR.imp op_sub fun x y H Q h => ?_
    obtain ⟨F, ⟨s, a⟩, ⟨t, b⟩, sm, ra, rb, g⟩ := h
    cases a with
    | int i =>
      cases b with
      | int j => exact ⟨i, j, ra.int sm, rb.int sm, g.of sm int_is⟩
      | _ => exact g.elim
    | _ => exact g.elim
  | mul =>
    refine OpR.imp (OpR.or op_mulB op_rep) fun x y H Q h => ?_
    obtain ⟨F, ⟨s, a⟩, ⟨t, b⟩, sm, ra, rb, g⟩ := h
    cases a with
    | list xs =>
      cases b with
      | int k =>
        obtain ⟨g1, g2⟩ := g.guard
        simp only [Bool.and_eq_true, decide_eq_true_eq] at g1
        obtain ⟨⟨⟨q0, q1⟩, q2⟩, q3⟩ := g1
        obtain ⟨p, vs, rfl, hv, hL⟩ := res_root ra q0
        have h62 : (lim : Int) < 2 ^ 63 := by decide
        refine .inr ⟨p, k, vs, rfl, rb.int sm, hv, by omega, by omega, by rw [hL.len]; exact Nat.le_trans q3 lim_le, ?_⟩
        exact new_list (t := .sh) (.inl rfl) sm (hL.rep k.toNat) g2
      | _ => exact g.elim
    | int i =>
      cases b with
      | int j =>
        obtain ⟨g1, g2⟩ := g.guard
        refine .inl ⟨i, j, ra.int sm, rb.int sm, ?_, g2.of sm int_is⟩
        exact mulOk_fits g1
      | _ => exact g.elim
    | _ => exact g.elim
  | fdv =>
    refine OpR.imp op_fdiv fun x y H Q h => ?_
    obtain ⟨F, ⟨s, a⟩, ⟨t, b⟩, sm, ra, rb, g⟩ := h
    cases a with
    | int i =>
      cases b with
      | int j =>
        obtain ⟨g1, g2⟩ := g.guard
        simp only [Bool.and_eq_true, decide_eq_true_eq] at g1
        exact ⟨i, j, ra.int sm, rb.int sm, g1, g2.of sm int_is⟩
      | _ => exact g.elim
    | _ => exact g.elim
  | mod =>
    refine OpR.imp op_mod fun x y H Q h => ?_
    obtain ⟨F, ⟨s, a⟩, ⟨t, b⟩, sm, ra, rb, g⟩ := h
    cases a with
    | int i =>
      cases b with
      | int j =>
        obtain ⟨g1, g2⟩ := g.guard
        exact ⟨i, j, ra.int sm, rb.int sm, of_decide_eq_true g1, g2.of sm int_is⟩
      | _ => exact g.elim
    | _ => exact g.elim
  | pow =>
    refine OpR.imp op_pow fun x y H Q h => ?_
    obtain ⟨F, ⟨s, a⟩, ⟨t, b⟩, sm, ra, rb, g⟩ := h
    cases a with
    | int i =>
      cases b with
      | int j =>
        obtain ⟨g1, g2⟩ := g.guard
        simp only [powOk, Bool.and_eq_true, decide_eq_true_eq] at g1
        exact ⟨i, j, ra.int sm, rb.int sm, ⟨g1.1.1, g1.1.2, g1.2⟩, g2.of sm int_is⟩
      | _ => exact g.elim
    | _ => exact g.elim
  | shl =>
    refine OpR.imp op_shl fun x y H Q h => ?_
    obtain ⟨F, ⟨s, a⟩, ⟨t, b⟩, sm, ra, rb, g⟩ := h
    cases a with
    | int i =>
      cases b with
      | int j =>
        obtain ⟨g1, g2⟩ := g.guard
        simp only [powOk, Bool.and_eq_true, decide_eq_true_eq] at g1
        exact ⟨i, j, ra.int sm, rb.int sm, ⟨g1.1.1, g1.1.2, g1.2⟩, g2.of sm int_is⟩
      | _ => exact g.elim
    | _ => exact g.elim
  | shr =>
    refine OpR.imp op_shr fun x y H Q h => ?_
    obtain ⟨F, ⟨s, a⟩, ⟨t, b⟩, sm, ra, rb, g⟩ := h
    cases a with
    | int i =>
      cases b with
      | int j =>
        obtain ⟨g1, g2⟩ := g.guard
        exact ⟨i, j, ra.int sm, rb.int sm, of_decide_eq_true g1, g2.of sm int_is⟩
      | _ => exact g.elim
    | _ => exact g.elim
  | band =>
    refine OpR.imp op_and fun x y H Q h => ?_
    obtain ⟨F, ⟨s, a⟩, ⟨t, b⟩, sm, ra, rb, g⟩ := h
    cases a with
    | int i =>
      cases b with
      | int j => exact ⟨i, j, ra.int sm, rb.int sm, g.of sm int_is⟩
      | _ => exact g.elim
    | _ => exact g.elim
theorem un_negD : UnR X (unaryOp .USub) (rNeg X.K) := by
  refine UnR.imp un_neg fun x H Q h => ?_
  obtain ⟨F, d, sm, ra, g⟩ := h
  cases d with
  | int i => exact ⟨i, is_int ra, g.of sm int_is⟩
  | _ => exact g.elim
theorem gB_ok {c b r : Bool} (h : gB c b = .ok r) : c = true ∧ b = r := by
  unfold gB at h
  cases c with
  | true =>
    simp only [if_true] at h
    cases h
    exact ⟨rfl, rfl⟩
  | false => simp at h
theorem both_ok {d e : D} (h : both d e = true) : SeqAt.shaped d = true ∧ SeqAt.shaped e = true := by
  simpa only [both, Bool.and_eq_true] using h
theorem isNone_dec {H : Hp} {d : D} {x : V} (h : Is K H d x) : decide (x = V.non) = isNone d := by
  cases d with
  | none => rw [is_none h]; rfl
  | bool _ => rw [is_bool h]; rfl
  | int _ => rw [is_int h]; rfl
  | str _ => rw [is_str h]; rfl
  | list _ => obtain ⟨a, vs, rfl, _⟩ := (by simpa only [Is] using h : ∃ a vs, x = .ref a ∧ _); rfl
  | tuple _ => obtain ⟨a, vs, rfl, _⟩ := (by simpa only [Is] using h : ∃ a vs, x = .ref a ∧ _); rfl
  | dict _ => obtain ⟨a, vs, rfl, _⟩ := (by simpa only [Is] using h : ∃ a vs, x = .ref a ∧ _); rfl
theorem evEq_cases (d e : D) : (∃ x y, d = .str x ∧ e = .str y ∧ evEq d e = .ok (decide (x = y))) ∨ (∃ a b, d = .dict a ∧ e = .dict b ∧ evEq d e = if dSame a b then .ok true else .stuck) ∨ evEq d e = gB (both d e) (PyData.eqv d e) := by
  cases d <;> cases e <;> first | exact .inr (.inr rfl) | exact .inl ⟨_, _, rfl, rfl, rfl⟩ | exact .inr (.inl ⟨_, _, rfl, rfl, rfl⟩)
theorem evNe_cases (d e : D) : (∃ x y, d = .str x ∧ e = .str y ∧ evNe d e = .ok (!decide (x = y))) ∨ (∃ a b, d = .dict a ∧ e = .dict b ∧ evNe d e = if dSame a b then .ok false else .stuck) ∨ evNe d e = gB (both d e) (!PyData.eqv d e) := by
  cases d <;> cases e <;> first | exact .inr (.inr rfl) | exact .inl ⟨_, _, rfl, rfl, rfl⟩ | exact .inr (.inl ⟨_, _, rfl, rfl, rfl⟩)
theorem dkey_of (k : Key) : dkey (keyD k) = some k := by cases k <;> rfl
theorem intKV_is {H : Hp} : ∀ {kvs : List (D × D)} {l : List (Key × Int)} {es : List (Key × V)}, intKV kvs = some l → IsK X.K H kvs es → es = l.map fun p => (p.1, V.int p.2)
  | [], l, es, e, h => by
    cases e
    simpa only [IsK, List.map_nil] using h
  | (k, d) :: r, l, es, e, h => by
    simp only [IsK] at h
    obtain ⟨kk, v, es', rfl, rfl, hv, t⟩ := h
    cases d with
    | int i =>
      unfold intKV at e
      rw [dkey_of] at e
      cases q : intKV r with
      | none => rw [q] at e; cases e
      | some m =>
        rw [q] at e
        cases e
        rw [intKV_is q t, is_int hv]
        rfl
    | _ => cases e
theorem nodup_val {l : List (Key × Int)} (h : (l.map (·.1)).Nodup) : ∀ p ∈ l, valV (l.map fun p => (p.1, V.int p.2)) p.1 = some (.int p.2) := by
  induction l with
  | nil => intro p hp; cases hp
  | cons q r ih =>
    intro p hp
    rw [List.map_cons, List.nodup_cons] at h
    rcases List.mem_cons.mp hp with rfl | hp
    · exact valV_pos rfl
    · have ne : q.1 ≠ p.1 := fun z => h.1 (by rw [z]; exact List.mem_map_of_mem hp)
      have := ih h.2 p hp
      unfold valV at this ⊢
      rw [List.map_cons, List.find?_cons]
      show Option.map _ (match decide (q.1 = p.1) with | true => _ | false => _) = _
      rw [decide_eq_false ne]
      exact this
theorem dict_same {H : Hp} {a b : List (D × D)} {x y : V} (h : dSame a b = true) (ha : Is X.K H (.dict a) x) (hb : Is X.K H (.dict b) y) :
    ∃ p q ks, x = .ref p ∧ y = .ref q ∧ H p = some (.dK ks) ∧ H q = some (.dK ks) ∧ ks.length = ks.length ∧ ∀ e ∈ ks, valV ks e.1 = some e.2 ∧ flatB e.2 = true := by
  simp only [Is] at ha hb
  obtain ⟨p, es, rfl, h1, h2⟩ := ha
  obtain ⟨q, fs, rfl, h3, h4⟩ := hb
  unfold dSame at h
  cases e1 : intKV a with
  | none => rw [e1] at h; cases h
  | some l =>
    cases e2 : intKV b with
    | none => rw [e1, e2] at h; cases h
    | some m =>
      rw [e1, e2] at h
      simp only [Bool.and_eq_true, decide_eq_true_eq] at h
      obtain ⟨rfl, nd⟩ := h
      have g1 := intKV_is e1 h2
      have g2 := intKV_is e2 h4
      subst g1
      subst g2
      refine ⟨p, q, _, rfl, rfl, h1, h3, rfl, fun e he => ?_⟩
      obtain ⟨z, hz, rfl⟩ := List.mem_map.mp he
      exact ⟨nodup_val nd z hz, rfl⟩
theorem dec_strs {x y : Str} : decide (V.str x = V.str y) = decide (x = y) := by
  by_cases h : x = y
  · subst h; simp
  · rw [decide_eq_false h, decide_eq_false fun z => h (by cases z; rfl)]
theorem op_cmp {k : Nat} (hr : Room k X.A) (o : Cop) : OpR X (compareOp (copE o)) (rCmp X.K o) := by
  have hu : X.A.units + 64 < cLine := hr.units
  have hu2 : X.A.units + 65 < cLine := by
    have := hr.un
    omega
  cases o with
  | eq =>
    refine OpR.imp (OpR.or op_eq (OpR.or (op_eq_dictA (by omega)) (op_eqD hu))) fun x y H Q h => ?_
    obtain ⟨d, e, b, hd, he, hb, q⟩ := h
    have hb : evEq d e = .ok b := hb
    rcases evEq_cases d e with ⟨u, v, rfl, rfl, z⟩ | ⟨a, b', rfl, rfl, z⟩ | z
    · rw [z] at hb
      cases hb
      rw [is_str hd, is_str he]
      exact .inl ⟨rfl, by rw [dec_strs]; exact q⟩
    · rw [z] at hb
      by_cases c : dSame a b' = true
      · rw [if_pos c] at hb
        cases hb
        obtain ⟨p1, p2, ks, rfl, rfl, e1, e2, e3, e4⟩ := dict_same (X := X) c hd he
        exact .inr (.inl ⟨p1, p2, ks, ks, rfl, rfl, e1, e2, e3, e4, q⟩)
      · rw [if_neg c] at hb
        cases hb
    · rw [z] at hb
      obtain ⟨h1, h2⟩ := gB_ok hb
      obtain ⟨s1, s2⟩ := both_ok h1
      exact .inr (.inr ⟨d, e, hd.dp (SeqAt.canLay_of_shaped s1), he.dp (SeqAt.canLay_of_shaped s2), s1, s2, by rw [h2]; exact q⟩)
  | ne =>
    refine OpR.imp (OpR.or op_ne (OpR.or (op_ne_dictA (by omega)) (op_neD hu))) fun x y H Q h => ?_
    obtain ⟨d, e, b, hd, he, hb, q⟩ := h
    have hb : evNe d e = .ok b := hb
    rcases evNe_cases d e with ⟨u, v, rfl, rfl, z⟩ | ⟨a, b', rfl, rfl, z⟩ | z
    · rw [z] at hb
      cases hb
      rw [is_str hd, is_str he]
      exact .inl ⟨rfl, by rw [dec_strs]; exact q⟩
    · rw [z] at hb
      by_cases c : dSame a b' = true
      · rw [if_pos c] at hb
        cases hb
        obtain ⟨p1, p2, ks, rfl, rfl, e1, e2, e3, e4⟩ := dict_same (X := X) c hd he
        exact .inr (.inl ⟨p1, p2, ks, ks, rfl, rfl, e1, e2, e3, e4, q⟩)
      · rw [if_neg c] at hb
        cases hb
    · rw [z] at hb
      obtain ⟨h1, h2⟩ := gB_ok hb
      obtain ⟨s1, s2⟩ := both_ok h1
      exact .inr (.inr ⟨d, e, hd.dp (SeqAt.canLay_of_shaped s1), he.dp (SeqAt.canLay_of_shaped s2), s1, s2, by rw [h2]; exact q⟩)
  | lt =>
    refine OpR.imp op_lt fun x y H Q h => ?_
    obtain ⟨d, e, b, hd, he, hb, q⟩ := h
    cases d with
    | int i =>
      cases e with
      | int j => cases hb; exact ⟨i, j, is_int hd, is_int he, q⟩
      | _ => cases hb
    | _ => cases hb
  | le =>
    refine OpR.imp op_le fun x y H Q h => ?_
    obtain ⟨d, e, b, hd, he, hb, q⟩ := h
    cases d with
    | int i =>
      cases e with
      | int j => cases hb; exact ⟨i, j, is_int hd, is_int he, q⟩
      | _ => cases hb
    | _ => cases hb
  | gt =>
    refine OpR.imp op_gt fun x y H Q h => ?_
    obtain ⟨d, e, b, hd, he, hb, q⟩ := h
    cases d with
    | int i =>
      cases e with
      | int j => cases hb; exact ⟨i, j, is_int hd, is_int he, q⟩
      | _ => cases hb
    | _ => cases hb
  | ge =>
    refine OpR.imp op_ge fun x y H Q h => ?_
    obtain ⟨d, e, b, hd, he, hb, q⟩ := h
    cases d with
    | int i =>
      cases e with
      | int j => cases hb; exact ⟨i, j, is_int hd, is_int he, q⟩
      | _ => cases hb
    | _ => cases hb
  | is =>
    refine OpR.imp op_isN fun x y H Q h => ?_
    obtain ⟨d, e, b, hd, he, hb, q⟩ := h
    have hb' : e = .none ∧ b = isNone d := by
      cases e <;> first | (cases hb; exact ⟨rfl, rfl⟩) | (cases d <;> cases hb)
    obtain ⟨rfl, rfl⟩ := hb'
    exact ⟨is_none he, by rw [isNone_dec hd]; exact q⟩
  | isn =>
    refine OpR.imp op_notN fun x y H Q h => ?_
    obtain ⟨d, e, b, hd, he, hb, q⟩ := h
    have hb' : e = .none ∧ b = !isNone d := by
      cases e <;> first | (cases hb; exact ⟨rfl, rfl⟩) | (cases d <;> cases hb)
    obtain ⟨rfl, rfl⟩ := hb'
    exact ⟨is_none he, by rw [isNone_dec hd]; exact q⟩
  | inn =>
    refine OpR.imp (op_inD hu2) fun x y H Q h => ?_
    obtain ⟨d, e, b, hd, he, hb, q⟩ := h
    cases e with
    | list xs =>
      obtain ⟨h1, h2⟩ := gB_ok (show gB (both d (.list xs)) (xs.any fun z => PyData.eqv z d) = .ok b by cases d <;> exact hb)
      obtain ⟨s1, s2⟩ := both_ok h1
      exact ⟨d, xs, hd.dp (SeqAt.canLay_of_shaped s1), he.dp (SeqAt.canLay_of_shaped s2), s1, s2, by rw [h2]; exact q⟩
    | _ => cases d <;> cases hb
  | nin =>
    refine OpR.imp (op_notInD hu2) fun x y H Q h => ?_
    obtain ⟨d, e, b, hd, he, hb, q⟩ := h
    cases e with
    | list xs =>
      obtain ⟨h1, h2⟩ := gB_ok (show gB (both d (.list xs)) (!xs.any fun z => PyData.eqv z d) = .ok b by cases d <;> exact hb)
      obtain ⟨s1, s2⟩ := both_ok h1
      exact ⟨d, xs, hd.dp (SeqAt.canLay_of_shaped s1), he.dp (SeqAt.canLay_of_shaped s2), s1, s2, by rw [h2]; exact q⟩
    | _ => cases d <;> cases hb
theorem atI_isL {H : Hp} {ds : List D} {vs : List V} {i : Int} {d : D} (h : IsL K H ds vs) (e : atI ds i = some d) : ∃ v, atI vs i = some v ∧ Is K H d v := by
  unfold atI at e ⊢
  rw [h.len]
  cases q : ixN ds.length i with
  | none => rw [q] at e; cases e
  | some j =>
    rw [q] at e
    exact h.get (show ds[j]? = some d from e)
theorem ix_D : IxR X (rIxD X.K) := by
  refine IxR.imp ix_seq fun x y H Q h => ?_
  obtain ⟨F, ⟨t, a⟩, d, sm, ra, rb, g⟩ := h
  cases d with
  | int i =>
    cases a with
    | list xs =>
      obtain ⟨l, vs, rfl, h1, h2⟩ := ra.list sm
      cases q : atI xs i with
      | none =>
        simp only [evIx, q] at g
        exact g.elim
      | some d =>
        simp only [evIx, q] at g
        obtain ⟨v, e1, e2⟩ := atI_isL h2 q
        exact .inl ⟨l, vs, i, v, rfl, is_int rb, h1.seq, e1, g v F H (Ext.refl sm) (Res.nt (x := (t.kid, d)) (of_kid e2) sm)⟩
    | tuple xs =>
      obtain ⟨l, vs, rfl, h1, h2⟩ := ra.tuple sm
      cases q : atI xs i with
      | none =>
        simp only [evIx, q] at g
        exact g.elim
      | some d =>
        simp only [evIx, q] at g
        obtain ⟨v, e1, e2⟩ := atI_isL h2 q
        exact .inr (.inl ⟨l, vs, i, v, rfl, is_int rb, h1, e1, g v F H (Ext.refl sm) (Res.nt (x := (t.kid, d)) (of_kid e2) sm)⟩)
    | str z =>
      obtain ⟨g1, g2⟩ := g.guard
      cases q : atI z.cps.toList i with
      | none =>
        simp only [q] at g2
        exact g2.elim
      | some c =>
        simp only [q] at g2
        exact .inr (.inr ⟨z, i, c, ra.str sm, is_int rb, Nat.le_trans (of_decide_eq_true g1) lim_le, q, g2.of sm str_is⟩)
    | _ => exact g.elim
  | _ => cases a <;> exact g.elim
theorem sl_D : SlR X (rSlD X.K) := by
  refine SlR.imp (SlR.or sl_list sl_str) fun x lo hi H Q h => ?_
  obtain ⟨F, ⟨t, a⟩, sm, ra, g⟩ := h
  cases a with
  | list xs =>
    obtain ⟨l, vs, rfl, h1, h2⟩ := ra.list sm
    exact .inl ⟨l, vs, rfl, h1.seq, new_list (kid_cases t) sm (h2.cut lo hi) g⟩
  | str z =>
    obtain ⟨c, g⟩ := g.guard
    have := of_decide_eq_true c
    exact .inr ⟨z, ra.str sm, Nat.le_trans this lim_le, g.of sm str_is⟩
  | _ => exact g.elim
theorem strL_is {H : Hp} : ∀ {xs : List D} {ys : List Str} {vs : List V}, strL xs = some ys → IsL X.K H xs vs → vs = ys.map V.str
  | [], ys, vs, e, h => by
    cases e
    simpa only [IsL, List.map_nil] using h
  | .str z :: r, ys, vs, e, h => by
    unfold strL at e
    cases q : strL r with
    | none => rw [q] at e; cases e
    | some zs =>
      rw [q] at e
      cases e
      simp only [IsL, Is] at h
      obtain ⟨v, w, rfl, rfl, t⟩ := h
      rw [strL_is q t, List.map_cons]
  | .none :: _, _, _, e, _ => by cases e
  | .bool _ :: _, _, _, e, _ => by cases e
  | .int _ :: _, _, _, e, _ => by cases e
  | .list _ :: _, _, _, e, _ => by cases e
  | .tuple _ :: _, _, _, e, _ => by cases e
  | .dict _ :: _, _, _, e, _ => by cases e
theorem isK_val {H : Hp} {k : Key} : ∀ {kvs : List (D × D)} {es : List (Key × V)} {d : D}, IsK K H kvs es → dGetK kvs k = some d → ∃ v, valV es k = some v ∧ Is K H d v
  | [], es, d, h, e => by cases e
  | (kd, c) :: r, es, d, h, e => by
    simp only [IsK] at h
    obtain ⟨kk, v, es', rfl, rfl, hv, t⟩ := h
    unfold dGetK at e
    rw [List.find?_cons] at e
    show ∃ u, Option.map (·.2) (List.find? _ ((kk, v) :: es')) = some u ∧ _
    rw [List.find?_cons]
    rw [dkey_of] at e
    by_cases c : kk = k
    · subst c
      rw [decide_eq_true rfl] at e
      cases e
      exact ⟨v, by simp, hv⟩
    · rw [decide_eq_false (fun z => c (by cases z; rfl))] at e
      obtain ⟨u, h1, h2⟩ := isK_val t (show dGetK r k = some d from e)
      refine ⟨u, ?_, h2⟩
      rw [decide_eq_false c]
      exact h1
theorem isK_any {H : Hp} {k : Key} : ∀ {kvs : List (D × D)} {es : List (Key × V)}, IsK K H kvs es → (kvs.any fun kv => decide (dkey kv.1 = some k)) = es.any fun kv => decide (kv.1 = k)
  | [], es, h => by
    simp only [IsK] at h
    subst h
    rfl
  | (kd, c) :: r, es, h => by
    simp only [IsK] at h
    obtain ⟨kk, v, es', rfl, rfl, hv, t⟩ := h
    rw [List.any_cons, List.any_cons, isK_any t, dkey_of]
    congr 1
    by_cases c : kk = k
    · subst c; simp
    · rw [decide_eq_false c, decide_eq_false fun z => c (by cases z; rfl)]
theorem isK_map {H : Hp} {k : Key} {d : D} {u : V} (hd : Is K H d u) : ∀ {kvs : List (D × D)} {es : List (Key × V)}, IsK K H kvs es → IsK K H (kvs.map fun kv => if dkey kv.1 = some k then (kv.1, d) else kv) (es.map fun kv => if kv.1 = k then (kv.1, u) else kv)
  | [], es, h => by
    simp only [IsK] at h
    subst h
    simp only [List.map_nil, IsK]
  | (kd, c) :: r, es, h => by
    simp only [IsK] at h
    obtain ⟨kk, v, es', rfl, rfl, hv, t⟩ := h
    rw [List.map_cons, List.map_cons, dkey_of]
    simp only [IsK]
    by_cases c : kk = k
    · subst c
      rw [if_pos rfl, if_pos rfl]
      exact ⟨kk, u, _, rfl, rfl, hd, isK_map hd t⟩
    · rw [if_neg c, if_neg fun z => c (by cases z; rfl)]
      exact ⟨kk, v, _, rfl, rfl, hv, isK_map hd t⟩
theorem isK_app {H : Hp} {k : Key} {d : D} {u : V} (hd : Is K H d u) : ∀ {kvs : List (D × D)} {es : List (Key × V)}, IsK K H kvs es → IsK K H (kvs ++ [(dKey k, d)]) (es ++ [(k, u)])
  | [], es, h => by
    simp only [IsK] at h
    subst h
    simp only [List.nil_append, IsK]
    exact ⟨k, u, [], rfl, by cases k <;> rfl, hd, rfl⟩
  | (kd, c) :: r, es, h => by
    simp only [IsK] at h
    obtain ⟨kk, v, es', rfl, rfl, hv, t⟩ := h
    simp only [List.cons_append, IsK]
    exact ⟨kk, v, _, rfl, rfl, hv, isK_app hd t⟩
theorem isK_put {H : Hp} {k : Key} {d : D} {u : V} {kvs : List (D × D)} {es : List (Key × V)} (h : IsK K H kvs es) (hd : Is K H d u) : IsK K H (dPutK kvs k d) (putK es k u) := by
  unfold dPutK putK
  rw [isK_any h]
  split
  · exact isK_map hd h
  · exact isK_app hd h
theorem isK_len {H : Hp} : ∀ {kvs : List (D × D)} {es : List (Key × V)}, IsK K H kvs es → es.length = kvs.length
  | [], es, h => by
    simp only [IsK] at h
    subst h
    rfl
  | (kd, c) :: r, es, h => by
    simp only [IsK] at h
    obtain ⟨kk, v, es', rfl, rfl, hv, t⟩ := h
    rw [List.length_cons, List.length_cons, isK_len t]
theorem key_is {H : Hp} {d : D} {k : Key} {v : V} (h : Is K H d v) (e : dkey d = some k) : v = kV k := by
  cases d with
  | int i => cases e; exact is_int h
  | str s => cases e; exact is_str h
  | _ => cases e
theorem res_dict {H1 F H : Hp} {t : Tag} {kvs : List (D × D)} {v : V} (h : Res K H1 F H v (t, .dict kvs)) (s : Same F H) : ∃ a es, v = .ref a ∧ H a = some (.dK es) ∧ IsK K (hp t.kid F H) kvs es := by
  cases t with
  | sh =>
    have h : Is K F (.dict kvs) v := h
    simp only [Is] at h
    obtain ⟨a, es, h1, h2, h3⟩ := h
    exact ⟨a, es, h1, s _ _ h2, h3⟩
  | pk =>
    have h : Is K H (.dict kvs) v := h
    simp only [Is] at h
    exact h
  | rt =>
    obtain ⟨p, h1, _, es, h2, h3⟩ := h
    exact ⟨p, es, h1, h2, h3⟩
  | ow =>
    obtain ⟨p, h1, _, _, es, h2, h3⟩ := h
    exact ⟨p, es, h1, h2, h3⟩
end
end PV

/-! PvBi: the built-in functions of the language. -/
namespace PV
open PySem PySem.Spec PyProof.Rows L2

def ResL (K : PySem.W.Frag) (H F' H' : Hp) : List V → List TD → Prop
  | vs, [] => vs = []
  | vs, x :: r => ∃ v ws, vs = v :: ws ∧ Res K H F' H' v x ∧ ResL K H F' H' ws r
def rBi (K : PySem.W.Frag) (b : Bi) : List V → Hp → VK → Prop := fun vs H Q => ∃ F l, Same F H ∧ ResL K H0 F H vs l ∧ Give K F H (evBi b l) Q
section
variable {X : Cx} {K : PySem.W.Frag}
theorem ResL.one {H1 F H : Hp} {vs : List V} {x : TD} (h : ResL K H1 F H vs [x]) : ∃ v, vs = [v] ∧ Res K H1 F H v x := by
  obtain ⟨v, ws, rfl, h1, h2⟩ := h
  have h3 : ws = [] := h2
  subst h3
  exact ⟨v, rfl, h1⟩
theorem ResL.two {H1 F H : Hp} {vs : List V} {x y : TD} (h : ResL K H1 F H vs [x, y]) : ∃ v w, vs = [v, w] ∧ Res K H1 F H v x ∧ Res K H1 F H w y := by
  obtain ⟨v, ws, rfl, h1, h2⟩ := h
  obtain ⟨w, rfl, h3⟩ := h2.one
  exact ⟨v, w, rfl, h1, h3⟩
theorem CallR.orr {f : Value} {r r' : List V → Hp → VK → Prop} (h : CallR X f r) (h' : CallR X f r') : CallR X f (fun xs H Q => r xs H Q ∨ r' xs H Q) := L2.CallR.or h h'
theorem foldl_min_le : ∀ (r : List Int) (n : Int), r.foldl min n ≤ n ∧ (∀ y ∈ r, r.foldl min n ≤ y) ∧ (r.foldl min n = n ∨ r.foldl min n ∈ r)
  | [], n => ⟨Int.le_refl _, by simp, .inl rfl⟩
  | x :: r, n => by
    obtain ⟨h1, h2, h3⟩ := foldl_min_le r (min n x)
    rw [List.foldl_cons]
    refine ⟨by omega, fun y hy => ?_, ?_⟩
    · rcases List.mem_cons.mp hy with rfl | hy
      · omega
      · exact h2 y hy
    · rcases h3 with h3 | h3
      · by_cases c : n ≤ x
        · exact .inl (by omega)
        · exact .inr (by rw [h3, show min n x = x by omega]; exact List.mem_cons_self)
      · exact .inr (List.mem_cons_of_mem _ h3)
theorem foldl_max_le : ∀ (r : List Int) (n : Int), n ≤ r.foldl max n ∧ (∀ y ∈ r, y ≤ r.foldl max n) ∧ (r.foldl max n = n ∨ r.foldl max n ∈ r)
  | [], n => ⟨Int.le_refl _, by simp, .inl rfl⟩
  | x :: r, n => by
    obtain ⟨h1, h2, h3⟩ := foldl_max_le r (max n x)
    rw [List.foldl_cons]
    refine ⟨by omega, fun y hy => ?_, ?_⟩
    · rcases List.mem_cons.mp hy with rfl | hy
      · omega
      · exact h2 y hy
    · rcases h3 with h3 | h3
      · by_cases c : x ≤ n
        · exact .inl (by omega)
        · exact .inr (by rw [h3, show max n x = x by omega]; exact List.mem_cons_self)
      · exact .inr (List.mem_cons_of_mem _ h3)
theorem min_is {n m : Int} {r : List Int} (h1 : m ∈ n :: r) (h2 : ∀ y, y ∈ n :: r → m ≤ y) : m = r.foldl min n := by
  obtain ⟨a, b, c⟩ := foldl_min_le r n
  have e1 : r.foldl min n ≤ m := by
    rcases List.mem_cons.mp h1 with rfl | h
    · exact a
    · exact b m h
  have e2 : m ≤ r.foldl min n := by
    rcases c with c | c
    · rw [c]
      exact h2 n List.mem_cons_self
    · exact h2 _ (List.mem_cons_of_mem _ c)
  omega
theorem max_is {n m : Int} {r : List Int} (h1 : m ∈ n :: r) (h2 : ∀ y, y ∈ n :: r → y ≤ m) : m = r.foldl max n := by
  obtain ⟨a, b, c⟩ := foldl_max_le r n
  have e1 : m ≤ r.foldl max n := by
    rcases List.mem_cons.mp h1 with rfl | h
    · exact a
    · exact b m h
  have e2 : r.foldl max n ≤ m := by
    rcases c with c | c
    · rw [c]
      exact h2 n List.mem_cons_self
    · exact h2 _ (List.mem_cons_of_mem _ c)
  omega
theorem hp_intL {F H : Hp} {t : Tag} {xs : List D} {ns : List Int} {vs : List V} (h : IsL K (hp t F H) xs vs) (e : intL xs = some ns) : vs = ns.map V.int := by
  rw [intL_map e] at h
  exact isL_ints h
theorem hp_boolL {F H : Hp} {t : Tag} {xs : List D} {ns : List Bool} {vs : List V} (h : IsL K (hp t F H) xs vs) (e : boolL xs = some ns) : vs = ns.map V.bl := by
  rw [boolL_map e] at h
  exact isL_bools h

theorem bi_len : CallR X (.builtin "len") (rBi X.K .len) := by
  refine CallR.imp (CallR.orr call_len_seq call_len_str) fun vs H Q h => ?_
  obtain ⟨F, l, sm, hl, g⟩ := h
  match l, hl, g with
  | [(t, .list xs)], hl, g =>
    obtain ⟨v, rfl, r⟩ := hl.one
    obtain ⟨a, ws, rfl, h1, h2⟩ := r.list sm
    exact .inl ⟨a, ws, rfl, .inl h1.seq, by rw [h2.len]; exact g.of sm int_is⟩
  | [(t, .tuple xs)], hl, g =>
    obtain ⟨v, rfl, r⟩ := hl.one
    obtain ⟨a, ws, rfl, h1, h2⟩ := r.tuple sm
    exact .inl ⟨a, ws, rfl, .inr h1, by rw [h2.len]; exact g.of sm int_is⟩
  | [(t, .str z)], hl, g =>
    obtain ⟨v, rfl, r⟩ := hl.one
    obtain ⟨g1, g2⟩ := g.guard
    exact .inr ⟨z, by rw [r.str sm], Nat.le_trans (of_decide_eq_true g1) lim_le, g2.of sm int_is⟩
  | [(_, .none)], _, g => exact g.elim
  | [(_, .bool _)], _, g => exact g.elim
  | [(_, .int _)], _, g => exact g.elim
  | [(_, .dict _)], _, g => exact g.elim
  | [], _, g => exact g.elim
  | (_, a) :: _ :: _, _, g => cases a <;> exact g.elim
theorem bi_abs : CallR X (.builtin "abs") (rBi X.K .abs) := by
  refine CallR.imp call_abs fun vs H Q h => ?_
  obtain ⟨F, l, sm, hl, g⟩ := h
  match l, hl, g with
  | [(t, .int i)], hl, g =>
    obtain ⟨v, rfl, r⟩ := hl.one
    exact ⟨i, by rw [r.int sm], g.of sm int_is⟩
  | [(_, .none)], _, g => exact g.elim
  | [(_, .bool _)], _, g => exact g.elim
  | [(_, .str _)], _, g => exact g.elim
  | [(_, .list _)], _, g => exact g.elim
  | [(_, .tuple _)], _, g => exact g.elim
  | [(_, .dict _)], _, g => exact g.elim
  | [], _, g => exact g.elim
  | (_, a) :: _ :: _, _, g => cases a <;> exact g.elim
theorem bi_min (hc : X.calm = true) : CallR X (.builtin "min") (rBi X.K .min) := by
  refine CallR.imp (CallR.orr (call_min2 hc) (cr_min hc)) fun vs H Q h => ?_
  obtain ⟨F, l, sm, hl, g⟩ := h
  match l, hl, g with
  | [(t, .list xs)], hl, g =>
    obtain ⟨v, rfl, r⟩ := hl.one
    obtain ⟨a, ws, rfl, h1, h2⟩ := r.list sm
    cases q : intL xs with
    | none => simp only [evBi, q] at g; exact g.elim
    | some ns =>
      cases ns with
      | nil => simp only [evBi, q] at g; exact g.elim
      | cons n r =>
        simp only [evBi, q] at g
        have e := hp_intL h2 q
        subst e
        exact .inr ⟨a, n :: r, rfl, h1.seq, by simp, fun m m1 m2 => by rw [min_is m1 m2]; exact g.of sm int_is⟩
  | [(_, .none)], _, g => exact g.elim
  | [(_, .bool _)], _, g => exact g.elim
  | [(_, .str _)], _, g => exact g.elim
  | [(_, .int _)], _, g => exact g.elim
  | [(_, .tuple _)], _, g => exact g.elim
  | [(_, .dict _)], _, g => exact g.elim
  | [], _, g => exact g.elim
  | (_, a) :: (_, b) :: [], hl, g =>
    cases a with
    | int i =>
      cases b with
      | int j =>
        obtain ⟨v, w, rfl, r1, r2⟩ := hl.two
        exact .inl ⟨i, j, by rw [r1.int sm, r2.int sm], g.of sm int_is⟩
      | _ => exact g.elim
    | _ => cases b <;> exact g.elim
  | (_, a) :: (_, b) :: _ :: _, _, g => cases a <;> cases b <;> exact g.elim
theorem bi_max (hc : X.calm = true) : CallR X (.builtin "max") (rBi X.K .max) := by
  refine CallR.imp (CallR.orr (call_max2 hc) (cr_max hc)) fun vs H Q h => ?_
  obtain ⟨F, l, sm, hl, g⟩ := h
  match l, hl, g with
  | [(t, .list xs)], hl, g =>
    obtain ⟨v, rfl, r⟩ := hl.one
    obtain ⟨a, ws, rfl, h1, h2⟩ := r.list sm
    cases q : intL xs with
    | none => simp only [evBi, q] at g; exact g.elim
    | some ns =>
      cases ns with
      | nil => simp only [evBi, q] at g; exact g.elim
      | cons n r =>
        simp only [evBi, q] at g
        have e := hp_intL h2 q
        subst e
        exact .inr ⟨a, n :: r, rfl, h1.seq, by simp, fun m m1 m2 => by rw [max_is m1 m2]; exact g.of sm int_is⟩
  | [(_, .none)], _, g => exact g.elim
  | [(_, .bool _)], _, g => exact g.elim
  | [(_, .str _)], _, g => exact g.elim
  | [(_, .int _)], _, g => exact g.elim
  | [(_, .tuple _)], _, g => exact g.elim
  | [(_, .dict _)], _, g => exact g.elim
  | [], _, g => exact g.elim
  | (_, a) :: (_, b) :: [], hl, g =>
    cases a with
    | int i =>
      cases b with
      | int j =>
        obtain ⟨v, w, rfl, r1, r2⟩ := hl.two
        exact .inl ⟨i, j, by rw [r1.int sm, r2.int sm], g.of sm int_is⟩
      | _ => exact g.elim
    | _ => cases b <;> exact g.elim
  | (_, a) :: (_, b) :: _ :: _, _, g => cases a <;> cases b <;> exact g.elim
theorem bi_int : CallR X (.type "int") (rBi X.K .int) := by
  refine CallR.imp call_int1 fun vs H Q h => ?_
  obtain ⟨F, l, sm, hl, g⟩ := h
  match l, hl, g with
  | [(t, .int i)], hl, g =>
    obtain ⟨v, rfl, r⟩ := hl.one
    exact .inl ⟨i, by rw [r.int sm], g.of sm int_is⟩
  | [(_, .bool b)], hl, g =>
    obtain ⟨v, rfl, r⟩ := hl.one
    exact .inr ⟨b, by rw [is_bool (r.is sm)], g.of sm int_is⟩
  | [(_, .none)], _, g => exact g.elim
  | [(_, .str _)], _, g => exact g.elim
  | [(_, .list _)], _, g => exact g.elim
  | [(_, .tuple _)], _, g => exact g.elim
  | [(_, .dict _)], _, g => exact g.elim
  | [], _, g => exact g.elim
  | (_, a) :: _ :: _, _, g => cases a <;> exact g.elim
theorem bi_list : CallR X (.type "list") (rBi X.K .list) := by
  refine CallR.imp call_list_of fun vs H Q h => ?_
  obtain ⟨F, l, sm, hl, g⟩ := h
  match l, hl, g with
  | [(t, .list xs)], hl, g =>
    obtain ⟨v, rfl, r⟩ := hl.one
    obtain ⟨a, ws, rfl, h1, h2⟩ := r.list sm
    exact ⟨a, ws, rfl, .inl h1.seq, new_list (kid_cases t) sm h2 g⟩
  | [(t, .tuple xs)], hl, g =>
    obtain ⟨v, rfl, r⟩ := hl.one
    obtain ⟨a, ws, rfl, h1, h2⟩ := r.tuple sm
    exact ⟨a, ws, rfl, .inr h1, new_list (kid_cases t) sm h2 g⟩
  | [(_, .none)], _, g => exact g.elim
  | [(_, .bool _)], _, g => exact g.elim
  | [(_, .str _)], _, g => exact g.elim
  | [(_, .int _)], _, g => exact g.elim
  | [(_, .dict _)], _, g => exact g.elim
  | [], _, g => exact g.elim
  | (_, a) :: _ :: _, _, g => cases a <;> exact g.elim
/-- a new tuple of such items -/
theorem new_tup {F H : Hp} {t : Tag} {ds : List D} {vs : List V} {Q : VK} (ht : t = .sh ∨ t = .pk) (s : Same F H) (h : IsL K (hp t F H) ds vs) (g : Give K F H (.ok (t, .tuple ds)) Q) :
    ∀ p, H p = none → Q (.ref p) (upd H p (.tup vs)) := fun p np => by
  rcases ht with rfl | rfl
  · refine g (.ref p) (upd F p (.tup vs)) _ (Ext.new s np) ?_
    show Is K (upd F p (.tup vs)) (.tuple ds) (.ref p)
    simp only [Is]
    exact ⟨p, vs, rfl, SqT.of upd_same, h.mono (same_upd (s.free np))⟩
  · refine g (.ref p) F _ (Ext.new0 s np) ?_
    show Is K (upd H p (.tup vs)) (.tuple ds) (.ref p)
    simp only [Is]
    exact ⟨p, vs, rfl, SqT.of upd_same, h.mono (same_upd np)⟩
theorem bi_tuple : CallR X (.type "tuple") (rBi X.K .tuple) := by
  refine CallR.imp call_tuple_of fun vs H Q h => ?_
  obtain ⟨F, l, sm, hl, g⟩ := h
  match l, hl, g with
  | [(t, .list xs)], hl, g =>
    obtain ⟨v, rfl, r⟩ := hl.one
    obtain ⟨a, ws, rfl, h1, h2⟩ := r.list sm
    exact ⟨a, ws, rfl, .inl ⟨h1.seq, new_tup (kid_cases t) sm h2 g⟩⟩
  | [(_, .none)], _, g => exact g.elim
  | [(_, .bool _)], _, g => exact g.elim
  | [(_, .str _)], _, g => exact g.elim
  | [(_, .int _)], _, g => exact g.elim
  | [(_, .tuple _)], _, g => exact g.elim
  | [(_, .dict _)], _, g => exact g.elim
  | [], _, g => exact g.elim
  | (_, a) :: _ :: _, _, g => cases a <;> exact g.elim
theorem bi_sum (hc : X.calm = true) : CallR X (.builtin "sum") (rBi X.K .sum) := by
  refine CallR.imp (cr_sum hc) fun vs H Q h => ?_
  obtain ⟨F, l, sm, hl, g⟩ := h
  match l, hl, g with
  | [(t, .list xs)], hl, g =>
    obtain ⟨v, rfl, r⟩ := hl.one
    obtain ⟨a, ws, rfl, h1, h2⟩ := r.list sm
    cases q : intL xs with
    | none => simp only [evBi, q] at g; exact g.elim
    | some ns =>
      simp only [evBi, q] at g
      have e := hp_intL h2 q
      subst e
      exact ⟨a, ns, rfl, h1.seq, g.of sm int_is⟩
  | [(_, .none)], _, g => exact g.elim
  | [(_, .bool _)], _, g => exact g.elim
  | [(_, .str _)], _, g => exact g.elim
  | [(_, .int _)], _, g => exact g.elim
  | [(_, .tuple _)], _, g => exact g.elim
  | [(_, .dict _)], _, g => exact g.elim
  | [], _, g => exact g.elim
  | (_, a) :: _ :: _, _, g => cases a <;> exact g.elim
theorem bi_any (hc : X.calm = true) : CallR X (.builtin "any") (rBi X.K .any) := by
  refine CallR.imp (cr_any hc) fun vs H Q h => ?_
  obtain ⟨F, l, sm, hl, g⟩ := h
  match l, hl, g with
  | [(t, .list xs)], hl, g =>
    obtain ⟨v, rfl, r⟩ := hl.one
    obtain ⟨a, ws, rfl, h1, h2⟩ := r.list sm
    cases q : boolL xs with
    | none => simp only [evBi, q] at g; exact g.elim
    | some ns =>
      simp only [evBi, q] at g
      have e := hp_boolL h2 q
      subst e
      exact ⟨a, ns, rfl, h1.seq, g.of sm bool_is⟩
  | [(_, .none)], _, g => exact g.elim
  | [(_, .bool _)], _, g => exact g.elim
  | [(_, .str _)], _, g => exact g.elim
  | [(_, .int _)], _, g => exact g.elim
  | [(_, .tuple _)], _, g => exact g.elim
  | [(_, .dict _)], _, g => exact g.elim
  | [], _, g => exact g.elim
  | (_, a) :: _ :: _, _, g => cases a <;> exact g.elim
theorem bi_all (hc : X.calm = true) : CallR X (.builtin "all") (rBi X.K .all) := by
  refine CallR.imp (cr_all hc) fun vs H Q h => ?_
  obtain ⟨F, l, sm, hl, g⟩ := h
  match l, hl, g with
  | [(t, .list xs)], hl, g =>
    obtain ⟨v, rfl, r⟩ := hl.one
    obtain ⟨a, ws, rfl, h1, h2⟩ := r.list sm
    cases q : boolL xs with
    | none => simp only [evBi, q] at g; exact g.elim
    | some ns =>
      simp only [evBi, q] at g
      have e := hp_boolL h2 q
      subst e
      exact ⟨a, ns, rfl, h1.seq, g.of sm bool_is⟩
  | [(_, .none)], _, g => exact g.elim
  | [(_, .bool _)], _, g => exact g.elim
  | [(_, .str _)], _, g => exact g.elim
  | [(_, .int _)], _, g => exact g.elim
  | [(_, .tuple _)], _, g => exact g.elim
  | [(_, .dict _)], _, g => exact g.elim
  | [], _, g => exact g.elim
  | (_, a) :: _ :: _, _, g => cases a <;> exact g.elim
theorem bi_str : CallR X (.type "str") (rBi X.K .str) := by
  refine CallR.imp call_str_int fun vs H Q h => ?_
  obtain ⟨F, l, sm, hl, g⟩ := h
  match l, hl, g with
  | [(t, .int i)], hl, g =>
    obtain ⟨v, rfl, r⟩ := hl.one
    obtain ⟨g1, g2⟩ := g.guard
    exact ⟨i, by rw [r.int sm], of_decide_eq_true g1, g2.of sm str_is⟩
  | [(_, .none)], _, g => exact g.elim
  | [(_, .bool _)], _, g => exact g.elim
  | [(_, .str _)], _, g => exact g.elim
  | [(_, .list _)], _, g => exact g.elim
  | [(_, .tuple _)], _, g => exact g.elim
  | [(_, .dict _)], _, g => exact g.elim
  | [], _, g => exact g.elim
  | (_, a) :: _ :: _, _, g => cases a <;> exact g.elim

/-! ### repr of data -/
theorem bi_repr {k : Nat} (hr : Room k X.A) (hg : X.A.guards = some []) : CallR X (.builtin "repr") (rBi X.K .repr) := by
  intro pins s σ H vs us Q I rv h
  obtain ⟨F, l, sm, hl, g⟩ := h
  have go : ∀ (t : Tag) (d : D), (∃ xs, d = .list xs ∨ d = .tuple xs) → ResL X.K H0 F H vs [(t, d)] → Give X.K F H (guard (reprOk d) (ok1 (.str d.shown))) Q → wpAny (model X.prog X.w) X.A (PySem.call (.builtin "repr") us) (EP X pins σ Q) X.xe s := by
    intro t d hd hl g
    obtain ⟨v, rfl, r⟩ := hl.one
    obtain ⟨g1, g2⟩ := g.guard
    simp only [reprOk, Bool.and_eq_true, decide_eq_true_eq] at g1
    obtain ⟨⟨⟨c1, c2⟩, c3⟩, c4⟩ := g1
    obtain ⟨u, rfl, ru⟩ := Vals.one rv
    have hi := r.is sm
    obtain ⟨as, hR⟩ := Dp.reads I d v u (hi.dp c2) ru
    obtain ⟨a, rfl⟩ : ∃ a, v = .ref a := by
      obtain ⟨xs, e | e⟩ := hd
      · subst e
        obtain ⟨a, ws, e, _⟩ := (by simpa only [Is] using hi : ∃ a vs, v = .ref a ∧ _)
        exact ⟨a, e⟩
      · subst e
        obtain ⟨a, ws, e, _⟩ := (by simpa only [Is] using hi : ∃ a vs, v = .ref a ∧ _)
        exact ⟨a, e⟩
    have ru' : u = Value.ref a := ru
    subst ru'
    have hu := hr.un
    refine repr_of_reads' hR c1 (PyData.noDict_hsm (PyData.hasDict_of_canLay d c2)) hg (by omega) (fun _ _ e => e) (fun h' u tk hk => ?_) (Nat.le_trans c3 lim_le)
    exact ⟨.str d.shown, H, I.kept (t' := tk) hk, ⟨_, rfl⟩, g2.of sm str_is⟩
  match l, hl, g with
  | [(t, .list xs)], hl, g => exact go t _ ⟨xs, .inl rfl⟩ hl g
  | [(t, .tuple xs)], hl, g => exact go t _ ⟨xs, .inr rfl⟩ hl g
  | [(_, .none)], _, g => exact g.elim
  | [(_, .bool _)], _, g => exact g.elim
  | [(_, .str _)], _, g => exact g.elim
  | [(_, .int _)], _, g => exact g.elim
  | [(_, .dict _)], _, g => exact g.elim
  | [], _, g => exact g.elim
  | (_, a) :: _ :: _, _, g => cases a <;> exact g.elim

/-! ### sorted of data -/
theorem isL_zip {H : Hp} : ∀ {ds : List D} {vs : List V}, IsL K H ds vs → ∀ p ∈ vs.zip ds, Is K H p.2 p.1
  | [], _, h, p, hp => by
    simp only [IsL] at h
    subst h
    simp at hp
  | d :: ds, _, h, p, hp => by
    simp only [IsL] at h
    obtain ⟨v, r, rfl, q, u⟩ := h
    rw [List.zip_cons_cons] at hp
    rcases List.mem_cons.mp hp with rfl | hp
    · exact q
    · exact isL_zip u p hp
theorem isL_of {H : Hp} : ∀ {l : List (V × D)}, (∀ p ∈ l, Is K H p.2 p.1) → IsL K H (l.map (·.2)) (l.map (·.1))
  | [], _ => .nil
  | p :: l, h => .cons (h p List.mem_cons_self) (isL_of fun q hq => h q (List.mem_cons_of_mem _ hq))
theorem each_of {its : List Value} {P : Value → V × D → Prop} : ∀ {vs : List V} {ds : List D}, Vals vs its → vs.length = ds.length → (∀ v u d, RelV v u → (v, d) ∈ vs.zip ds → P u (v, d)) → PySem.W.EachIs P its (vs.zip ds) := by
  induction its with
  | nil =>
    intro vs ds r hl hP
    cases r
    exact .nil
  | cons u us ih =>
    intro vs ds r hl hP
    cases r with
    | cons r1 r2 =>
      rename_i v vs
      cases ds with
      | nil => simp at hl
      | cons d ds =>
        rw [List.zip_cons_cons]
        refine .cons (hP v u d r1 (by simp)) (ih r2 (by simpa using hl) fun v u d a b => hP v u d a (by rw [List.zip_cons_cons]; exact List.mem_cons_of_mem _ b))
theorem zip_snd {α β : Type} : ∀ {xs : List α} {ys : List β}, xs.length = ys.length → (xs.zip ys).map (·.2) = ys
  | [], [], _ => rfl
  | [], _ :: _, h => by simp at h
  | _ :: _, [], h => by simp at h
  | x :: xs, y :: ys, h => by
    rw [List.zip_cons_cons, List.map_cons, zip_snd (by simpa using h)]
theorem vals_each : ∀ {out : List Value} {l : List (V × D)}, PySem.W.EachIs (fun u p => RelV p.1 u) out l → Vals (l.map (·.1)) out
  | _, _, .nil => .nil
  | _, _, .cons h t => .cons h (vals_each t)
theorem sortOk_of {xs : List D} (h : sortOk xs = true) : PySem.W.AllAlike xs ∧ PySem.W.Sortable xs ∧ ∀ d ∈ xs, d.depth ≤ 60 ∧ d.canLay0 = true := by
  simp only [sortOk, Bool.and_eq_true, Bool.or_eq_true, List.all_eq_true, decide_eq_true_eq] at h
  obtain ⟨⟨h1, h2⟩, h3⟩ := h
  refine ⟨fun d hd e he => h1 d hd e he, ?_, h3⟩
  rcases h2 with h2 | h2
  · refine .inl fun d hd => ?_
    have q := h2 d hd
    match d, q with
    | .tuple (x :: r), _ => exact ⟨x, r, rfl⟩
  · refine .inr fun d hd => ?_
    have q := h2 d hd
    constructor
    · rintro rfl
      simp at q
    · rintro xs rfl
      simp at q
theorem bi_sorted {k : Nat} (hr : Room k X.A) : CallR X (.builtin "sorted") (rBi X.K .sorted) := by
  intro pins s σ H vs us Q I rv h
  obtain ⟨F, l, sm, hl, g⟩ := h
  match l, hl, g with
  | [(t, .list xs)], hl, g =>
    obtain ⟨v, rfl, r⟩ := hl.one
    obtain ⟨g1, g2⟩ := g.guard
    obtain ⟨a, ws, rfl, h1, h2⟩ := r.list sm
    obtain ⟨its, rw', pl, hz⟩ := I.list h1.seq
    rw [Vals.ref1 rv]
    obtain ⟨o1, o2, o3⟩ := sortOk_of g1
    have hlen := h2.len
    have hu := hr.un
    have sn := zip_snd (xs := ws) (ys := xs) hlen
    have hlz : (ws.zip xs).length ≤ sizeLine := by
      rw [List.length_zip]
      omega
    -- how each item reads
    have lay : ∀ p ∈ ws.zip xs, ∀ u, RelV p.1 u → ∃ as, Reads s.heap u p.2 as := fun p hp u ru => by
      have hi := isL_zip h2 p hp
      have cl : p.2.canLay0 = true := by
        have hm : p.2 ∈ xs := by
          rw [← sn]
          exact List.mem_map_of_mem hp
        exact (o3 _ hm).2
      exact Dp.reads I p.2 p.1 u ((hi.mono (hp_same sm)).dp cl) ru
    refine PySem.W.sorted_data (bs := ws.zip xs) (enc := fun p : V × D => p.2) (R := fun u p => RelV p.1 u) pl.isList (each_of rw' hlen fun v u d ru _ => ru) (each_of rw' hlen fun v u d ru hm => lay _ hm u ru)
      (by rw [sn]; exact o1) (by rw [sn]; exact o2) hlz (fun b hb => ?_) fun out e1 e2 => ?_
    · have hm : b.2 ∈ xs := by
        rw [← sn]
        exact List.mem_map_of_mem hb
      have := (o3 _ hm).1
      omega
    · obtain ⟨ep, he'⟩ := PyProof.Rows.sortedAll_at s.heap its out.toArray
      have em : ((ws.zip xs).mergeSort (PySem.W.dataLe false fun p : V × D => p.2)).map (·.2) = xs.mergeSort leD := by
        rw [List.map_mergeSort (r := PySem.W.dataLe false fun p : V × D => p.2) (s := leD) (f := fun p : V × D => p.2) (fun _ _ _ _ => rfl), sn]
      have hI : IsL X.K (hp t.kid F H) (xs.mergeSort leD) (((ws.zip xs).mergeSort (PySem.W.dataLe false fun p : V × D => p.2)).map (·.1)) := by
        rw [← em]
        exact isL_of fun p hp => isL_zip h2 p ((List.mergeSort_perm _ _).mem_iff.mp hp)
      have hlen2 : (((ws.zip xs).mergeSort (PySem.W.dataLe false fun p : V × D => p.2)).map (·.1)).length ≤ sizeLine := by
        rw [List.length_map, List.length_mergeSort]
        exact hlz
      exact ⟨.ref _, _, I.laid (a := s.heap.objs.size + 1) (o := .lst (((ws.zip xs).mergeSort (PySem.W.dataLe false fun p : V × D => p.2)).map (·.1))) (t' := s.toks) (fun _ _ => PyProof.Rows.sortedAll_old) (Nat.le_succ _) ⟨hlen2, out, ep, vals_each e2, he'⟩, rfl,
        new_list (kid_cases t) sm hI g2 _ (I.hok.fresh (Nat.le_succ _))⟩
  | [(_, .none)], _, g => exact g.elim
  | [(_, .bool _)], _, g => exact g.elim
  | [(_, .str _)], _, g => exact g.elim
  | [(_, .int _)], _, g => exact g.elim
  | [(_, .tuple _)], _, g => exact g.elim
  | [(_, .dict _)], _, g => exact g.elim
  | [], _, g => exact g.elim
  | (_, a) :: _ :: _, _, g => cases a <;> exact g.elim
end
end PV

/-! PvSnd: what the look finds is what the reckoning says: expressions, tests, sources. -/
namespace PV
open PySem PySem.Spec PyProof.Rows L2

/-! ### a def that keeps a promise while no repr runs around it -/
structure FnG (P : Program) (w : World) (K : PySem.W.Frag) (mg : Str → Option Value) (base : Heap) (k : Nat) (f : Addr) (fd : FuncData) (ps : List Str) (sp : Sp) : Prop where
  len : ∀ vs H Q E, sp vs H Q E → vs.length = ps.length
  run : ∀ (A : Around) (outer : List PySem.Env) (s : Shared) (H : Hp) (args : Args) (us : List Value) (vs : List V) (Q : VK) (E : XK), Room k A → A.guards = some [] →
    Env0 P w K mg base A outer s H → BindsTo s fd args (ps.zip us) → Vals vs us → sp vs H Q E → codeAny (model P w) A (.call (.ref f) args) (CR (L2.CX P w) outer P w H s Q E) s
structure ExcC (K : PySem.W.Frag) (mg : Str → Option Value) (cref : Str → Value) (c : Str) (C : Addr) : Prop where
  mg : mg c = some (.ref C)
  cr : cref c = .ref C
  ex : PySem.W.excIn K C [.type "ValueError", .type "Exception", .type "BaseException", .type "object"] "ValueError.__new__" = true
  kp : PySem.W.keepIn K (.ref C) = true
  sb : PySem.W.subIn K (.ref C) (.type "BaseException") = some true
  ty : PySem.W.typeIn K (.ref C) = some (.type "type")
/-- the module around: the built-in names that are used, the defs by what they reckon, the exceptions -/
structure GC (P : Program) (w : World) (K : PySem.W.Frag) (mg : Str → Option Value) (base : Heap) (cref : Str → Value) (n : Nat) (G : Gam) (bs cs : List Str) : Prop where
  blt : ∀ x ∈ bs, mg x = none
  fns : ∀ x g, G x = some g → ∃ f fd ps, mg x = some (.ref f) ∧ PySem.W.keepIn K (.ref f) = true ∧ Binds K fd ps [] ∧ FnG P w K mg base n f fd ps (spD K cref ps.length g) ∧ ∀ ds, g ds ≠ .stuck → ds.length = ps.length
  exs : ∀ c ∈ cs, ∃ C, ExcC K mg cref c C
def wx (cref : Str → Value) (W : Str → L2.St → Hp → Prop) : WX := fun cls d σ H => d = none ∧ ∃ c, cls = cref c ∧ W c σ H
structure Fit (X : Cx) (W : Str → L2.St → Hp → Prop) (cref : Str → Value) (n : Nat) (G : Gam) (bs cs : List Str) (N : List Str) (sc : Scope) : Prop where
  gc : GC X.prog X.w X.K X.mg X.base cref n G bs cs
  hN : X.N = N
  nd : N.Nodup
  hsc : X.env.scope = sc
  calm : X.calm = true
  room : Room n X.A
  gd : X.A.guards = some []
  tk : Takes X (wx cref W)

/-! ### small facts about the text -/
def noStar : Expr → Bool | .Starred .. => false | _ => true
theorem star_cons {e : Expr} {es : List Expr} {env : PySem.Env} (h : noStar e = true) : starEach (e :: es) env = (false, eval e env) :: starEach es env := by
  cases e <;> first | rfl | cases h
theorem star_any {env : PySem.Env} {pos : Pos} : ∀ {es : List Expr}, es.all noStar = true → (backTo pos (starEach es env)).any (·.1) = false
  | [], _ => rfl
  | e :: es, h => by
    simp only [List.all_cons, Bool.and_eq_true] at h
    rw [star_cons h.1]
    show (false || (backTo pos (starEach es env)).any (·.1)) = false
    rw [star_any h.2]
    rfl
theorem plainIx_of {e : Expr} (h : noSl e = true) : PlainIx e := fun o i => by
  cases e <;> first | rfl | cases h
section
variable {N bs cs : List Str}
theorem chk_noStar {ex : Ex} {sc : Scope} {e : Expr} (h : chkE N bs ex sc e = true) : noStar e = true := by
  cases e <;> first | rfl | (cases ex <;> simp [chkE] at h)
theorem chks_noStar : ∀ {es : Exs} {sc : Scope} {xs : List Expr}, chkEs N bs es sc xs = true → xs.all noStar = true
  | .nil, _, [], _ => rfl
  | .nil, _, _ :: _, h => by simp [chkEs] at h
  | .cons _ _, _, [], h => by simp [chkEs] at h
  | .cons e es, sc, x :: xs, h => by
    simp only [chkEs, Bool.and_eq_true] at h
    simp only [List.all_cons, Bool.and_eq_true]
    exact ⟨chk_noStar h.1, chks_noStar h.2⟩
theorem vis_of {sc : Scope} {x : Str} (h : visB sc x = true) : Vis sc x := by
  unfold visB at h
  unfold Vis
  split at h <;> simp_all
theorem gl_of {sc : Scope} {x : Str} (h : glB sc x = true) : sc.names.lookup x = some .globalImplicit := by
  unfold glB at h
  split at h <;> simp_all
theorem nm_of {x : Str} (h : nmB x = true) : (x == ("__debug__" : Str)) = false ∧ (x == ("__classdict__" : Str)) = false := by
  simpa only [nmB, Bool.and_eq_true, Bool.not_eq_true'] using h
theorem noSet_mark {op : CmpOp} {e : Expr} (h : noSet e = true) : behindInMarks op e = false := by
  cases e <;> first | rfl | cases h
theorem chk_noSet {ex : Ex} {sc : Scope} {e : Expr} (h : chkE N bs ex sc e = true) : noSet e = true := by
  cases e <;> first | rfl | (cases ex <;> simp [chkE] at h)
end

/-! ### readings -/
section
variable (K : PySem.W.Frag) (W : Str → L2.St → Hp → Prop) (G : Gam)
def tE (ex : Ex) : TE := fun σ H Q => ∃ F env, Rel K F H σ env ∧ Aft F H (fun c H' => W c σ H') (ev G ex env) fun x F' H' => ∀ v, Res K H F' H' v x → Q v H'
def tP (p : Pt) : TO := fun σ H Q => ∃ F env, Rel K F H σ env ∧ Aft F H (fun c H' => W c σ H') (evP G p env) fun x F' H' => Q x H'
def tEs (es : Exs) : TA := fun σ H Q => ∃ F env, Rel K F H σ env ∧ Aft F H (fun c H' => W c σ H') (evs G es env) fun l F' H' => ∀ vs, ResL K H F' H' vs l → Q vs H'
def tT (t : Te) : TT := fun σ H Q => ∃ F env, Rel K F H σ env ∧ Aft F H (fun c H' => W c σ H') (evT G t env) fun b F' H' => Q b H'
def tTA (t : Tes) : TT := fun σ H Q => ∃ F env, Rel K F H σ env ∧ Aft F H (fun c H' => W c σ H') (evTA G t env) fun b F' H' => Q b H'
def tTO (t : Tes) : TT := fun σ H Q => ∃ F env, Rel K F H σ env ∧ Aft F H (fun c H' => W c σ H') (evTO G t env) fun b F' H' => Q b H'
def tAn (es : Exs) : TE := fun σ H Q => ∃ F env, Rel K F H σ env ∧ Aft F H (fun c H' => W c σ H') (evAnd G es env) fun x F' H' => ∀ v, Res K H F' H' v x → Q v H'
def tOn (es : Exs) : TE := fun σ H Q => ∃ F env, Rel K F H σ env ∧ Aft F H (fun c H' => W c σ H') (evOr G es env) fun x F' H' => ∀ v, Res K H F' H' v x → Q v H'
end
/-- an iterator walks the items ds: Po keeps what it walks, Pi bears the items -/
structure ItOk (K : PySem.W.Frag) (Po Pi : Hp) (J : It) (ds : List D) : Prop where
  go : ∀ H1 (i : Nat), Same Po H1 → i < ds.length → J.go i H1
  stop : ∀ H1, Same Po H1 → J.stop ds.length H1
  yld : ∀ F1 H1 (i : Nat) x H2 d, Same Po H1 → Same F1 H1 → ds[i]? = some d → (Same Pi F1 ∨ scal d = true) → J.yld i H1 x H2 → ∃ F2, Ext F1 H1 F2 H2 ∧ Is K F2 d x
def tSrc (K : PySem.W.Frag) (W : Str → L2.St → Hp → Prop) (G : Gam) (src : Src) : TI := fun σ H R' => ∃ F env, Rel K F H σ env ∧ Aft F H (fun c H' => W c σ H') (evSrc G src env) fun s F' H' =>
  ∀ J, ItOk K H' (hp s.1.kid F' H') J s.2 → (s.1.dm = .sh → ∃ F2, Ext F H F2 H' ∧ ItOk K F2 F2 J s.2) → R' J H'
theorem pe_imp {X : Cx} {e : Expr} {t t' : TE} (h : PE X e t) (k : ∀ σ H Q, t' σ H Q → t σ H Q) : PE X e t' := ⟨fun pins s σ H Q I q => h.run pins s σ H Q I (k σ H Q q)⟩
theorem pt_imp {X : Cx} {e : Expr} {t t' : TT} (h : PT X e t) (k : ∀ σ H Q, t' σ H Q → t σ H Q) : PT X e t' := ⟨fun pins s σ H Q I q => h.run pins s σ H Q I (k σ H Q q)⟩
theorem pw_imp {X : Cx} {e : Expr} {t t' : TT} (h : PW X e t) (k : ∀ σ H Q, t' σ H Q → t σ H Q) : PW X e t' := ⟨fun wh pins s σ H Q I q => h.run wh pins s σ H Q I (k σ H Q q)⟩
theorem po_imp {X : Cx} {e : Option Expr} {t t' : TO} (h : PO X e t) (k : ∀ σ H Q, t' σ H Q → t σ H Q) : PO X e t' := ⟨fun pins s σ H Q I q => h.run pins s σ H Q I (k σ H Q q)⟩
theorem pa_imp {X : Cx} {e : List Expr} {t t' : TA} (h : PA X e t) (k : ∀ σ H Q, t' σ H Q → t σ H Q) : PA X e t' := ⟨fun pos pins s σ H Q I q => h.run pos pins s σ H Q I (k σ H Q q)⟩
theorem pi_imp {X : Cx} {tg e : Expr} {t t' : TI} (h : PI X tg e t) (k : ∀ σ H Q, t' σ H Q → t σ H Q) : PI X tg e t' := ⟨fun pins s σ H R I q => h.run pins s σ H R I (k σ H R q)⟩

section
variable {X : Cx} {W : Str → L2.St → Hp → Prop} {cref : Str → Value} {n : Nat} {G : Gam} {bs cs N : List Str} {sc : Scope}
theorem Fit.gl (f : Fit X W cref n G bs cs N sc) {x : Str} (h : glB sc x = true) : Gl X x := by
  show X.env.scope.names.lookup x = _
  rw [f.hsc]
  exact gl_of h
theorem Fit.glN (f : Fit X W cref n G bs cs N sc) {x : Str} (h : glN sc bs x = true) : Gl X x ∧ X.mg x = none := by
  simp only [PV.glN, Bool.and_eq_true, decide_eq_true_eq] at h
  exact ⟨f.gl h.1, f.gc.blt x h.2⟩

/-! ### the call of a def -/
theorem run_g {pins : List (Addr × Obj)} {σ : L2.St} {H : Hp} {s : Shared} {Q : VK} {us : List Value} {vs : List V} {f : Addr} {fd : FuncData} {ps : List Str} {sp : Sp} {E : L2.St → XK} {k : Nat} (F : FnG X.prog X.w X.K X.mg X.base k f fd ps sp) (hr : Room k X.A) (hg : X.A.guards = some [])
    (hb : Binds X.K fd ps []) (hx : PassesAt (L2.CX X.prog X.w) X σ (E σ)) (I : Inv X pins σ H s) (r : Vals vs us) (h : sp vs H Q (E σ)) : wpAny (model X.prog X.w) X.A (PySem.call (.ref f) us) (EP X pins σ Q) X.xe s := by
  have hl : us.length = ps.length := r.length.symm.trans (F.len _ _ _ _ h)
  have b := hb s us I.kIn (by simpa using hl)
  rw [List.append_nil] at b
  have run := F.run X.A X.stack s H ⟨us, []⟩ us vs Q (E σ) hr hg I.env0 b r h
  refine wpAny_call (codeAny_mono run fun res s' q => ?_)
  match res, q with
  | .error e, q => exact hx pins H s e s' I q
  | .ok (.ret u), q => exact I.after q
  | .ok .next, q => exact False.elim q
  | .ok .brk, q => exact False.elim q
  | .ok .cont, q => exact False.elim q
theorem pe_g {f : Addr} {fd : FuncData} {ps : List Str} {sp : Sp} {E : L2.St → XK} {k : Nat} {x : Str} {p pos : Pos} {e : Expr} {es : List Expr} {t : TA} (F : FnG X.prog X.w X.K X.mg X.base k f fd ps sp) (hr : Room k X.A) (hg : X.A.guards = some []) (gx : Gl X x)
    (hm : X.mg x = some (.ref f)) (hk : PySem.W.keepIn X.K (.ref f) = true) (hb : Binds X.K fd ps []) (hx : ∀ σ, PassesAt (L2.CX X.prog X.w) X σ (E σ)) (ha : PA X (e :: es) t) (hs : (e :: es).all noStar = true) (hd : (x == ("__debug__" : Str)) = false) :
    PE X (.Call (.Name x p) (e :: es) [] pos) (tCallS sp E t) := by
  simp only [List.all_cons, Bool.and_eq_true] at hs
  refine ⟨fun pins s σ H Q I h => wpAny_Call_Name_kw (ld_glob I gx hm ?_ hd)⟩
  exact PySem.W.callWith_K (h₀ := X.base) I.ok.mod.kin hk (thn (ha.run pos pins s σ H _ I h) fun us s1 ⟨vs, H1, I1, r, q⟩ => ⟨I1.kIn, run_g F hr hg hb (hx σ) I1 r q⟩) (star_cons hs.1) (star_any hs.2)
end

/-! ### arguments: new roots frozen -/
section
variable {K : PySem.W.Frag}
theorem ResL.mono {H F' H' F2 H2 : Hp} : ∀ {vs : List V} {l : List TD}, ResL K H F' H' vs l → Ext F' H' F2 H2 → ResL K H F2 H2 vs l
  | _, [], h, _ => h
  | _, x :: l, ⟨v, ws, e, h1, h2⟩, z => ⟨v, ws, e, h1.mono z, ResL.mono h2 z⟩
theorem ResL.back {H H0 F' H' : Hp} (s : Same H0 H) : ∀ {vs : List V} {l : List TD}, ResL K H F' H' vs l → ResL K H0 F' H' vs l
  | _, [], h => h
  | _, x :: l, ⟨v, ws, e, h1, h2⟩ => ⟨v, ws, e, h1.back s, ResL.back s h2⟩
theorem ResL.is {H F' H' : Hp} (s : Same F' H') : ∀ {vs : List V} {l : List TD}, ResL K H F' H' vs l → IsL K H' (l.map (·.2)) vs
  | _, [], h => by
    have h' : _ = [] := h
    subst h'
    exact .nil
  | _, x :: l, ⟨v, ws, e, h1, h2⟩ => by
    subst e
    exact .cons (h1.is s) (ResL.is s h2)
/-- one new root more in the frozen part, whether it is there already or not -/
theorem dm_one {F H F' H' Fa : Hp} {v : V} {x : TD} (h : Res K H F' H' v x) (c : x.1.dm = .sh) (e : Ext F H Fa H') (s : Same F' Fa) : ∃ F2, Ext F H F2 H' ∧ Same Fa F2 ∧ Is K F2 x.2 v := by
  obtain ⟨t, d⟩ := x
  cases t with
  | sh => exact ⟨Fa, e, Same.refl _, Is.mono s h⟩
  | pk => cases c
  | rt => cases c
  | ow =>
    obtain ⟨p, rfl, n, q⟩ := h
    have fin : ∀ o, H' p = some o → (∀ F2, Same F' F2 → F2 p = some o → Is K F2 d (.ref p)) → ∃ F2, Ext F H F2 H' ∧ Same Fa F2 ∧ Is K F2 d (.ref p) := fun o ho k => by
      cases hF : Fa p with
      | none =>
        refine ⟨upd Fa p o, ⟨e.f.trans (same_upd hF), e.h, same_updF e.s ho, fun b z => ?_⟩, same_upd hF, k _ (s.trans (same_upd hF)) upd_same⟩
        by_cases c : b = p
        · subst c
          exact .inr n
        · rw [upd_ne c] at z
          exact e.n b z
      | some u =>
        have := e.s p u hF
        rw [ho] at this
        cases this
        exact ⟨Fa, e, Same.refl _, k Fa s hF⟩
    cases d with
    | list ds =>
      obtain ⟨_, vs, h1, h2⟩ := q
      refine fin _ h1 fun F2 s2 h3 => ?_
      simp only [Is]
      exact ⟨p, vs, rfl, .of h3, h2.mono s2⟩
    | dict ds =>
      obtain ⟨_, vs, h1, h2⟩ := q
      refine fin _ h1 fun F2 s2 h3 => ?_
      simp only [Is]
      exact ⟨p, vs, rfl, h3, h2.mono s2⟩
    | _ => exact q.elim
theorem jnL_cons {x : TD} {l : List TD} (j : jnL (x :: l) = .sh) : x.1.dm = .sh ∧ jnL l = .sh := by
  unfold jnL at j
  cases a : x.1.dm <;> cases b : jnL l <;> simp [a, b, Tag.jn] at j ⊢
theorem ResL.dm {F H F' H' : Hp} : ∀ {vs : List V} {l : List TD} {Fa : Hp}, ResL K H F' H' vs l → jnL l = .sh → Ext F H Fa H' → Same F' Fa → ∃ F2, Ext F H F2 H' ∧ Same Fa F2 ∧ IsL K F2 (l.map (·.2)) vs
  | _, [], Fa, h, _, e, s => by
    have h' : _ = [] := h
    subst h'
    exact ⟨Fa, e, Same.refl _, .nil⟩
  | _, x :: l, Fa, ⟨v, ws, e1, h1, h2⟩, j, e, s => by
    subst e1
    obtain ⟨j1, j2⟩ := jnL_cons j
    obtain ⟨F2, e2, s2, q2⟩ := dm_one h1 j1 e s
    obtain ⟨F3, e3, s3, q3⟩ := ResL.dm h2 j2 e2 (s.trans s2)
    exact ⟨F3, e3, s2.trans s3, .cons (Is.mono s3 q2) q3⟩
end
end PV

/-! PvSrc: what is walked, and the targets. -/
namespace PV
open PySem PySem.Spec PyProof.Rows L2
section
variable {K : PySem.W.Frag}
theorem seq_inj {a : Addr} {P : Hp} {vs : List V} (h : LL K P a vs) {H1 : Hp} (s : Same P H1) : SqL K H1 a vs := (h.mono s).seq
theorem ok_list {a : Addr} {Po Pi : Hp} {vs : List V} {ds : List D} (h : LL K Po a vs) (q : IsL K Pi ds vs) : ItOk K Po Pi (Itl K a) ds where
  go := fun H1 i s hi => ⟨vs, vs[i]'(by rw [q.len]; exact hi), seq_inj h s, List.getElem?_eq_getElem _⟩
  stop := fun H1 s => ⟨vs, seq_inj h s, by rw [q.len]; exact Nat.le_refl _⟩
  yld := fun F1 H1 i x H2 d s sf hd hs y => by
    obtain ⟨rfl, hx⟩ := y
    obtain ⟨v, e1, e2⟩ := q.get hd
    have e3 := hx vs (seq_inj h s)
    rw [e1] at e3
    cases e3
    refine ⟨F1, Ext.refl sf, ?_⟩
    rcases hs with hs | hs
    · exact e2.mono hs
    · exact e2.scal hs
theorem ok_tup {a : Addr} {Po Pi : Hp} {vs : List V} {ds : List D} (h : SqT K Po a vs) (q : IsL K Pi ds vs) : ItOk K Po Pi (Itt K a) ds where
  go := fun H1 i s hi => ⟨vs, vs[i]'(by rw [q.len]; exact hi), sqT_mono s h, List.getElem?_eq_getElem _⟩
  stop := fun H1 s => ⟨vs, sqT_mono s h, by rw [q.len]; exact Nat.le_refl _⟩
  yld := fun F1 H1 i x H2 d s sf hd hs y => by
    obtain ⟨rfl, hx⟩ := y
    obtain ⟨v, e1, e2⟩ := q.get hd
    have e3 := hx vs (sqT_mono s h)
    rw [e1] at e3
    cases e3
    refine ⟨F1, Ext.refl sf, ?_⟩
    rcases hs with hs | hs
    · exact e2.mono hs
    · exact e2.scal hs
theorem ranged_len (a b : Int) : (ranged a b).length = (b - a).toNat := by simp [ranged]
theorem ranged_get {a b : Int} {i : Nat} (h : i < (b - a).toNat) : (ranged a b)[i]? = some (.int (a + (i : Nat))) := by
  simp [ranged, List.getElem?_map, List.getElem?_range h]
theorem ok_rng {lo hi : Int} {Po Pi : Hp} : ItOk K Po Pi (Itr lo (hi - lo).toNat) (ranged lo hi) where
  go := fun H1 i s h => by
    rw [ranged_len] at h
    exact h
  stop := fun H1 s => by
    rw [ranged_len]
    exact Nat.le_refl _
  yld := fun F1 H1 i x H2 d s sf hd hs y => by
    obtain ⟨rfl, rfl⟩ := y
    have hi : i < (hi - lo).toNat := by
      have := (List.getElem?_eq_some_iff.mp hd).1
      rwa [ranged_len] at this
    rw [ranged_get hi] at hd
    cases hd
    exact ⟨F1, Ext.refl sf, int_is⟩
theorem enum_len : ∀ (ds : List D) (k : Nat), (enumD k ds).length = ds.length
  | [], _ => rfl
  | _ :: r, k => by
    unfold enumD
    rw [List.length_cons, List.length_cons, enum_len r]
theorem enum_get : ∀ (ds : List D) (k i : Nat) (d : D), (enumD k ds)[i]? = some d → ∃ e, ds[i]? = some e ∧ d = .tuple [.int ((k + i : Nat) : Int), e]
  | [], _, _, _, h => by simp [enumD] at h
  | e :: r, k, 0, d, h => by
    simp [enumD] at h
    exact ⟨e, rfl, by rw [← h]; rfl⟩
  | e :: r, k, i + 1, d, h => by
    unfold enumD at h
    obtain ⟨e', h1, h2⟩ := enum_get r (k + 1) i d (by simpa using h)
    exact ⟨e', by simpa using h1, by rw [h2, show k + 1 + i = k + (i + 1) by omega]⟩
theorem ok_enum {a : Addr} {Po Pi : Hp} {vs : List V} {ds : List D} (h : LL K Po a vs) (q : IsL K Pi ds vs) : ItOk K Po Pi (Ite K a) (enumD 0 ds) where
  go := fun H1 i s hi => by
    rw [enum_len] at hi
    exact ⟨vs, vs[i]'(by rw [q.len]; exact hi), seq_inj h s, List.getElem?_eq_getElem _⟩
  stop := fun H1 s => ⟨vs, seq_inj h s, by rw [q.len, enum_len]; exact Nat.le_refl _⟩
  yld := fun F1 H1 i x H2 d s sf hd hs y => by
    obtain ⟨T, x1, rfl, hT, rfl, hx⟩ := y
    obtain ⟨e, he, rfl⟩ := enum_get ds 0 i d hd
    obtain ⟨v, e1, e2⟩ := q.get he
    have e3 := hx vs (seq_inj h s)
    rw [e1] at e3
    cases e3
    have hs' : Same Pi F1 := by
      rcases hs with hs | hs
      · exact hs
      · simp [scal] at hs
    refine ⟨upd F1 T (.tup [.int (i : Nat), x1]), Ext.new sf hT, ?_⟩
    simp only [Is]
    refine ⟨T, _, rfl, SqT.of upd_same, .cons (by rw [Nat.zero_add]; exact int_is) (.cons ((e2.mono hs').mono (same_upd (sf.free hT))) .nil)⟩
theorem zipD_get : ∀ (ds es : List D) (i : Nat) (d : D), (zipD ds es)[i]? = some d → ∃ a b, ds[i]? = some a ∧ es[i]? = some b ∧ d = .tuple [a, b]
  | [], _, _, _, h => by simp [zipD] at h
  | _ :: _, [], _, _, h => by simp [zipD] at h
  | a :: r, b :: s, 0, d, h => by
    simp [zipD] at h
    exact ⟨a, b, rfl, rfl, h.symm⟩
  | a :: r, b :: s, i + 1, d, h => by
    unfold zipD at h
    obtain ⟨x, y, h1, h2, h3⟩ := zipD_get r s i d (by simpa using h)
    exact ⟨x, y, by simpa using h1, by simpa using h2, h3⟩
theorem zipD_len : ∀ (ds es : List D), (zipD ds es).length = min ds.length es.length
  | [], es => by simp [zipD]
  | _ :: _, [] => by simp [zipD]
  | a :: r, b :: s => by
    unfold zipD
    rw [List.length_cons, List.length_cons, List.length_cons, zipD_len r s]
    omega
theorem ok_zip {a b : Addr} {Po Pi : Hp} {vs ws : List V} {ds es : List D} (h : LL K Po a vs) (q : IsL K Pi ds vs) (h' : LL K Po b ws) (q' : IsL K Pi es ws) : ItOk K Po Pi (Itz K a b) (zipD ds es) where
  go := fun H1 i s hi => by
    rw [zipD_len] at hi
    have l1 : i < vs.length := by rw [q.len]; omega
    have l2 : i < ws.length := by rw [q'.len]; omega
    exact ⟨vs, ws, vs[i], ws[i], seq_inj h s, seq_inj h' s, List.getElem?_eq_getElem _, List.getElem?_eq_getElem _⟩
  stop := fun H1 s => ⟨vs, ws, seq_inj h s, seq_inj h' s, by rw [q.len, q'.len, zipD_len]; omega⟩
  yld := fun F1 H1 i x H2 d s sf hd hs y => by
    obtain ⟨T, x1, y1, rfl, hT, rfl, hx, hy⟩ := y
    obtain ⟨d1, d2, g1, g2, rfl⟩ := zipD_get ds es i d hd
    obtain ⟨v, e1, e2⟩ := q.get g1
    obtain ⟨u, e1', e2'⟩ := q'.get g2
    have e3 := hx vs (seq_inj h s)
    rw [e1] at e3
    cases e3
    have e3 := hy ws (seq_inj h' s)
    rw [e1'] at e3
    cases e3
    have hs' : Same Pi F1 := by
      rcases hs with hs | hs
      · exact hs
      · simp [scal] at hs
    refine ⟨upd F1 T (.tup [x1, y1]), Ext.new sf hT, ?_⟩
    have m := same_upd (o := .tup [x1, y1]) (sf.free hT)
    simp only [Is]
    exact ⟨T, _, rfl, SqT.of upd_same, .cons ((e2.mono hs').mono m) (.cons ((e2'.mono hs').mono m) .nil)⟩
theorem ok_rev {a : Addr} {Po Pi : Hp} {vs : List V} {ds : List D} (h : LL K Po a vs) (q : IsL K Pi ds vs) : ItOk K Po Pi (Itv K a vs.length) ds.reverse where
  go := fun H1 i s hi => by
    rw [List.length_reverse, ← q.len] at hi
    have l1 : vs.length - 1 - i < vs.length := by omega
    exact ⟨hi, vs, vs[vs.length - 1 - i], seq_inj h s, List.getElem?_eq_getElem _⟩
  stop := fun H1 s => by
    rw [List.length_reverse, ← q.len]
    exact Nat.le_refl _
  yld := fun F1 H1 i x H2 d s sf hd hs y => by
    obtain ⟨rfl, hx⟩ := y
    have hi : i < ds.length := by
      have := (List.getElem?_eq_some_iff.mp hd).1
      rwa [List.length_reverse] at this
    rw [List.getElem?_reverse hi] at hd
    obtain ⟨v, e1, e2⟩ := q.get hd
    have e3 := hx vs (seq_inj h s)
    rw [q.len, e1] at e3
    cases e3
    refine ⟨F1, Ext.refl sf, ?_⟩
    rcases hs with hs | hs
    · exact e2.mono hs
    · exact e2.scal hs

/-! ### a source's value, whatever its tag: for a comprehension, for a loop -/
theorem res_dm2 {F H F' H' : Hp} {v : V} {x : TD} (e : Ext F H F' H') (h : Res K H F' H' v x) (c : x.1.dm = .sh) : ∃ F2, Ext F H F2 H' ∧ Same F' F2 ∧ Is K F2 x.2 v :=
  dm_one h c e (Same.refl _)
theorem is_list {P : Hp} {ds : List D} {v : V} (h : Is K P (.list ds) v) : ∃ a vs, v = .ref a ∧ LL K P a vs ∧ IsL K P ds vs := by simpa only [Is] using h
theorem is_tuple {P : Hp} {ds : List D} {v : V} (h : Is K P (.tuple ds) v) : ∃ a vs, v = .ref a ∧ SqT K P a vs ∧ IsL K P ds vs := by simpa only [Is] using h
theorem LL.inj_of {X : Cx} {pins : List (Addr × Obj)} {σ : L2.St} {H : Hp} {s : Shared} {a : Addr} {xs ys : List V} (I : Inv X pins σ H s) (h : LL X.K H a xs) (h' : LL X.K H a ys) : xs = ys := I.list_inj h.seq h'.seq
end

/-! ### targets -/
section
variable {X : Cx} {N : List Str} {sc : Scope} {cok : Str → Bool}
theorem st_of {i : Nat} {x : Str} (hN : X.N = N) (hsc : X.env.scope = sc) (hc : ∀ x, cok x = true → X.fn x = true) (h : stB N sc cok i x = true) : X.N[i]? = some x ∧ Loc X.env.scope x ∧ (X.fn x = true ∨ X.env.scope.names.lookup x = some .local) := by
  subst hN hsc
  simp only [stB, Bool.and_eq_true, decide_eq_true_eq] at h
  obtain ⟨h1, h2⟩ := h
  refine ⟨h1, ?_⟩
  split at h2
  · rename_i q
    exact ⟨.inl q, .inr q⟩
  · rename_i q
    exact ⟨.inr q, .inl (hc x h2)⟩
  · cases h2
def gNs : List Nat → TGs | [] => gNil | i :: r => gCons (gName i) (gNs r)
theorem gNs_go : ∀ {is : List Nat} {vs : List V} {σ : L2.St} {H : Hp} {Q : L2.St → Hp → Prop}, vs.length = is.length → Q ((is.zip vs).foldl (fun e p => e.set p.1 (some p.2)) σ) H → gNs is vs σ H Q
  | [], vs, σ, H, Q, hl, h => by
    have : vs = [] := List.length_eq_zero_iff.mp hl
    subst this
    exact ⟨rfl, h⟩
  | i :: is, [], _, _, _, hl, _ => by simp at hl
  | i :: is, v :: vs, σ, H, Q, hl, h => ⟨v, vs, rfl, gNs_go (by simpa using hl) (by simpa using h)⟩
def gTg (K : PySem.W.Frag) : Tg → TG | .nm i => gName i | .tp is => gTup K is.length (gNs is)
theorem names_each {cok : Str → Bool} : ∀ {is : List Nat} {es : List Expr}, chkTg.go N sc cok is es = true → (assignEach es X.env).length = is.length ∧ (assignEach es X.env).findIdx? (·.1) = none
  | [], [], _ => ⟨rfl, rfl⟩
  | [], _ :: _, h => by simp [chkTg.go] at h
  | _ :: _, [], h => by simp [chkTg.go] at h
  | i :: is, e :: es, h => by
    cases e with
    | Name x p =>
      simp only [chkTg.go, Bool.and_eq_true] at h
      obtain ⟨h1, h2⟩ := names_each h.2
      refine ⟨?_, ?_⟩
      · show (assignEach es X.env).length + 1 = is.length + 1
        rw [h1]
      · show List.findIdx? (·.1) ((false, assign (.Name x p) X.env) :: assignEach es X.env) = none
        rw [List.findIdx?_cons, h2]
        rfl
    | _ => simp [chkTg.go] at h
theorem pgs_of (hN : X.N = N) (nd : N.Nodup) (hsc : X.env.scope = sc) (hc : ∀ x, cok x = true → X.fn x = true) : ∀ {is : List Nat} {es : List Expr}, chkTg.go N sc cok is es = true → PGs X es (gNs is)
  | [], [], _ => pgs_nil
  | [], _ :: _, h => by simp [chkTg.go] at h
  | _ :: _, [], h => by simp [chkTg.go] at h
  | i :: is, e :: es, h => by
    cases e with
    | Name x p =>
      simp only [chkTg.go, Bool.and_eq_true] at h
      obtain ⟨a, b, c⟩ := st_of hN hsc hc h.1
      exact pgs_cons (pg_name (by rw [hN]; exact nd) a b c) (pgs_of hN nd hsc hc h.2) rfl
    | _ => simp [chkTg.go] at h
theorem pg_of (hN : X.N = N) (nd : N.Nodup) (hsc : X.env.scope = sc) (hc : ∀ x, cok x = true → X.fn x = true) (calm : X.calm = true) {tg : Tg} {e : Expr} (h : chkTg N sc cok tg e = true) : PG X e (gTg X.K tg) := by
  cases tg with
  | nm i =>
    cases e with
    | Name x p =>
      obtain ⟨a, b, c⟩ := st_of hN hsc hc (by simpa only [chkTg] using h)
      exact pg_name (by rw [hN]; exact nd) a b c
    | _ => simp [chkTg] at h
  | tp is =>
    cases e with
    | Tuple es k p =>
      have h' : chkTg.go N sc cok is es = true := by simpa only [chkTg] using h
      obtain ⟨l1, l2⟩ := names_each (X := X) h'
      exact pg_tup calm (pgs_of hN nd hsc hc h') l1 l2
    | _ => simp [chkTg] at h
end
section
variable {K : PySem.W.Frag}
theorem rel_sets {F H : Hp} : ∀ {is : List Nat} {ds : List D} {vs : List V} {σ : L2.St} {env : Env}, Rel K F H σ env → IsL K F ds vs → Rel K F H ((is.zip vs).foldl (fun e p => e.set p.1 (some p.2)) σ) ((is.zip ds).foldl (fun e p => e.set p.1 (.sh p.2)) env)
  | [], _, _, _, _, r, _ => r
  | i :: is, [], vs, _, _, r, h => by
    simp only [IsL] at h
    subst h
    exact r
  | i :: is, d :: ds, _, σ, env, r, h => by
    simp only [IsL] at h
    obtain ⟨v, w, rfl, h1, h2⟩ := h
    show Rel K F H ((is.zip w).foldl (fun e p => e.set p.1 (some p.2)) (σ.set i (some v))) ((is.zip ds).foldl (fun e p => e.set p.1 (.sh p.2)) (env.set i (.sh d)))
    exact rel_sets (r.set h1) h2
/-- a target bound -/
theorem bind_ok {F H : Hp} {σ : L2.St} {env env2 : Env} {tg : Tg} {d : D} {v : V} {Q : L2.St → Hp → Prop} {t : Tag} (r : Rel K F H σ env) (h : Is K F d v) (e : bindT tg (t, d) env = some env2)
    (k : ∀ σ2, Rel K F H σ2 env2 → (∀ vs : List Nat, tgIn tg vs = true → wipe σ2 vs = wipe σ vs) → Q σ2 H) : gTg K tg v σ H Q := by
  have ws : ∀ (vs : List Nat) (i : Nat) (x : Option V) (τ : L2.St), i ∈ vs → wipe (τ.set i x) vs = wipe τ vs := fun vs i x τ hi => by
    apply List.ext_getElem?
    intro j
    by_cases hj : j ∈ vs
    · have a1 : ∀ ρ : L2.St, ρ.length = τ.length → (wipe ρ vs)[j]? = if j < τ.length then some none else none := fun ρ hl => wiped ρ τ vs j hj hl
      rw [a1 _ (by rw [List.length_set]), a1 τ rfl]
    · rw [wipe_at hj, wipe_at hj, List.getElem?_set_ne (fun z => hj (by rw [← z]; exact hi))]
  cases tg with
  | nm i =>
    cases t <;> first | cases e | skip
    refine k _ (r.set h) fun vs hv => ws vs i _ σ (by simpa [tgIn] using hv)
  | tp is =>
    cases t <;> first | (cases d <;> cases e) | skip
    cases d with
    | tuple ds =>
      by_cases hl : ds.length = is.length
      · simp only [bindT, if_pos hl] at e
        cases e
        obtain ⟨a, vs, rfl, h1, h2⟩ := is_tuple h
        refine ⟨a, vs, rfl, sqT_mono r.sub h1, by rw [h2.len, hl], gNs_go (by rw [h2.len, hl]) (k _ (rel_sets r h2) fun us hu => ?_)⟩
        have : ∀ (is : List Nat) (ws' : List V) (τ : L2.St), (∀ i ∈ is, i ∈ us) → wipe ((is.zip ws').foldl (fun e p => e.set p.1 (some p.2)) τ) us = wipe τ us := by
          intro is
          induction is with
          | nil => intro ws' τ _; rfl
          | cons i r ih =>
            intro ws' τ hh
            cases ws' with
            | nil => rfl
            | cons v w =>
              show wipe ((r.zip w).foldl (fun e p => e.set p.1 (some p.2)) (τ.set i (some v))) us = _
              rw [ih w _ fun j hj => hh j (List.mem_cons_of_mem _ hj), ws us i _ τ (hh i List.mem_cons_self)]
        exact this is vs σ (by simpa [tgIn] using hu)
      · simp only [bindT, if_neg hl] at e
        cases e
    | _ => cases e
where
  wiped (ρ τ : L2.St) : ∀ (vs : List Nat) (j : Nat), j ∈ vs → ρ.length = τ.length → (wipe ρ vs)[j]? = if j < τ.length then some none else none
    | [], j, h, _ => by simp at h
    | v :: vs, j, h, hl => by
      unfold wipe
      by_cases c : v = j
      · subst c
        by_cases q : v < τ.length
        · rw [if_pos q, List.getElem?_set_self (by rw [wipe_length, hl]; exact q)]
        · rw [if_neg q, List.getElem?_eq_none (by rw [List.length_set, wipe_length, hl]; omega)]
      · rw [List.getElem?_set_ne c]
        exact wiped ρ τ vs j (by rcases List.mem_cons.mp h with z | z; exact absurd z.symm c; exact z) hl
end
end PV

/-! PvExp: every expression that the look takes is read by the reckoning. -/
namespace PV
open PySem PySem.Spec PyProof.Rows L2
def W0 : Str → L2.St → Hp → Prop := fun _ _ _ => False
theorem Ext.mut {F H F' H' : Hp} (e : Ext F H F' H') {p : Addr} {o : HO} (h : H p = none) (f : F' p = none) : Ext F H F' (upd H' p o) := by
  refine ⟨e.f, fun b u q => ?_, fun b u q => ?_, e.n⟩
  · rw [upd_ne (ne_of_none q h)]
    exact e.h _ _ q
  · rw [upd_ne (ne_of_none q f)]
    exact e.s _ _ q
theorem wipe_wipe (σ : L2.St) (vs : List Nat) : wipe (wipe σ vs) vs = wipe σ vs := by
  apply List.ext_getElem?
  intro j
  by_cases hj : j ∈ vs
  · rw [bind_ok.wiped (wipe σ vs) σ vs j hj (wipe_length σ vs), bind_ok.wiped σ σ vs j hj rfl]
  · rw [wipe_at hj]
theorem lim_lt : lim < sizeLine := by
  rw [sizeLine_eq]
  decide
section
variable {K : PySem.W.Frag} {G : Gam}
theorem cpl_cons {f : D → R (Option D)} {d : D} {r s : List D} (h : cpl f (d :: r) = .ok s) : ∃ o t, f d = .ok o ∧ cpl f r = .ok t ∧ s = (match o with | none => t | some x => x :: t) := by
  unfold cpl at h
  cases q : f d with
  | ok o =>
    rw [q] at h
    cases q2 : cpl f r with
    | ok t =>
      rw [q2] at h
      cases o with
      | none => exact ⟨none, t, rfl, rfl, by cases h; rfl⟩
      | some x => exact ⟨some x, t, rfl, rfl, by cases h; rfl⟩
    | exc c => rw [q2] at h; cases h
    | stuck => rw [q2] at h; cases h
  | exc c => rw [q] at h; cases h
  | stuck => rw [q] at h; cases h
theorem Rbind_ok {α β : Type} {r : R α} {f : α → R β} {b : β} (h : r.bind f = .ok b) : ∃ a, r = .ok a ∧ f a = .ok b := by
  cases r with
  | ok a => exact ⟨a, rfl, h⟩
  | exc c => cases h
  | stuck => cases h
theorem shOnly_ok {x : TD} {d : D} (h : shOnly x = .ok d) : (nt x.1 x.2).dm = .sh ∧ d = x.2 := by
  unfold shOnly at h
  split at h
  · rename_i q
    cases h
    exact ⟨q, rfl⟩
  · cases h
/-- a list comprehension -/
theorem lc_read {W : Str → L2.St → Hp → Prop} {own : List (Str × Nat)} {tg : Tg} {src : Src} {c : Tes} {e : Ex} (hw : tgIn tg (own.map (·.2)) = true) (σ : L2.St) (H : Hp) (Q : VK) (h : tE K W G (.cpr own tg src c e) σ H Q) :
    tLc (tSrc K W G src) (gTg K tg) (tTA K W0 G c) (tE K W0 G e) (own.map (·.2)) σ H Q := by
  obtain ⟨F, env, rel, h⟩ := h
  unfold ev at h
  refine ⟨F, env, rel, h.bind.imp fun s F1 H1 hs e1 h1 => ?_⟩
  intro J hJ _ Dl hD
  -- the whole comprehension is reckoned
  generalize hf : (fun d => match bindT tg (nt s.1.kid d, d) (wipeE env (own.map (·.2))) with
        | none => .stuck
        | some env2 => (evTA G c env2).bind fun t => match t with | true => (ev G e env2).bind fun x => (shOnly x).bind fun d => .ok (some d) | false => .ok none : D → R (Option D)) = f at h1
  cases hc : cpl f s.2 with
  | exc z => rw [hc] at h1; exact h1.elim
  | stuck => rw [hc] at h1; exact h1.elim
  | ok r =>
    rw [hc] at h1
    have h2 : Aft F1 H1 (fun c H' => W c σ H') (PV.guard (decide (s.2.length ≤ lim)) (.ok (.ow, .list r))) (fun x F' H' => ∀ v, Res K H F' H' v x → Q v H') := h1
    have hz : s.2.length ≤ lim := by
      by_cases q : s.2.length ≤ lim
      · exact q
      · rw [decide_eq_false q] at h2
        exact h2.elim
    rw [decide_eq_true hz] at h2
    have fin : ∀ F' H', Ext F1 H1 F' H' → ∀ v, Res K H F' H' v (.ow, .list r) → Q v H' := h2
    clear h1 h2
    refine ⟨fun i m H2 => m = s.2.length - i ∧ i ≤ s.2.length ∧ ∃ F2 es acc rest, Ext F1 H1 F2 H2 ∧ F2 Dl = none ∧ H2 Dl = some (.lst acc) ∧ IsL K F2 es acc ∧ es.length ≤ i ∧ cpl f (s.2.drop i) = .ok rest ∧ es ++ rest = r,
      ⟨s.2.length, rfl, Nat.zero_le _, F1, [], [], r, Ext.new0 e1.s hD, e1.s.free hD, upd_same, .nil, Nat.le_refl _, by rw [List.drop_zero]; exact hc, rfl⟩, ?_⟩
    rintro i m H2 ⟨rfl, hi, F2, es, acc, rest, x1, x2, x3, x4, x5, x6, x7⟩
    by_cases hlt : i < s.2.length
    · refine .inr ⟨hJ.go H2 i x1.h hlt, _, fun H' z => ⟨s.2.length - (i + 1), by omega, z⟩, fun x H3 y => ?_⟩
      rw [List.drop_eq_getElem_cons hlt] at x6
      obtain ⟨o, t, y1, y2, y3⟩ := cpl_cons x6
      have hd : s.2[i]? = some s.2[i] := List.getElem?_eq_getElem hlt
      generalize s.2[i] = d at y1 hd
      rw [← hf] at y1
      cases hb : bindT tg (nt s.1.kid d, d) (wipeE env (own.map (·.2))) with
      | none => simp only [hb] at y1; cases y1
      | some env2 =>
        simp only [hb] at y1
        obtain ⟨b, z1, z2⟩ := Rbind_ok y1
        have hsc : Same (hp s.1.kid F1 H1) F2 ∨ scal d = true := by
          rcases kid_cases s.1 with q | q
          · rw [q]
            exact .inl x1.f
          · rw [q] at hb
            unfold nt at hb
            by_cases q2 : scal d = true
            · exact .inr q2
            · rw [if_neg q2] at hb
              cases tg <;> cases d <;> cases hb
        obtain ⟨F3, w1, w2⟩ := hJ.yld F2 H2 i x H3 d x1.h x1.s hd hsc y
        have g3 : F3 Dl = none := w1.gone x2 (by rw [x3]; intro z; cases z)
        have h3 : H3 Dl = some (.lst acc) := w1.h _ _ x3
        have r3 : Rel K F3 H3 σ env := ((rel.ext e1).ext x1).ext w1
        refine bind_ok (r3.wipe _) w2 hb fun σ2 r2 hwp => ⟨by rw [hwp _ hw, wipe_wipe], F3, env2, r2, ?_⟩
        rw [z1]
        intro F4 H4 e4
        have g4 : F4 Dl = none := e4.gone g3 (by rw [h3]; intro z; cases z)
        have h4 : H4 Dl = some (.lst acc) := e4.h _ _ h3
        cases b with
        | false =>
          cases z2
          refine (if_neg Bool.false_ne_true).mpr ⟨rfl, by omega, F4, es, acc, t, (x1.trans w1).trans e4, g4, h4, (x4.mono w1.f).mono e4.f, by omega, y2, ?_⟩
          rw [← x7, y3]
        | true =>
          obtain ⟨x', z3, z4⟩ := Rbind_ok z2
          obtain ⟨dd, z5, z6⟩ := Rbind_ok z4
          cases z6
          obtain ⟨z7, z8⟩ := shOnly_ok z5
          subst z8
          refine (if_pos rfl).mpr ⟨F4, env2, r2.ext e4, ?_⟩
          rw [z3]
          intro F5 H5 e5 v rv
          have g5 : F5 Dl = none := e5.gone g4 (by rw [h4]; intro z; cases z)
          have h5 : H5 Dl = some (.lst acc) := e5.h _ _ h4
          obtain ⟨F6, e6, s6, i6⟩ := res_dm2 e5 (rv.nt e5.s) z7
          have g6 : F6 Dl = none := e6.gone g4 (by rw [h4]; intro z; cases z)
          have la : acc.length = es.length := x4.len
          have ll := lim_lt
          refine ⟨acc, h5, by omega, rfl, by omega, F6, es ++ [x'.2], acc ++ [v], t, (((x1.trans w1).trans e4).trans e6).mut hD g6, g6, upd_same, ?_, by rw [List.length_append, List.length_singleton]; omega, y2, ?_⟩
          · exact ((((x4.mono w1.f).mono e4.f).mono e5.f).mono s6).app (.one i6)
          · rw [← x7, y3, List.append_assoc]
            rfl
    · have e0 : i = s.2.length := by omega
      subst e0
      rw [List.drop_length] at x6
      cases x6
      refine .inl ⟨hJ.stop H2 x1.h, fin F2 H2 x1 _ ⟨Dl, rfl, e1.h.free hD, x2, acc, x3, ?_⟩⟩
      rw [← x7, List.append_nil]
      exact x4
end

section
variable {cref : Str → Value} {n : Nat} {G : Gam} {bs cs N : List Str}
theorem Fit.nm {X : Cx} {W : Str → L2.St → Hp → Prop} {sc : Scope} (f : Fit X W cref n G bs cs N sc) {i : Nat} {x : Str} (h : N[i]? = some x) (v : visB sc x = true) (d : nmB x = true) {pos : Pos} : PE X (.Name x pos) (tVar i) :=
  pe_var (by rw [f.hN]; exact h) (by rw [f.hsc]; exact vis_of v) (nm_of d).1 (nm_of d).2
theorem Fit.blk {X : Cx} {W : Str → L2.St → Hp → Prop} {sc : Scope} (f : Fit X W cref n G bs cs N sc) (s : Shared) (H : Hp) (scope : Scope) (cl : List (Str × Addr)) (C : Addr) (fp : List Addr) :
    Fit (X.blk s H scope (compEnvC scope cl C X.env) fp) W0 cref n G bs cs N (relS scope sc) where
  gc := f.gc
  hN := f.hN
  nd := f.nd
  hsc := by
    rw [← f.hsc]
    rfl
  calm := f.calm
  room := f.room
  gd := f.gd
  tk := takes0.imp fun c d σ H q => by
    obtain ⟨_, c, _, z⟩ := q
    exact z
theorem nofold {e : Expr} {env : PySem.Env} (h : noSet e = true) (x : Value) : foldedSetIterable e env x = pure x := by
  cases e <;> first | rfl | cases h
theorem Bi.rule {X : Cx} {W : Str → L2.St → Hp → Prop} {sc : Scope} (f : Fit X W cref n G bs cs N sc) (b : Bi) {p pos : Pos} {e : Expr} {es : List Expr} {t : TA} (hg : Gl X b.name) (hm : X.mg b.name = none) (ha : PA X (e :: es) t) (hs : (e :: es).all noStar = true) :
    PE X (.Call (.Name b.name p) (e :: es) [] pos) (tCB (rBi X.K b) t) := by
  simp only [List.all_cons, Bool.and_eq_true] at hs
  have h1 := star_cons (es := es) (env := X.env) hs.1
  have h2 := star_any (env := X.env) (pos := pos) hs.2
  cases b with
  | len => exact pe_callB bi_len hg hm boot_len ha (by decide) (by decide) h1 h2
  | abs => exact pe_callB bi_abs hg hm boot_abs ha (by decide) (by decide) h1 h2
  | min => exact pe_callB (bi_min f.calm) hg hm boot_min ha (by decide) (by decide) h1 h2
  | max => exact pe_callB (bi_max f.calm) hg hm boot_max ha (by decide) (by decide) h1 h2
  | int => exact pe_callTy bi_int hg hm PyProof.Rows.boot_int ha (by decide) (by decide) h1 h2
  | list => exact pe_callTy bi_list hg hm PyProof.Rows.boot_list ha (by decide) (by decide) h1 h2
  | tuple => exact pe_callTy bi_tuple hg hm PyProof.Rows.boot_tuple ha (by decide) (by decide) h1 h2
  | sum => exact pe_callB (bi_sum f.calm) hg hm boot_sum ha (by decide) (by decide) h1 h2
  | any => exact pe_callB (bi_any f.calm) hg hm boot_any ha (by decide) (by decide) h1 h2
  | all => exact pe_callB (bi_all f.calm) hg hm boot_all ha (by decide) (by decide) h1 h2
  | sorted => exact pe_callB (bi_sorted f.room) hg hm boot_sorted ha (by decide) (by decide) h1 h2
  | repr => exact pe_callB (bi_repr f.room f.gd) hg hm boot_repr ha (by decide) (by decide) h1 h2
  | str => exact pe_callTy bi_str hg hm PyProof.Rows.boot_str ha (by decide) (by decide) h1 h2

/-! ### isinstance -/
theorem tyx_list {K : PySem.W.Frag} {H : Hp} {a : Addr} {vs : List V} (h : LL K H a vs) : TyX K H (.ref a) (.type "list") := by
  rcases h with (h | ⟨o, h⟩) | ⟨its, n, h, _⟩
  · exact .base (.lst h)
  · exact .base (.frz h)
  · exact .kList h rfl
theorem tyx_tuple {K : PySem.W.Frag} {H : Hp} {a : Addr} {vs : List V} (h : SqT K H a vs) : TyX K H (.ref a) (.type "tuple") := by
  rcases h with (h | ⟨o, h⟩) | ⟨o, its, n, h, c, _⟩
  · exact .base (.tup h)
  · exact .fTuple h
  · exact .kTuple h c
def tyName : D → String | .none => "NoneType" | .bool _ => "bool" | .int _ => "int" | .str _ => "str" | .list _ => "list" | .tuple _ => "tuple" | .dict _ => "dict"
theorem tyx_of {K : PySem.W.Frag} {H : Hp} {d : D} {v : V} (h : Is K H d v) (hd : ∀ kvs, d ≠ .dict kvs) : TyX K H v (.type (tyName d)) := by
  cases d with
  | none => rw [is_none h]; exact .base .non
  | bool b => rw [is_bool h]; exact .base (.bl b)
  | int i => rw [is_int h]; exact .base (.int i)
  | str s => rw [is_str h]; exact .base (.str s)
  | list ds => obtain ⟨a, vs, rfl, q, _⟩ := is_list h; exact tyx_list q
  | tuple ds => obtain ⟨a, vs, rfl, q, _⟩ := is_tuple h; exact tyx_tuple q
  | dict kvs => exact absurd rfl (hd kvs)
theorem kit_all {K : PySem.W.Frag} {t : Ty} {d : D} {b : Bool} (h : isT t d = some b) : PySem.W.kitOne K (.type (tyName d)) (.type t.name) = some b ∧ ∀ kvs, d ≠ .dict kvs := by
  cases t <;> cases d <;> first | (cases h; dsimp only [tyName, Ty.name]; exact ⟨kit_ty (by decide +kernel), fun _ z => by cases z⟩) | (cases h; done)
theorem ty_boot (t : Ty) : bootBuiltins (Str.ofString t.name) = some (.type t.name) := by
  cases t <;> decide +kernel
theorem ty_nm (t : Ty) : (Str.ofString t.name) ≠ "__name__" ∧ ((Str.ofString t.name) == ("__debug__" : Str)) = false := by
  cases t <;> decide +kernel
def rIs (K : PySem.W.Frag) (t : Ty) : List V → Hp → VK → Prop := fun vs H Q => ∃ v d b, vs = [v, .ty t.name] ∧ Is K H d v ∧ isT t d = some b ∧ Q (.bl b) H
theorem bi_isi {X : Cx} (t : Ty) : CallR X (.builtin "isinstance") (rIs X.K t) := by
  refine CallR.imp call_isi fun vs H Q h => ?_
  obtain ⟨v, d, b, rfl, h1, h2, q⟩ := h
  obtain ⟨k1, k2⟩ := kit_all (K := X.K) h2
  exact ⟨v, .ty t.name, _, _, b, rfl, .ty _, tyx_of h1 k2, k1, q⟩
end
end PV

/-! PvAll: the look is right: expressions, argument lists, tests, sources at once. -/
namespace PV
open PySem PySem.Spec PyProof.Rows L2

section
variable {K : PySem.W.Frag} {G : Gam} {W : Str → L2.St → Hp → Prop}
theorem Aft.ok {α : Type} {F H : Hp} {W : Str → Hp → Prop} {a : α} {P : α → Hp → Hp → Prop} (s : Same F H) (h : Aft F H W (.ok a) P) : P a F H := h F H (Ext.refl s)
/-- an answer without a new object -/
theorem Aft.one {F H : Hp} {W : Str → Hp → Prop} {r : R TD} {Q : VK} (s : Same F H) (h : Aft F H W r fun x F' H' => ∀ v, Res K H F' H' v x → Q v H') (ne : ∀ c, r ≠ .exc c) : Give K F H r Q := by
  cases r with
  | ok x => exact fun v F' H' e q => h F' H' e v q
  | exc c => exact absurd rfl (ne c)
  | stuck => exact h
theorem guard_exc {b : Bool} {r : R TD} (h : ∀ c, r ≠ .exc c) : ∀ c, PV.guard b r ≠ .exc c := fun c => by
  cases b with
  | true => exact h c
  | false => intro z; cases z
theorem ok_exc {x : TD} : ∀ c, (R.ok x : R TD) ≠ .exc c := fun c z => by cases z
theorem evBin_exc (o : Bop) (a b : TD) : ∀ c, evBin o a b ≠ .exc c := by
  obtain ⟨s, a⟩ := a
  obtain ⟨t, b⟩ := b
  cases o <;> cases a <;> cases b <;> first | exact guard_exc ok_exc | exact ok_exc | (intro c z; cases z)
theorem evIx_exc (a : TD) (b : D) : ∀ c, evIx a b ≠ .exc c := by
  intro c
  unfold evIx
  split
  · split <;> (intro z; cases z)
  · split <;> (intro z; cases z)
  · refine guard_exc (fun c => ?_) c
    split <;> (intro z; cases z)
  · intro z
    cases z
theorem evSl_exc (a : TD) (l h : Option Int) : ∀ c, evSl a l h ≠ .exc c := by
  obtain ⟨s, a⟩ := a
  intro c
  cases a <;> first | exact guard_exc ok_exc c | (intro z; cases z)
theorem evJoin_exc (a : Str) (b : D) : ∀ c, evJoin a b ≠ .exc c := by
  intro c
  unfold evJoin
  split
  · split
    · exact guard_exc ok_exc c
    · intro z; cases z
  · intro z; cases z
theorem evNeg_exc (a : D) : ∀ c, evNeg a ≠ .exc c := by
  intro c
  cases a <;> (intro z; cases z)
theorem evBi_exc (b : Bi) (l : List TD) : ∀ c, evBi b l ≠ .exc c := by
  intro c
  unfold evBi
  split <;> first | exact guard_exc ok_exc c | exact ok_exc c | (split <;> first | exact ok_exc c | (intro z; cases z)) | (intro z; cases z)
theorem gB_exc {a b : Bool} : ∀ c, gB a b ≠ .exc c := fun c => by
  unfold gB
  split <;> (intro z; cases z)
theorem evEq_exc (a b : D) : ∀ c, evEq a b ≠ .exc c := by
  intro c
  rcases evEq_cases a b with ⟨u, v, rfl, rfl, z⟩ | ⟨u, v, rfl, rfl, z⟩ | z
  · rw [z]; intro h; cases h
  · rw [z]; split <;> (intro h; cases h)
  · rw [z]; exact gB_exc c
theorem evNe_exc (a b : D) : ∀ c, evNe a b ≠ .exc c := by
  intro c
  rcases evNe_cases a b with ⟨u, v, rfl, rfl, z⟩ | ⟨u, v, rfl, rfl, z⟩ | z
  · rw [z]; intro h; cases h
  · rw [z]; split <;> (intro h; cases h)
  · rw [z]; exact gB_exc c
theorem evCmp_exc (o : Cop) (a b : D) : ∀ c, evCmp o a b ≠ .exc c := by
  intro c
  unfold evCmp
  split <;> first | exact evEq_exc _ _ c | exact evNe_exc _ _ c | exact gB_exc c | (intro z; cases z)
theorem isBool_ok {d : D} {F H : Hp} {W : Str → Hp → Prop} {α : Type} {f : Bool → R α} {P : α → Hp → Hp → Prop} (h : Aft F H W ((isBool d).bind f) P) : ∃ b, d = .bool b ∧ Aft F H W (f b) P := by
  cases d with
  | bool b => exact ⟨b, rfl, h⟩
  | _ => exact h.elim
theorem isInt_ok {d : D} {F H : Hp} {W : Str → Hp → Prop} {α : Type} {f : Int → R α} {P : α → Hp → Hp → Prop} (h : Aft F H W ((isInt d).bind f) P) : ∃ b, d = .int b ∧ Aft F H W (f b) P := by
  cases d with
  | int b => exact ⟨b, rfl, h⟩
  | _ => exact h.elim
theorem evCmp_ok {o : Cop} {a b : D} {F H : Hp} {W : Str → Hp → Prop} {α : Type} {f : Bool → R α} {P : α → Hp → Hp → Prop} (h : Aft F H W ((evCmp o a b).bind f) P) : ∃ c, evCmp o a b = .ok c ∧ Aft F H W (f c) P := by
  cases q : evCmp o a b with
  | ok c =>
    rw [q] at h
    exact ⟨c, rfl, h⟩
  | exc c => exact absurd q (evCmp_exc o a b c)
  | stuck =>
    rw [q] at h
    exact h.elim
theorem jnL_cases (l : List TD) : jnL l = .sh ∨ jnL l = .pk := by
  cases l with
  | nil => exact .inl rfl
  | cons x r => exact jn_cases _ _
/-- a display of such items -/
theorem disp {F H F' H' : Hp} {l : List TD} {vs : List V} {Q : VK} (e : Ext F H F' H') (h : ResL K H F' H' vs l) : (∀ g : ∀ F2 H2, Ext F H F2 H2 → ∀ v, Res K H F2 H2 v (jnL l, .tuple (l.map (·.2))) → Q v H2, ∀ p, H' p = none → Q (.ref p) (upd H' p (.tup vs))) ∧
    (∀ g : ∀ F2 H2, Ext F H F2 H2 → ∀ v, Res K H F2 H2 v ((jnL l).root, .list (l.map (·.2))) → Q v H2, ∀ p, H' p = none → Q (.ref p) (upd H' p (.lst vs))) := by
  rcases jnL_cases l with j | j
  · obtain ⟨F2, e2, s2, q⟩ := h.dm j e (Same.refl _)
    refine ⟨fun g p np => ?_, fun g p np => ?_⟩
    · rw [j] at g
      refine g (upd F2 p (.tup vs)) _ (e2.trans (Ext.new e2.s np)) _ ?_
      show Is K (upd F2 p (.tup vs)) (.tuple (l.map (·.2))) (.ref p)
      simp only [Is]
      exact ⟨p, vs, rfl, SqT.of upd_same, q.mono (same_upd (e2.s.free np))⟩
    · rw [j] at g
      exact g F2 _ (e2.trans (Ext.new0 e2.s np)) _ ⟨p, rfl, e2.h.free np, e2.s.free np, vs, upd_same, q⟩
  · refine ⟨fun g p np => ?_, fun g p np => ?_⟩
    · rw [j] at g
      refine g F' _ (e.trans (Ext.new0 e.s np)) _ ?_
      show Is K (upd H' p (.tup vs)) (.tuple (l.map (·.2))) (.ref p)
      simp only [Is]
      exact ⟨p, vs, rfl, SqT.of upd_same, (h.is e.s).mono (same_upd np)⟩
    · rw [j] at g
      refine g F' _ (e.trans (Ext.new0 e.s np)) _ ?_
      show Is K (upd H' p (.lst vs)) (.list (l.map (·.2))) (.ref p)
      simp only [Is]
      exact ⟨p, vs, rfl, .of upd_same, (h.is e.s).mono (same_upd np)⟩
/-- behind a call: what the callee's promise gives -/
theorem called {F H F' H' : Hp} {l : List TD} {vs : List V} {Q : VK} {cref : Str → Value} {k : Nat} {g : List D → R (Bool × D)} {σ : L2.St} (e : Ext F H F' H') (h : ResL K H F' H' vs l) (hk : vs.length = k)
    (q : Aft F H (fun c H2 => W c σ H2) ((g (l.map (·.2))).bind fun r => .ok (callTag (jnL l) r.1 r.2, r.2)) fun x F2 H2 => ∀ v, Res K H F2 H2 v x → Q v H2) : spD K cref k g vs H' Q (WE (wx cref W) σ) := by
  refine ⟨hk, ?_⟩
  rcases jnL_cases l with j | j
  · obtain ⟨F2, e2, s2, q2⟩ := h.dm j e (Same.refl _)
    refine ⟨F2, l.map (·.2), e2.s, q2, ?_⟩
    cases hg : g (l.map (·.2)) with
    | ok r =>
      obtain ⟨o, d⟩ := r
      rw [hg] at q
      intro v F3 H3 e4 rv
      have e5 := e2.trans e4
      refine q F3 H3 e5 v (Res.nt (x := (_, d)) ?_ e5.s)
      rw [j]
      cases o with
      | true => exact rv.back e2.h
      | false => exact rv
    | exc c =>
      rw [hg] at q
      intro F3 H3 e4
      exact ⟨rfl, c, rfl, q F3 H3 (e2.trans e4)⟩
    | stuck =>
      rw [hg] at q
      exact q
  · refine ⟨H', l.map (·.2), Same.refl _, h.is e.s, ?_⟩
    cases hg : g (l.map (·.2)) with
    | ok r =>
      obtain ⟨o, d⟩ := r
      rw [hg] at q
      intro v F3 H3 e4 rv
      have e5 : Ext F H F' H3 := ⟨e.f, e.h.trans e4.h, e.s.trans e4.h, e.n⟩
      refine q F' H3 e5 v (Res.nt (x := (_, d)) ?_ e5.s)
      rw [j]
      exact rv.is e4.s
    | exc c =>
      rw [hg] at q
      intro F3 H3 e4
      have e5 : Ext F H F' H3 := ⟨e.f, e.h.trans e4.h, e.s.trans e4.h, e.n⟩
      exact ⟨rfl, c, rfl, q F' H3 e5⟩
    | stuck =>
      rw [hg] at q
      exact q
theorem Aft.oks {α β : Type} {F H : Hp} {W : Str → Hp → Prop} {r : R α} {f : α → R β} {P : β → Hp → Hp → Prop} (h : Aft F H W (r.bind f) P) {P' : α → Hp → Hp → Prop} (k : ∀ a F' H', r = .ok a → Ext F H F' H' → Aft F H W (f a) P → P' a F' H') : Aft F H W r P' := by
  cases r with
  | ok a => exact fun F' H' e => k a F' H' rfl e h
  | exc c => exact h
  | stuck => exact h
theorem Aft.gd {F H : Hp} {W : Str → Hp → Prop} {b : Bool} {r : R TD} {P : TD → Hp → Hp → Prop} (h : Aft F H W (PV.guard b r) P) : b = true ∧ Aft F H W r P := by
  cases b with
  | true => exact ⟨rfl, h⟩
  | false => exact h.elim
end

section
variable {cref : Str → Value} {n : Nat} {G : Gam} {bs cs N : List Str}
abbrev Wd := Str → L2.St → Hp → Prop
theorem nomark_of {op : CmpOp} {e : Expr} (h : noSet e = true) : behindInMarks op e = false := by
  cases e <;> first | rfl | cases h
theorem cmp_read {K : PySem.W.Frag} {W : Wd} {o : Cop} {a b : Ex} {σ : L2.St} {H : Hp} {Q : VK} (q : tE K W G (.cmp o a b) σ H Q) : tOp (rCmp K o) (tE K W G a) (tE K W G b) σ H Q := by
  obtain ⟨F, env, rel, q⟩ := q
  unfold ev at q
  refine ⟨F, env, rel, q.bind.imp fun x F1 H1 _ e1 q1 v rv => ⟨F1, env, rel.ext e1, q1.bind.imp fun y F2 H2 _ e2 q2 u ru => ?_⟩⟩
  obtain ⟨c, hc, q3⟩ := evCmp_ok q2
  exact ⟨x.2, y.2, c, (rv.mono e2).is e2.s, ru.is e2.s, hc, q3 F2 H2 (Ext.refl e2.s) _ (bool_is (K := K) (H := F2))⟩
theorem chn_read {K : PySem.W.Frag} {W : Wd} {o p : Cop} {a b c : Ex} {σ : L2.St} {H : Hp} {Q : VK} (q : tE K W G (.chn o p a b c) σ H Q) : tChain (rCmp K o) (rCmp K p) (tE K W G a) (tE K W G b) (tE K W G c) σ H Q := by
  obtain ⟨F, env, rel, q⟩ := q
  unfold ev at q
  refine ⟨F, env, rel, q.bind.imp fun x F1 H1 _ e1 q1 v rv => ⟨F1, env, rel.ext e1, q1.bind.imp fun y F2 H2 _ e2 q2 u ru => ?_⟩⟩
  obtain ⟨k, hc, q3⟩ := evCmp_ok q2
  refine ⟨x.2, y.2, k, (rv.mono e2).is e2.s, ru.is e2.s, hc, k, rfl, ?_⟩
  cases k with
  | false => exact iteF (q3 F2 H2 (Ext.refl e2.s) _ (bool_is (K := K) (H := F2)))
  | true =>
    refine iteT ⟨F2, env, (rel.ext e1).ext e2, q3.bind.imp fun z F4 H4 _ e4 q4 t rt => ?_⟩
    obtain ⟨k2, hc2, q5⟩ := evCmp_ok q4
    exact ⟨y.2, z.2, k2, (ru.mono e4).is e4.s, rt.is e4.s, hc2, q5 F4 H4 (Ext.refl e4.s) _ (bool_is (K := K) (H := F4))⟩
/-- a value's reading as a test's -/
theorem val_read {K : PySem.W.Frag} {W : Wd} {e : Ex} {σ : L2.St} {H : Hp} {Q : Bool → Hp → Prop} (q : tT K W G (.val e) σ H Q) : tE K W G e σ H fun x H' => ∃ k, x = .bl k ∧ Q k H' := by
  obtain ⟨F, env, rel, q⟩ := q
  unfold evT at q
  refine ⟨F, env, rel, q.bind.imp fun x F1 H1 _ e1 q1 v rv => ?_⟩
  cases hd : x.2 with
  | bool b =>
    rw [hd] at q1
    have := rv.is e1.s
    rw [hd] at this
    exact ⟨b, is_bool this, q1 F1 H1 (Ext.refl e1.s)⟩
  | _ => rw [hd] at q1; exact q1.elim
theorem truV_of {K : PySem.W.Frag} {H : Hp} {d : D} {v : V} {b : Bool} (h : Is K H d v) (e : truth d = .ok b) : TruV K v H b := by
  cases d with
  | none => cases e; rw [is_none h]; exact rfl
  | bool c => cases e; rw [is_bool h]; exact rfl
  | int i => cases e; rw [is_int h]; exact rfl
  | str z =>
    obtain ⟨h1, h2⟩ := gB_ok e
    rw [is_str h]
    exact ⟨Nat.le_trans (of_decide_eq_true h1) lim_le, h2.symm⟩
  | list ds =>
    cases e
    obtain ⟨a, vs, rfl, h1, h2⟩ := is_list h
    refine .inl ⟨vs, h1.seq, ?_⟩
    have := h2.len
    cases ds <;> cases vs <;> first | rfl | cases this
  | tuple ds =>
    cases e
    obtain ⟨a, vs, rfl, h1, h2⟩ := is_tuple h
    refine .inr (.inl ⟨vs, h1, ?_⟩)
    have := h2.len
    cases ds <;> cases vs <;> first | rfl | cases this
  | dict _ => cases e
theorem tru_read {K : PySem.W.Frag} {W : Wd} {e : Ex} {σ : L2.St} {H : Hp} {Q : Bool → Hp → Prop} (q : tT K W G (.tru e) σ H Q) : tE K W G e σ H fun x H' => ∃ k, TruV K x H' k ∧ Q k H' := by
  obtain ⟨F, env, rel, q⟩ := q
  unfold evT at q
  refine ⟨F, env, rel, q.bind.imp fun x F1 H1 _ e1 q1 v rv => ?_⟩
  cases hd : truth x.2 with
  | ok b =>
    rw [hd] at q1
    exact ⟨b, truV_of (rv.is e1.s) hd, q1 F1 H1 (Ext.refl e1.s)⟩
  | exc c =>
    exfalso
    unfold truth at hd
    split at hd <;> first | cases hd | exact gB_exc c hd
  | stuck => rw [hd] at q1; exact q1.elim
theorem src_noSet {src : Src} {sc : Scope} {e tg : Expr} (h : chkSrc N bs src sc e tg = true) : noSet e = true := by
  cases src with
  | lst a => simp only [chkSrc, Bool.and_eq_true] at h; exact h.1
  | tup a => simp only [chkSrc, Bool.and_eq_true] at h; exact h.1
  | _ => cases e <;> first | rfl | simp [chkSrc] at h
theorem zt_kid (t u : Tag) {F H : Hp} (s : Same F H) : Same (hp t.kid F H) (hp (zt t u).kid F H) ∧ Same (hp u.kid F H) (hp (zt t u).kid F H) := by
  cases t <;> cases u <;> exact ⟨by first | exact Same.refl _ | exact s, by first | exact Same.refl _ | exact s⟩
theorem zt_dm {t u : Tag} (h : (zt t u).dm = .sh) : t.dm = .sh ∧ u.dm = .sh := by
  cases t <;> cases u <;> first | exact ⟨rfl, rfl⟩ | cases h
theorem noSl_of {e : Expr} (h : noSl e = true) : NoSl e := fun o i => by
  cases e <;> first | rfl | cases h
theorem boot_dct : bootBuiltins "dict" = some (.type "dict") := by decide +kernel
theorem dix_read {K : PySem.W.Frag} {W : Wd} {a b : Ex} {σ : L2.St} {H : Hp} {Q : VK} (q : tE K W G (.dix a b) σ H Q) : tDGet (tE K W G a) (tE K W G b) σ H Q := by
  obtain ⟨F, env, rel, q⟩ := q
  unfold ev at q
  refine ⟨F, env, rel, q.bind.imp fun x F1 H1 _ e1 q1 v rv => ⟨F1, env, rel.ext e1, q1.bind.imp fun y F2 H2 _ e2 q2 u ru => ?_⟩⟩
  obtain ⟨t, d⟩ := x
  cases d with
  | dict kvs =>
    unfold evDix at q2
    cases hk : dkey y.2 with
    | none => simp only [hk] at q2; exact q2.elim
    | some k =>
      simp only [hk] at q2
      cases hg : dGetK kvs k with
      | none => simp only [hg] at q2; exact q2.elim
      | some d =>
        simp only [hg] at q2
        obtain ⟨p, es, rfl, h1, h2⟩ := res_dict (rv.mono e2) e2.s
        obtain ⟨v, h3, h4⟩ := isK_val h2 hg
        refine ⟨p, v, rfl, ?_, q2 F2 H2 (Ext.refl e2.s) v (Res.nt (x := (_, d)) (Res.of_hp h4) e2.s)⟩
        rw [key_is (ru.is e2.s) hk, ← h3]
        exact DGet.k h1
  | _ => exact q2.elim
mutual
theorem sE : ∀ (ex : Ex) {X : Cx} {W : Wd} {sc : Scope} {e : Expr}, Fit X W cref n G bs cs N sc → chkE N bs ex sc e = true → PE X e (tE X.K W G ex)
  | .var i, X, W, sc, e, ft, h => by
    cases e with
    | Name x p =>
      simp only [chkE, Bool.and_eq_true, decide_eq_true_eq] at h
      refine pe_imp (ft.nm h.1.1 h.1.2 h.2) fun σ H Q q => ?_
      obtain ⟨F, env, rel, q⟩ := q
      unfold ev at q
      cases hs : env[i]? with
      | none => rw [hs] at q; exact q.elim
      | some sl =>
        rw [hs] at q
        cases sl with
        | no => exact q.elim
        | sh d =>
          obtain ⟨v, e1, e2⟩ := rel.slot i _ hs
          exact ⟨v, e1, q F H (Ext.refl rel.sub) v e2⟩
        | ow d =>
          obtain ⟨p, e1, e2⟩ := rel.slot i _ hs
          exact ⟨_, e1, q F H (Ext.refl rel.sub) _ ⟨p, rfl, e2⟩⟩
    | _ => simp [chkE] at h
  | .cst c, X, W, sc, e, ft, h => by
    cases e with
    | Constant c' k p =>
      simp only [chkE, Bool.and_eq_true, decide_eq_true_eq] at h
      obtain ⟨rfl, h2⟩ := h
      cases c with
      | none => exact pe_imp pe_non fun σ H Q ⟨F, env, rel, q⟩ => q F H (Ext.refl rel.sub) _ (show Is X.K F .none .non by simp only [Is])
      | bool b => exact pe_imp pe_bl fun σ H Q ⟨F, env, rel, q⟩ => q F H (Ext.refl rel.sub) _ (bool_is (K := X.K) (H := F))
      | int i => exact pe_imp pe_int fun σ H Q ⟨F, env, rel, q⟩ => q F H (Ext.refl rel.sub) _ (int_is (K := X.K) (H := F))
      | str z => exact pe_imp pe_str fun σ H Q ⟨F, env, rel, q⟩ => q F H (Ext.refl rel.sub) _ (str_is (K := X.K) (H := F))
      | _ => cases h2
    | _ => simp [chkE] at h
  | .bin o a b, X, W, sc, e, ft, h => by
    cases e with
    | BinOp l op r p =>
      simp only [chkE, Bool.and_eq_true, decide_eq_true_eq] at h
      obtain ⟨⟨rfl, h1⟩, h2⟩ := h
      refine pe_imp (pe_op (op_bin o) (sE a ft h1) (sE b ft h2)) fun σ H Q q => ?_
      obtain ⟨F, env, rel, q⟩ := q
      unfold ev at q
      refine ⟨F, env, rel, q.bind.imp fun x F1 H1 _ e1 q1 v rv => ⟨F1, env, rel.ext e1, q1.bind.imp fun y F2 H2 _ e2 q2 u ru => ?_⟩⟩
      exact ⟨F2, x, y, e2.s, (rv.mono e2).back same0, ru.back same0, (q2.imp fun z F3 H3 _ e3 q3 w rw' => q3 w (rw'.back (e1.h.trans e2.h))).one e2.s (evBin_exc o x y)⟩
    | _ => simp [chkE] at h
  | .neg a, X, W, sc, e, ft, h => by
    cases e with
    | UnaryOp op x p =>
      cases op with
      | USub =>
        simp only [chkE] at h
        refine pe_imp (pe_un un_negD (sE a ft h)) fun σ H Q q => ?_
        obtain ⟨F, env, rel, q⟩ := q
        unfold ev at q
        refine ⟨F, env, rel, q.bind.imp fun x F1 H1 _ e1 q1 v rv => ?_⟩
        exact ⟨F1, x.2, e1.s, rv.is e1.s, (q1.imp fun z F3 H3 _ e3 q3 w rw' => q3 w (rw'.back e1.h)).one e1.s (evNeg_exc x.2)⟩
      | _ => simp [chkE] at h
    | _ => simp [chkE] at h
  | .cmp o a b, X, W, sc, e, ft, h => by
    cases e with
    | Compare l ops rs p =>
      match ops, rs, h with
      | [op], [r], h =>
        simp only [chkE, Bool.and_eq_true, decide_eq_true_eq] at h
        obtain ⟨⟨rfl, h1⟩, h2⟩ := h
        exact pe_imp (pe_cmpR (op_cmp ft.room o) (sE a ft h1) (sE b ft h2) (nomark_of (chk_noSet h2))) fun σ H Q q => cmp_read q
      | [], _, h => simp [chkE] at h
      | _ :: _ :: _, [], h => simp [chkE] at h
      | [_], [], h => simp [chkE] at h
      | [_], _ :: _ :: _, h => simp [chkE] at h
      | _ :: _ :: _, _ :: _, h => simp [chkE] at h
    | _ => simp [chkE] at h
  | .chn o o2 a b c, X, W, sc, e, ft, h => by
    cases e with
    | Compare l ops rs p =>
      match ops, rs, h with
      | [op, op'], [m, r], h =>
        simp only [chkE, Bool.and_eq_true, decide_eq_true_eq] at h
        obtain ⟨⟨⟨⟨rfl, rfl⟩, h1⟩, h2⟩, h3⟩ := h
        exact pe_imp (pe_chain (op_cmp ft.room o) (op_cmp ft.room o2) (sE a ft h1) (sE b ft h2) (sE c ft h3) (show lastMarks [_, _] [_, _] = false from nomark_of (chk_noSet h3))) fun σ H Q q => chn_read q
      | [], _, h => simp [chkE] at h
      | [_], _, h => simp [chkE] at h
      | [_, _], [], h => simp [chkE] at h
      | [_, _], [_], h => simp [chkE] at h
      | [_, _], _ :: _ :: _ :: _, h => simp [chkE] at h
      | _ :: _ :: _ :: _, _, h => simp [chkE] at h
    | _ => simp [chkE] at h
  | .lan es, X, W, sc, e, ft, h => by
    cases e with
    | BoolOp op vs p =>
      cases op with
      | And =>
        simp only [chkE] at h
        exact pe_imp (sAnd es ft h) fun σ H Q ⟨F, env, rel, q⟩ => ⟨F, env, rel, by unfold ev at q; exact q⟩
      | Or => simp [chkE] at h
    | _ => simp [chkE] at h
  | .lor es, X, W, sc, e, ft, h => by
    cases e with
    | BoolOp op vs p =>
      cases op with
      | Or =>
        simp only [chkE] at h
        exact pe_imp (sOr es ft h) fun σ H Q ⟨F, env, rel, q⟩ => ⟨F, env, rel, by unfold ev at q; exact q⟩
      | And => simp [chkE] at h
    | _ => simp [chkE] at h
  | .lno a, X, W, sc, e, ft, h => by
    cases e with
    | UnaryOp op x p =>
      cases op with
      | Not =>
        simp only [chkE] at h
        refine pe_imp (pe_not (sE a ft h)) fun σ H Q q => ?_
        obtain ⟨F, env, rel, q⟩ := q
        unfold ev at q
        refine ⟨F, env, rel, q.bind.imp fun x F1 H1 _ e1 q1 v rv => ?_⟩
        obtain ⟨b, hb, q2⟩ := isBool_ok q1
        have e2 := rv.is e1.s
        rw [hb] at e2
        exact ⟨b, is_bool e2, q2 F1 H1 (Ext.refl e1.s) _ (bool_is (K := X.K) (H := F1))⟩
      | _ => simp [chkE] at h
    | _ => simp [chkE] at h
  | .ife c a b, X, W, sc, e, ft, h => by
    cases e with
    | IfExp t l r p =>
      simp only [chkE, Bool.and_eq_true] at h
      refine pe_imp (pe_ifExp (sT c ft h.1.1) (sE a ft h.1.2) (sE b ft h.2)) fun σ H Q q => ?_
      obtain ⟨F, env, rel, q⟩ := q
      unfold ev at q
      refine ⟨F, env, rel, q.bind.imp fun t F1 H1 _ e1 q1 => ?_⟩
      cases t with
      | true => exact iteT ⟨F1, env, rel.ext e1, q1.imp fun z F3 H3 _ e3 q3 w rw' => q3 w (rw'.back e1.h)⟩
      | false => exact iteF ⟨F1, env, rel.ext e1, q1.imp fun z F3 H3 _ e3 q3 w rw' => q3 w (rw'.back e1.h)⟩
    | _ => simp [chkE] at h
  | .tup es, X, W, sc, e, ft, h => by
    cases e with
    | Tuple xs k p =>
      simp only [chkE] at h
      refine pe_imp (pe_tup (sEs es ft h)) fun σ H Q q => ?_
      obtain ⟨F, env, rel, q⟩ := q
      unfold ev at q
      refine ⟨F, env, rel, q.oks fun l F1 H1 _ e1 q1 vs rv => ?_⟩
      obtain ⟨g1, g2⟩ := q1.gd
      refine ⟨?_, (disp e1 rv).1 g2⟩
      have := (rv.is e1.s).len
      rw [List.length_map] at this
      rw [this]
      exact Nat.le_trans (of_decide_eq_true g1) lim_le
    | _ => simp [chkE] at h
  | .lst es, X, W, sc, e, ft, h => by
    cases e with
    | List xs p =>
      simp only [chkE] at h
      refine pe_imp (pe_lst (sEs es ft h)) fun σ H Q q => ?_
      obtain ⟨F, env, rel, q⟩ := q
      unfold ev at q
      refine ⟨F, env, rel, q.oks fun l F1 H1 _ e1 q1 vs rv => ?_⟩
      obtain ⟨g1, g2⟩ := q1.gd
      refine ⟨?_, (disp e1 rv).2 g2⟩
      have := (rv.is e1.s).len
      rw [List.length_map] at this
      rw [this]
      exact Nat.le_trans (of_decide_eq_true g1) lim_le
    | _ => simp [chkE] at h
  | .ix a b, X, W, sc, e, ft, h => by
    cases e with
    | Subscript v s p =>
      simp only [chkE, Bool.and_eq_true] at h
      refine pe_imp (pe_ix ix_D (sE a ft h.1.2) (sE b ft h.2) (plainIx_of h.1.1)) fun σ H Q q => ?_
      obtain ⟨F, env, rel, q⟩ := q
      unfold ev at q
      refine ⟨F, env, rel, q.bind.imp fun x F1 H1 _ e1 q1 v rv => ⟨F1, env, rel.ext e1, q1.bind.imp fun y F2 H2 _ e2 q2 u ru => ?_⟩⟩
      exact ⟨F2, x, y.2, e2.s, (rv.mono e2).back same0, ru.is e2.s, (q2.imp fun z F3 H3 _ e3 q3 w rw' => q3 w (rw'.back (e1.h.trans e2.h))).one e2.s (evIx_exc x y.2)⟩
    | _ => simp [chkE] at h
  | .sli a lo hi, X, W, sc, e, ft, h => by
    cases e with
    | Subscript v s p =>
      cases s with
      | Slice l u st p2 =>
        cases st with
        | none =>
          simp only [chkE, Bool.and_eq_true] at h
          refine pe_imp (pe_slice sl_D (sE a ft h.1.1) (sP lo ft h.1.2) (sP hi ft h.2)) fun σ H Q q => ?_
          obtain ⟨F, env, rel, q⟩ := q
          unfold ev at q
          refine ⟨F, env, rel, q.bind.imp fun x F1 H1 _ e1 q1 v rv => ⟨F1, env, rel.ext e1, q1.bind.imp fun y F2 H2 _ e2 q2 => ⟨F2, env, (rel.ext e1).ext e2, q2.bind.imp fun z F3 H3 _ e3 q3 => ?_⟩⟩⟩
          exact ⟨F3, x, e3.s, ((rv.mono e2).mono e3).back same0, (q3.imp fun z F4 H4 _ e4 q4 w rw' => q4 w (rw'.back ((e1.h.trans e2.h).trans e3.h))).one e3.s (evSl_exc x y z)⟩
        | some _ => simp [chkE] at h
      | _ => simp [chkE] at h
    | _ => simp [chkE] at h
  | .call f es, X, W, sc, e, ft, h => by
    cases e with
    | Call fn args kws pos =>
      cases fn with
      | Name x p =>
        match args, kws, h with
        | y :: ys, [], h =>
          simp only [chkE, Bool.and_eq_true, decide_eq_true_eq] at h
          obtain ⟨⟨⟨rfl, h1⟩, h2⟩, h3⟩ := h
          cases hG : G x with
          | none =>
            refine ⟨fun pins s σ H Q I q => ?_⟩
            obtain ⟨F, env, rel, q⟩ := q
            unfold ev at q
            rw [hG] at q
            exact q.elim
          | some g =>
            obtain ⟨fa, fd, ps, hm, hk, hb, hF, ar⟩ := ft.gc.fns x g hG
            refine pe_imp (pe_g (E := WE (wx cref W)) hF ft.room ft.gd (ft.gl h1) hm hk hb (fun σ => passAt ft.tk σ) (sEs es ft h3) (chks_noStar h3) (nm_of h2).1) fun σ H Q q => ?_
            obtain ⟨F, env, rel, q⟩ := q
            unfold ev at q
            rw [hG] at q
            refine ⟨F, env, rel, q.oks fun l F1 H1 _ e1 q1 vs rv => called e1 rv ?_ q1⟩
            have hl : (l.map (·.2)).length = ps.length := ar _ fun z => by
              rw [z] at q1
              exact q1.elim
            rw [← hl]
            exact (rv.is e1.s).len
        | [], _, h => simp [chkE] at h
        | _ :: _, _ :: _, h => simp [chkE] at h
      | _ => simp [chkE] at h
    | _ => simp [chkE] at h
  | .bi b es, X, W, sc, e, ft, h => by
    cases e with
    | Call fn args kws pos =>
      cases fn with
      | Name x p =>
        match args, kws, h with
        | y :: ys, [], h =>
          simp only [chkE, Bool.and_eq_true, decide_eq_true_eq] at h
          obtain ⟨⟨rfl, h1⟩, h3⟩ := h
          obtain ⟨g1, g2⟩ := ft.glN h1
          refine pe_imp (Bi.rule ft b g1 g2 (sEs es ft h3) (chks_noStar h3)) fun σ H Q q => ?_
          obtain ⟨F, env, rel, q⟩ := q
          unfold ev at q
          refine ⟨F, env, rel, q.bind.imp fun l F1 H1 _ e1 q1 vs rv => ?_⟩
          exact ⟨F1, l, e1.s, rv.back same0, (q1.imp fun z F3 H3 _ e3 q3 w rw' => q3 w (rw'.back e1.h)).one e1.s (evBi_exc b l)⟩
        | [], _, h => simp [chkE] at h
        | _ :: _, _ :: _, h => simp [chkE] at h
      | _ => simp [chkE] at h
    | _ => simp [chkE] at h
  | .isi a t, X, W, sc, e, ft, h => by
    cases e with
    | Call fn args kws pos =>
      cases fn with
      | Name x p =>
        match args, kws, h with
        | [y, nz], [], h =>
         cases nz with
         | Name z pz =>
          simp only [chkE, Bool.and_eq_true, decide_eq_true_eq] at h
          obtain ⟨⟨⟨⟨rfl, h1⟩, rfl⟩, h2⟩, h3⟩ := h
          obtain ⟨g1, g2⟩ := ft.glN h1
          obtain ⟨g3, g4⟩ := ft.glN h2
          have hz : PE X (.Name (Str.ofString t.name) pz) (tC (.ty t.name)) := pe_bltn (u := .type t.name) g3 g4 (ty_boot t) rfl (ty_nm t).1 (ty_nm t).2
          have st := star_cons (es := [.Name (Str.ofString t.name) pz]) (env := X.env) (chk_noStar h3)
          refine pe_imp (pe_callB (bi_isi t) g1 g2 boot_isinstance (pa_cons (sE a ft h3) (pa_cons hz pa_nil) st) (by decide) (by decide) st rfl) fun σ H Q q => ?_
          obtain ⟨F, env, rel, q⟩ := q
          unfold ev at q
          refine ⟨F, env, rel, q.bind.imp fun x F1 H1 _ e1 q1 v rv => ?_⟩
          cases hb : isT t x.2 with
          | none => rw [hb] at q1; exact q1.elim
          | some b =>
            rw [hb] at q1
            exact ⟨v, x.2, b, rfl, rv.is e1.s, hb, q1 F1 H1 (Ext.refl e1.s) _ (bool_is (K := X.K) (H := F1))⟩
         | _ => simp [chkE] at h
        | [], _, h => simp [chkE] at h
        | [_], _, h => simp [chkE] at h
        | _ :: _ :: _ :: _, _, h => simp [chkE] at h
        | [_, w], k :: ks, h => simp [chkE] at h
      | _ => simp [chkE] at h
    | _ => simp [chkE] at h
  | .join a b, X, W, sc, e, ft, h => by
    cases e with
    | Call fn args kws pos =>
      cases fn with
      | Attribute o m ap =>
        match args, kws, h with
        | [y], [], h =>
          simp only [chkE, Bool.and_eq_true, decide_eq_true_eq] at h
          obtain ⟨⟨⟨⟨rfl, h1⟩, h2⟩, h3⟩, h4⟩ := h
          have st := star_cons (es := []) (env := X.env) (chk_noStar h4)
          have hb : attributeBase o "join" X.env (eval o X.env) = eval o X.env := by cases o <;> first | rfl | cases h2
          refine pe_imp (pe_join (sE a ft h3) (sE b ft h4) st hb (beq_iff_eq.mpr h1)) fun σ H Q q => ?_
          obtain ⟨F, env, rel, q⟩ := q
          unfold ev at q
          refine ⟨F, env, rel, q.bind.imp fun x F1 H1 _ e1 q1 v rv => ?_⟩
          cases hx : x.2 with
          | str z =>
            rw [hx] at q1
            have ix := rv.is e1.s
            rw [hx] at ix
            replace q1 : Aft F1 H1 (fun c H' => W c σ H') ((ev G b env).bind fun y => evJoin z y.2) (fun x F' H' => ∀ v, Res X.K H F' H' v x → Q v H') := q1
            refine ⟨⟨z, is_str ix⟩, F1, env, rel.ext e1, q1.bind.imp fun y F2 H2 _ e2 q2 u ru => ?_⟩
            obtain ⟨t, d⟩ := y
            cases d with
            | list xs =>
              cases hs : strL xs with
              | none =>
                unfold evJoin at q2
                simp only [hs] at q2
                exact q2.elim
              | some ys =>
                unfold evJoin at q2
                simp only [hs] at q2
                obtain ⟨c, q3⟩ := q2.gd
                obtain ⟨p, vs, rfl, h5, h6⟩ := ru.list e2.s
                have hv : vs = ys.map V.str := strL_is (X := X) hs (h6.mono (hp_same e2.s))
                subst hv
                exact ⟨z, p, ys, is_str ix, rfl, .inl h5.seq, Nat.le_trans (of_decide_eq_true c) (by decide), q3 F2 H2 (Ext.refl e2.s) _ (str_is (K := X.K) (H := F2))⟩
            | _ => exact q2.elim
          | _ => rw [hx] at q1; exact q1.elim
        | [], _, h => simp [chkE] at h
        | [_], _ :: _, h => simp [chkE] at h
        | _ :: _ :: _, _, h => simp [chkE] at h
      | _ => simp [chkE] at h
    | _ => simp [chkE] at h
  | .dnew, X, W, sc, e, ft, h => by
    cases e with
    | Dict ks vs p =>
      match ks, vs, h with
      | [], [], h =>
        refine pe_imp pe_dnewK fun σ H Q q => ?_
        obtain ⟨F, env, rel, q⟩ := q
        unfold ev at q
        exact fun p np => q F _ (Ext.new0 rel.sub np) _ ⟨p, rfl, np, rel.sub.free np, [], upd_same, by simp only [IsK]⟩
      | [], _ :: _, h => simp [chkE] at h
      | _ :: _, _, h => simp [chkE] at h
    | _ => simp [chkE] at h
  | .dix a b, X, W, sc, e, ft, h => by
    cases e with
    | Subscript v s p =>
      simp only [chkE, Bool.and_eq_true] at h
      have hu : X.A.units + 1 < cLine := by
        have := ft.room.units
        omega
      exact pe_imp (pe_dget hu (sE a ft h.1.2) (sE b ft h.2) (noSl_of h.1.1)) fun σ H Q q => dix_read q
    | _ => simp [chkE] at h
  | .dcpy a, X, W, sc, e, ft, h => by
    cases e with
    | Call fn args kws pos =>
      cases fn with
      | Name x p =>
        match args, kws, h with
        | [y], [], h =>
          simp only [chkE, Bool.and_eq_true, decide_eq_true_eq] at h
          obtain ⟨⟨rfl, h1⟩, h2⟩ := h
          obtain ⟨g1, g2⟩ := ft.glN h1
          have st := star_cons (es := []) (env := X.env) (chk_noStar h2)
          refine pe_imp (pe_callTy call_dictD g1 g2 boot_dct (pa_cons (sE a ft h2) pa_nil st) (by decide) (by decide) st rfl) fun σ H Q q => ?_
          obtain ⟨F, env, rel, q⟩ := q
          unfold ev at q
          refine ⟨F, env, rel, q.bind.imp fun x F1 H1 _ e1 q1 v rv => ?_⟩
          obtain ⟨t, d⟩ := x
          cases d with
          | dict kvs =>
            obtain ⟨p, es, rfl, h3, h4⟩ := res_dict rv e1.s
            refine ⟨p, es, rfl, .inl h3, fun r nr => ?_⟩
            have q1 : Aft F1 H1 (fun c H' => W c σ H') (.ok (t.kid.root, .dict kvs)) (fun x F' H' => ∀ v, Res X.K H F' H' v x → Q v H') := q1
            refine q1 F1 _ (Ext.new0 e1.s nr) _ ?_
            rcases kid_cases t with z | z
            · rw [z] at h4 ⊢
              exact ⟨r, rfl, e1.h.free nr, e1.s.free nr, es, upd_same, h4⟩
            · rw [z] at h4 ⊢
              show Is X.K (upd H1 r (.dK es)) (.dict kvs) (.ref r)
              simp only [Is]
              exact ⟨r, es, rfl, upd_same, h4.mono (same_upd nr)⟩
          | _ => exact q1.elim
        | [], _, h => simp [chkE] at h
        | [_], _ :: _, h => simp [chkE] at h
        | _ :: _ :: _, _, h => simp [chkE] at h
      | _ => simp [chkE] at h
    | _ => simp [chkE] at h
  | .cpr own tg src c e, X, W, sc, x, ft, h => by
    cases x with
    | ListComp elt gs scope p =>
      match gs, h with
      | [⟨t, it, ifs, z⟩], h =>
        simp only [chkE, Bool.and_eq_true, decide_eq_true_eq] at h
        obtain ⟨⟨⟨⟨⟨⟨⟨rfl, h1⟩, h2⟩, h3⟩, h4⟩, h5⟩, h6⟩, h7⟩ := h
        have hN := ft.hN
        have hsc := ft.hsc
        refine pe_imp (pe_lc (own := own) ft.calm (by rw [hN]; exact ft.nd) (sSrc src ft h3) (by rw [hN, hsc]; exact blkOk_by h1)
          (fun s H C cl fp => pg_of (cok := fun x => scope.names.lookup x == some .cell) (ft.blk s H scope cl C fp).hN ft.nd (ft.blk s H scope cl C fp).hsc (fun x hx => hx) ft.calm h2)
          (fun s H C cl fp => sIf c (ft.blk s H scope cl C fp) h4 h5)
          (fun s H C cl fp => sE e (ft.blk s H scope cl C fp) h6) (nofold (src_noSet h3))) fun σ H Q q => lc_read h7 σ H Q q
      | [], h => simp [chkE] at h
      | _ :: _ :: _, h => simp [chkE] at h
    | _ => simp [chkE] at h
theorem sEs : ∀ (es : Exs) {X : Cx} {W : Wd} {sc : Scope} {xs : List Expr}, Fit X W cref n G bs cs N sc → chkEs N bs es sc xs = true → PA X xs (tEs X.K W G es)
  | .nil, X, W, sc, [], ft, h => pa_imp pa_nil fun σ H Q ⟨F, env, rel, q⟩ => q F H (Ext.refl rel.sub) [] rfl
  | .nil, _, _, _, _ :: _, _, h => by simp [chkEs] at h
  | .cons _ _, _, _, _, [], _, h => by simp [chkEs] at h
  | .cons e es, X, W, sc, x :: xs, ft, h => by
    simp only [chkEs, Bool.and_eq_true] at h
    refine pa_imp (pa_cons (sE e ft h.1) (sEs es ft h.2) (star_cons (chk_noStar h.1))) fun σ H Q q => ?_
    obtain ⟨F, env, rel, q⟩ := q
    unfold evs at q
    refine ⟨F, env, rel, q.bind.imp fun a F1 H1 _ e1 q1 v rv => ⟨F1, env, rel.ext e1, q1.bind.imp fun l F2 H2 _ e2 q2 vs rvs => ?_⟩⟩
    exact q2 F2 H2 (Ext.refl e2.s) (v :: vs) ⟨v, vs, rfl, rv.mono e2, rvs.back e1.h⟩
theorem sP : ∀ (p : Pt) {X : Cx} {W : Wd} {sc : Scope} {x : Option Expr}, Fit X W cref n G bs cs N sc → chkP N bs p sc x = true → PO X x (tP X.K W G p)
  | .no, X, W, sc, none, ft, h => po_imp po_none fun σ H Q ⟨F, env, rel, q⟩ => q F H (Ext.refl rel.sub)
  | .no, _, _, _, some _, _, h => by simp [chkP] at h
  | .at _, _, _, _, none, _, h => by simp [chkP] at h
  | .at e, X, W, sc, some x, ft, h => by
    simp only [chkP] at h
    refine po_imp (po_some (sE e ft h)) fun σ H Q q => ?_
    obtain ⟨F, env, rel, q⟩ := q
    unfold evP at q
    refine ⟨F, env, rel, q.bind.imp fun a F1 H1 _ e1 q1 v rv => ?_⟩
    obtain ⟨i, hi, q2⟩ := isInt_ok q1
    have e2 := rv.is e1.s
    rw [hi] at e2
    exact ⟨i, is_int e2, q2 F1 H1 (Ext.refl e1.s)⟩
theorem sAnd : ∀ (es : Exs) {X : Cx} {W : Wd} {sc : Scope} {xs : List Expr} {p : Pos}, Fit X W cref n G bs cs N sc → chkEs N bs es sc xs = true → PE X (.BoolOp .And xs p) (tAn X.K W G es)
  | .nil, _, _, _, _, _, _, _ => ⟨fun _ _ _ _ _ _ ⟨_, _, _, q⟩ => q.elim⟩
  | .cons e .nil, X, W, sc, xs, p, ft, h => by
    match xs, h with
    | [x], h =>
      simp only [chkEs, Bool.and_eq_true] at h
      exact pe_imp (pe_one (sE e ft h.1)) fun σ H Q ⟨F, env, rel, q⟩ => ⟨F, env, rel, q⟩
    | [], h => simp [chkEs] at h
    | _ :: _ :: _, h => simp [chkEs] at h
  | .cons e (.cons e2 es), X, W, sc, xs, p, ft, h => by
    match xs, h with
    | x :: y :: ys, h =>
      have h' : chkE N bs e sc x = true ∧ chkEs N bs (.cons e2 es) sc (y :: ys) = true := by
        rw [chkEs, Bool.and_eq_true] at h
        exact h
      refine pe_imp (pe_and (sE e ft h'.1) (sAnd (.cons e2 es) ft h'.2)) fun σ H Q q => ?_
      obtain ⟨F, env, rel, q⟩ := q
      unfold evAnd at q
      refine ⟨F, env, rel, q.bind.imp fun a F1 H1 _ e1 q1 v rv => ?_⟩
      obtain ⟨b, hb, q2⟩ := isBool_ok q1
      have e2 := rv.is e1.s
      rw [hb] at e2
      refine ⟨b, is_bool e2, ?_⟩
      cases b with
      | true => exact iteT ⟨F1, env, rel.ext e1, q2.imp fun z F3 H3 _ e3 q3 w rw' => q3 w (rw'.back e1.h)⟩
      | false => exact iteF (q2 F1 H1 (Ext.refl e1.s) _ (bool_is (K := X.K) (H := F1)))
    | [], h => simp [chkEs] at h
    | [_], h => simp [chkEs] at h
theorem sOr : ∀ (es : Exs) {X : Cx} {W : Wd} {sc : Scope} {xs : List Expr} {p : Pos}, Fit X W cref n G bs cs N sc → chkEs N bs es sc xs = true → PE X (.BoolOp .Or xs p) (tOn X.K W G es)
  | .nil, _, _, _, _, _, _, _ => ⟨fun _ _ _ _ _ _ ⟨_, _, _, q⟩ => q.elim⟩
  | .cons e .nil, X, W, sc, xs, p, ft, h => by
    match xs, h with
    | [x], h =>
      simp only [chkEs, Bool.and_eq_true] at h
      exact pe_imp (pe_one (sE e ft h.1)) fun σ H Q ⟨F, env, rel, q⟩ => ⟨F, env, rel, q⟩
    | [], h => simp [chkEs] at h
    | _ :: _ :: _, h => simp [chkEs] at h
  | .cons e (.cons e2 es), X, W, sc, xs, p, ft, h => by
    match xs, h with
    | x :: y :: ys, h =>
      have h' : chkE N bs e sc x = true ∧ chkEs N bs (.cons e2 es) sc (y :: ys) = true := by
        rw [chkEs, Bool.and_eq_true] at h
        exact h
      refine pe_imp (pe_or (sE e ft h'.1) (sOr (.cons e2 es) ft h'.2)) fun σ H Q q => ?_
      obtain ⟨F, env, rel, q⟩ := q
      unfold evOr at q
      refine ⟨F, env, rel, q.bind.imp fun a F1 H1 _ e1 q1 v rv => ?_⟩
      obtain ⟨b, hb, q2⟩ := isBool_ok q1
      have e2 := rv.is e1.s
      rw [hb] at e2
      refine ⟨b, is_bool e2, ?_⟩
      cases b with
      | false => exact iteF ⟨F1, env, rel.ext e1, q2.imp fun z F3 H3 _ e3 q3 w rw' => q3 w (rw'.back e1.h)⟩
      | true => exact iteT (q2 F1 H1 (Ext.refl e1.s) _ (bool_is (K := X.K) (H := F1)))
    | [], h => simp [chkEs] at h
    | [_], h => simp [chkEs] at h
theorem sT : ∀ (t : Te) {X : Cx} {W : Wd} {sc : Scope} {e : Expr}, Fit X W cref n G bs cs N sc → chkT N bs t sc e = true → PT X e (tT X.K W G t)
  | .val ex, X, W, sc, e, ft, h => by
    simp only [chkT, Bool.and_eq_true] at h
    obtain ⟨hv, h⟩ := h
    have P := sE ex ft h
    cases e with
    | Call fn args kws pos => exact pt_imp (pt_val P) fun σ H Q q => val_read q
    | Compare l ops rs p =>
      cases ex with
      | cmp o a b =>
        match ops, rs, h with
        | [op], [r], h =>
          simp only [chkE, Bool.and_eq_true, decide_eq_true_eq] at h
          obtain ⟨⟨rfl, h1⟩, h2⟩ := h
          exact pt_imp (pt_cmpR (op_cmp ft.room o) (sE a ft h1) (sE b ft h2) (nomark_of (chk_noSet h2))) fun σ H Q q => cmp_read (val_read q)
        | [], _, h => simp [chkE] at h
        | _ :: _ :: _, [], h => simp [chkE] at h
        | [_], [], h => simp [chkE] at h
        | [_], _ :: _ :: _, h => simp [chkE] at h
        | _ :: _ :: _, _ :: _, h => simp [chkE] at h
      | chn o o2 a b c =>
        match ops, rs, h with
        | [op, op'], [m, r], h =>
          simp only [chkE, Bool.and_eq_true, decide_eq_true_eq] at h
          obtain ⟨⟨⟨⟨rfl, rfl⟩, h1⟩, h2⟩, h3⟩ := h
          exact pt_imp (pt_chain (op_cmp ft.room o) (op_cmp ft.room o2) (sE a ft h1) (sE b ft h2) (sE c ft h3) (show lastMarks [_, _] [_, _] = false from nomark_of (chk_noSet h3))) fun σ H Q q => chn_read (val_read q)
        | [], _, h => simp [chkE] at h
        | [_], _, h => simp [chkE] at h
        | [_, _], [], h => simp [chkE] at h
        | [_, _], [_], h => simp [chkE] at h
        | [_, _], _ :: _ :: _ :: _, h => simp [chkE] at h
        | _ :: _ :: _ :: _, _, h => simp [chkE] at h
      | _ => simp [chkE] at h
    | _ => cases hv
  | .tru ex, X, W, sc, e, ft, h => by
    simp only [chkT, Bool.and_eq_true] at h
    obtain ⟨hv, h⟩ := h
    have P := sE ex ft h
    cases e with
    | Name x p => exact pt_imp (pt_truth P fun _ => rfl) fun σ H Q q => tru_read q
    | Subscript v s p => exact pt_imp (pt_truth P fun _ => rfl) fun σ H Q q => tru_read q
    | Call fn args kws pos => exact pt_imp (pt_truth P fun _ => rfl) fun σ H Q q => tru_read q
    | _ => cases hv
  | .not a, X, W, sc, e, ft, h => by
    cases e with
    | UnaryOp op x p =>
      cases op with
      | Not =>
        simp only [chkT] at h
        refine pt_imp (pt_not (sT a ft h)) fun σ H Q q => ?_
        obtain ⟨F, env, rel, q⟩ := q
        unfold evT at q
        exact ⟨F, env, rel, q.bind.imp fun b F1 H1 _ e1 q1 => q1 F1 H1 (Ext.refl e1.s)⟩
      | _ => simp [chkT] at h
    | _ => simp [chkT] at h
  | .and ts, X, W, sc, e, ft, h => by
    cases e with
    | BoolOp op xs p =>
      cases op with
      | And =>
        simp only [chkT, Bool.and_eq_true] at h
        exact pt_imp (sTsA ts ft h.2 h.1).pt fun σ H Q ⟨F, env, rel, q⟩ => ⟨F, env, rel, by unfold evT at q; exact q⟩
      | Or => simp [chkT] at h
    | _ => simp [chkT] at h
  | .or ts, X, W, sc, e, ft, h => by
    cases e with
    | BoolOp op xs p =>
      cases op with
      | Or =>
        simp only [chkT, Bool.and_eq_true] at h
        exact pt_imp (sTsO ts ft h.2 h.1).pt fun σ H Q ⟨F, env, rel, q⟩ => ⟨F, env, rel, by unfold evT at q; exact q⟩
      | And => simp [chkT] at h
    | _ => simp [chkT] at h
theorem sTsA : ∀ (ts : Tes) {X : Cx} {W : Wd} {sc : Scope} {xs : List Expr} {p : Pos}, Fit X W cref n G bs cs N sc → chkTs N bs ts sc xs = true → (!xs.isEmpty) = true → PW X (.BoolOp .And xs p) (tTA X.K W G ts)
  | .nil, X, W, sc, xs, p, ft, h, ne => by
    cases xs with
    | nil => cases ne
    | cons x xs => simp [chkTs] at h
  | .cons t ts, X, W, sc, xs, p, ft, h, ne => by
    match xs, h with
    | [], h => simp [chkTs] at h
    | [x], h =>
      simp only [chkTs, Bool.and_eq_true] at h
      refine pw_imp (pw_and1 (sT t ft h.1)) fun σ H Q q => ?_
      have hn : ts = .nil := by
        cases ts with
        | nil => rfl
        | cons a b => simp [chkTs] at h
      subst hn
      obtain ⟨F, env, rel, q⟩ := q
      unfold evTA at q
      refine ⟨F, env, rel, q.oks fun b F1 H1 _ e1 q1 => ?_⟩
      cases b with
      | true => exact q1 F1 H1 e1
      | false => exact q1 F1 H1 e1
    | x :: y :: ys, h =>
      have h' : chkT N bs t sc x = true ∧ chkTs N bs ts sc (y :: ys) = true := by
        rw [chkTs, Bool.and_eq_true] at h
        exact h
      refine pw_imp (pw_and (sT t ft h'.1) (sTsA ts ft h'.2 rfl)) fun σ H Q q => ?_
      obtain ⟨F, env, rel, q⟩ := q
      unfold evTA at q
      refine ⟨F, env, rel, q.bind.imp fun b F1 H1 _ e1 q1 => ?_⟩
      cases b with
      | true => exact iteT ⟨F1, env, rel.ext e1, q1⟩
      | false => exact iteF (q1 F1 H1 (Ext.refl e1.s))
theorem sTsO : ∀ (ts : Tes) {X : Cx} {W : Wd} {sc : Scope} {xs : List Expr} {p : Pos}, Fit X W cref n G bs cs N sc → chkTs N bs ts sc xs = true → (!xs.isEmpty) = true → PW X (.BoolOp .Or xs p) (tTO X.K W G ts)
  | .nil, X, W, sc, xs, p, ft, h, ne => by
    cases xs with
    | nil => cases ne
    | cons x xs => simp [chkTs] at h
  | .cons t ts, X, W, sc, xs, p, ft, h, ne => by
    match xs, h with
    | [], h => simp [chkTs] at h
    | [x], h =>
      simp only [chkTs, Bool.and_eq_true] at h
      refine pw_imp (pw_or1 (sT t ft h.1)) fun σ H Q q => ?_
      have hn : ts = .nil := by
        cases ts with
        | nil => rfl
        | cons a b => simp [chkTs] at h
      subst hn
      obtain ⟨F, env, rel, q⟩ := q
      unfold evTO at q
      refine ⟨F, env, rel, q.oks fun b F1 H1 _ e1 q1 => ?_⟩
      cases b with
      | true => exact q1 F1 H1 e1
      | false => exact q1 F1 H1 e1
    | x :: y :: ys, h =>
      have h' : chkT N bs t sc x = true ∧ chkTs N bs ts sc (y :: ys) = true := by
        rw [chkTs, Bool.and_eq_true] at h
        exact h
      refine pw_imp (pw_or (sT t ft h'.1) (sTsO ts ft h'.2 rfl)) fun σ H Q q => ?_
      obtain ⟨F, env, rel, q⟩ := q
      unfold evTO at q
      refine ⟨F, env, rel, q.bind.imp fun b F1 H1 _ e1 q1 => ?_⟩
      cases b with
      | false => exact iteF ⟨F1, env, rel.ext e1, q1⟩
      | true => exact iteT (q1 F1 H1 (Ext.refl e1.s))
theorem sIf : ∀ (ts : Tes) {X : Cx} {W : Wd} {sc : Scope} {xs : List Expr}, Fit X W cref n G bs cs N sc → chkTs N bs ts sc xs = true → xs.length ≤ 1 → PTs X xs (tTA X.K W G ts)
  | .nil, X, W, sc, xs, ft, h, hl => by
    cases xs with
    | nil => exact ⟨fun pins s σ H Q I q => pts_nil.run pins s σ H Q I (by obtain ⟨F, env, rel, q⟩ := q; unfold evTA at q; exact q F H (Ext.refl rel.sub))⟩
    | cons x xs => simp [chkTs] at h
  | .cons t ts, X, W, sc, xs, ft, h, hl => by
    match xs, h, hl with
    | [], h, _ => simp [chkTs] at h
    | [x], h, _ =>
      simp only [chkTs, Bool.and_eq_true] at h
      have hn : ts = .nil := by
        cases ts with
        | nil => rfl
        | cons a b => simp [chkTs] at h
      subst hn
      refine ⟨fun pins s σ H Q I q => (pts_one (sT t ft h.1)).run pins s σ H Q I ?_⟩
      obtain ⟨F, env, rel, q⟩ := q
      unfold evTA at q
      refine ⟨F, env, rel, q.oks fun b F1 H1 _ e1 q1 => ?_⟩
      cases b with
      | true => exact q1 F1 H1 e1
      | false => exact q1 F1 H1 e1
    | _ :: _ :: _, _, hl => exact absurd hl (by simp)
theorem sSrc : ∀ (src : Src) {X : Cx} {W : Wd} {sc : Scope} {tg e : Expr}, Fit X W cref n G bs cs N sc → chkSrc N bs src sc e tg = true → PI X tg e (tSrc X.K W G src)
  | .lst a, X, W, sc, tg, e, ft, h => by
    simp only [chkSrc, Bool.and_eq_true] at h
    refine pi_imp (pi_list (sE a ft h.2)) fun σ H R' q => ?_
    obtain ⟨F, env, rel, q⟩ := q
    unfold evSrc at q
    refine ⟨F, env, rel, q.bind.imp fun x F1 H1 _ e1 q1 v rv => ?_⟩
    obtain ⟨t, d⟩ := x
    cases d with
    | list ds =>
      obtain ⟨a, vs, rfl, h1, h2⟩ := rv.list e1.s
      refine ⟨a, rfl, ⟨vs, h1.seq⟩, q1 F1 H1 (Ext.refl e1.s) _ (ok_list h1 h2) fun c => ?_⟩
      obtain ⟨F2, e2, _, i2⟩ := res_dm2 e1 rv c
      obtain ⟨a', vs', z, h3, h4⟩ := is_list i2
      cases z
      exact ⟨F2, e2, ok_list h3 h4⟩
    | _ => exact q1.elim
  | .tup a, X, W, sc, tg, e, ft, h => by
    simp only [chkSrc, Bool.and_eq_true] at h
    refine pi_imp (pi_tup (sE a ft h.2)) fun σ H R' q => ?_
    obtain ⟨F, env, rel, q⟩ := q
    unfold evSrc at q
    refine ⟨F, env, rel, q.bind.imp fun x F1 H1 _ e1 q1 v rv => ?_⟩
    obtain ⟨t, d⟩ := x
    cases d with
    | tuple ds =>
      obtain ⟨a, vs, rfl, h1, h2⟩ := rv.tuple e1.s
      refine ⟨a, rfl, ⟨vs, h1⟩, q1 F1 H1 (Ext.refl e1.s) _ (ok_tup h1 h2) fun c => ?_⟩
      obtain ⟨F2, e2, _, i2⟩ := res_dm2 e1 rv c
      obtain ⟨a', vs', z, h3, h4⟩ := is_tuple i2
      cases z
      exact ⟨F2, e2, ok_tup h3 h4⟩
    | _ => exact q1.elim
  | .rg1 a, X, W, sc, tg, e, ft, h => by
    cases e with
    | Call fn args kws pos =>
      cases fn with
      | Name x p =>
        match args, kws, h with
        | [y], [], h =>
          simp only [chkSrc, Bool.and_eq_true, decide_eq_true_eq] at h
          obtain ⟨⟨rfl, h1⟩, h2⟩ := h
          obtain ⟨g1, g2⟩ := ft.glN h1
          have st := star_cons (es := []) (env := X.env) (chk_noStar h2)
          refine pi_imp (pi_range1 g1 g2 (pa_cons (sE a ft h2) pa_nil st) st) fun σ H R' q => ?_
          obtain ⟨F, env, rel, q⟩ := q
          unfold evSrc at q
          refine ⟨F, env, rel, q.bind.imp fun x F1 H1 _ e1 q1 v rv => ?_⟩
          obtain ⟨j, hj, q2⟩ := isInt_ok q1
          have e2 := rv.is e1.s
          rw [hj] at e2
          by_cases hs : small j = true
          · rw [if_pos hs] at q2
            simp only [small, Bool.and_eq_true, decide_eq_true_eq] at hs
            refine ⟨j, by rw [is_int e2], hs.1, hs.2, q2 F1 H1 (Ext.refl e1.s) _ ?_ fun _ => ⟨F1, e1, ?_⟩⟩
            · have := ok_rng (K := X.K) (lo := 0) (hi := j) (Po := H1) (Pi := hp Tag.sh.kid F1 H1)
              rwa [Int.sub_zero] at this
            · have := ok_rng (K := X.K) (lo := 0) (hi := j) (Po := F1) (Pi := F1)
              rwa [Int.sub_zero] at this
          · rw [if_neg hs] at q2
            exact q2.elim
        | [], _, h => simp [chkSrc] at h
        | [_], _ :: _, h => simp [chkSrc] at h
        | _ :: _ :: _, _, h => simp [chkSrc] at h
      | _ => simp [chkSrc] at h
    | _ => simp [chkSrc] at h
  | .rg2 a b, X, W, sc, tg, e, ft, h => by
    cases e with
    | Call fn args kws pos =>
      cases fn with
      | Name x p =>
        match args, kws, h with
        | [y, z], [], h =>
          simp only [chkSrc, Bool.and_eq_true, decide_eq_true_eq] at h
          obtain ⟨⟨⟨rfl, h1⟩, h2⟩, h3⟩ := h
          obtain ⟨g1, g2⟩ := ft.glN h1
          have st := star_cons (es := []) (env := X.env) (chk_noStar h3)
          have st2 := star_cons (es := [z]) (env := X.env) (chk_noStar h2)
          refine pi_imp (pi_range2 g1 g2 (pa_cons (sE a ft h2) (pa_cons (sE b ft h3) pa_nil st) st2) (by rw [st2, st]; rfl) st) fun σ H R' q => ?_
          obtain ⟨F, env, rel, q⟩ := q
          unfold evSrc at q
          refine ⟨F, env, rel, q.bind.imp fun x F1 H1 _ e1 q1 v rv => ⟨F1, env, rel.ext e1, q1.bind.imp fun y F2 H2 _ e2 q2 u ru => ?_⟩⟩
          obtain ⟨i, hi, q3⟩ := isInt_ok q2
          obtain ⟨j, hj, q4⟩ := isInt_ok q3
          have i1 := rv.is e1.s
          have i2 := ru.is e2.s
          rw [hi] at i1
          rw [hj] at i2
          by_cases hs : (small i && small j) = true
          · rw [if_pos hs] at q4
            simp only [small, Bool.and_eq_true, decide_eq_true_eq] at hs
            exact ⟨i, j, by rw [is_int i1, is_int i2], ⟨hs.1.1, hs.1.2, hs.2.1, hs.2.2⟩, q4 F2 H2 (Ext.refl e2.s) _ ok_rng fun _ => ⟨F2, e1.trans e2, ok_rng⟩⟩
          · rw [if_neg hs] at q4
            exact q4.elim
        | [], _, h => simp [chkSrc] at h
        | [_], _, h => simp [chkSrc] at h
        | [_, _], _ :: _, h => simp [chkSrc] at h
        | _ :: _ :: _ :: _, _, h => simp [chkSrc] at h
      | _ => simp [chkSrc] at h
    | _ => simp [chkSrc] at h
  | .enu a, X, W, sc, tg, e, ft, h => by
    cases e with
    | Call fn args kws pos =>
      cases fn with
      | Name x p =>
        match args, kws, h with
        | [y], [], h =>
          simp only [chkSrc, Bool.and_eq_true, decide_eq_true_eq] at h
          obtain ⟨⟨⟨rfl, h1⟩, h2⟩, h3⟩ := h
          obtain ⟨g1, g2⟩ := ft.glN h1
          have st := star_cons (es := []) (env := X.env) (chk_noStar h2)
          cases tg with
          | Tuple es k tp =>
            refine pi_imp (pi_enum g1 g2 (pa_cons (sE a ft h2) pa_nil st) st) fun σ H R' q => ?_
            obtain ⟨F, env, rel, q⟩ := q
            unfold evSrc at q
            refine ⟨F, env, rel, q.bind.imp fun x F1 H1 _ e1 q1 v rv => ?_⟩
            obtain ⟨t, d⟩ := x
            cases d with
            | list ds =>
              obtain ⟨a, vs, rfl, h1, h2⟩ := rv.list e1.s
              refine ⟨a, vs, rfl, h1.seq, q1 F1 H1 (Ext.refl e1.s) _ (ok_enum h1 h2) fun c => ?_⟩
              obtain ⟨F2, e2, _, i2⟩ := res_dm2 e1 rv c
              obtain ⟨a', vs', z, h3, h4⟩ := is_list i2
              cases z
              exact ⟨F2, e2, ok_enum h3 h4⟩
            | _ => exact q1.elim
          | _ => cases h3
        | [], _, h => simp [chkSrc] at h
        | [_], _ :: _, h => simp [chkSrc] at h
        | _ :: _ :: _, _, h => simp [chkSrc] at h
      | _ => simp [chkSrc] at h
    | _ => simp [chkSrc] at h
  | .zip a b, X, W, sc, tg, e, ft, h => by
    cases e with
    | Call fn args kws pos =>
      cases fn with
      | Name x p =>
        match args, kws, h with
        | [y, z], [], h =>
          simp only [chkSrc, Bool.and_eq_true, decide_eq_true_eq] at h
          obtain ⟨⟨⟨⟨rfl, h1⟩, h2⟩, h3⟩, h4⟩ := h
          obtain ⟨g1, g2⟩ := ft.glN h1
          have st := star_cons (es := []) (env := X.env) (chk_noStar h3)
          have st2 := star_cons (es := [z]) (env := X.env) (chk_noStar h2)
          cases tg with
          | Tuple es k tp =>
            refine pi_imp (pi_zip g1 g2 (pa_cons (sE a ft h2) (pa_cons (sE b ft h3) pa_nil st) st2) st2 (by rw [st]; rfl)) fun σ H R' q => ?_
            obtain ⟨F, env, rel, q⟩ := q
            unfold evSrc at q
            refine ⟨F, env, rel, q.bind.imp fun x F1 H1 _ e1 q1 v rv => ⟨F1, env, rel.ext e1, q1.bind.imp fun y F2 H2 _ e2 q2 u ru => ?_⟩⟩
            obtain ⟨t, d⟩ := x
            obtain ⟨t2, d2⟩ := y
            cases d with
            | list ds =>
              cases d2 with
              | list es =>
                have rv2 := rv.mono e2
                obtain ⟨a, vs, rfl, h1, h2⟩ := rv2.list e2.s
                obtain ⟨b, ws, rfl, h3, h4⟩ := ru.list e2.s
                have m := zt_kid t t2 e2.s
                refine ⟨a, b, vs, ws, rfl, h1.seq, h3.seq, q2 F2 H2 (Ext.refl e2.s) _ (ok_zip h1 (h2.mono m.1) h3 (h4.mono m.2)) fun c => ?_⟩
                obtain ⟨c1, c2⟩ := zt_dm c
                have e3 := e1.trans e2
                obtain ⟨F3, e4, s4, i3⟩ := dm_one rv2 c1 e3 (Same.refl _)
                obtain ⟨F4, e5, s5, i4⟩ := dm_one (ru.back e1.h) c2 e4 s4
                obtain ⟨a', vs', z, h5, h6⟩ := is_list (i3.mono s5)
                cases z
                obtain ⟨b', ws', z, h7, h8⟩ := is_list i4
                cases z
                exact ⟨F4, e5, ok_zip h5 h6 h7 h8⟩
              | _ => exact q2.elim
            | _ => exact q2.elim
          | _ => cases h4
        | [], _, h => simp [chkSrc] at h
        | [_], _, h => simp [chkSrc] at h
        | [_, _], _ :: _, h => simp [chkSrc] at h
        | _ :: _ :: _ :: _, _, h => simp [chkSrc] at h
      | _ => simp [chkSrc] at h
    | _ => simp [chkSrc] at h
  | .rev a, X, W, sc, tg, e, ft, h => by
    cases e with
    | Call fn args kws pos =>
      cases fn with
      | Name x p =>
        match args, kws, h with
        | [y], [], h =>
          simp only [chkSrc, Bool.and_eq_true, decide_eq_true_eq] at h
          obtain ⟨⟨rfl, h1⟩, h2⟩ := h
          obtain ⟨g1, g2⟩ := ft.glN h1
          have st := star_cons (es := []) (env := X.env) (chk_noStar h2)
          refine pi_imp (pi_reversed g1 g2 (pa_cons (sE a ft h2) pa_nil st) st) fun σ H R' q => ?_
          obtain ⟨F, env, rel, q⟩ := q
          unfold evSrc at q
          refine ⟨F, env, rel, q.bind.imp fun x F1 H1 _ e1 q1 v rv => ?_⟩
          obtain ⟨t, d⟩ := x
          cases d with
          | list ds =>
            obtain ⟨a, vs, rfl, h1, h2⟩ := rv.list e1.s
            refine ⟨a, vs, rfl, h1.seq, q1 F1 H1 (Ext.refl e1.s) _ (ok_rev h1 h2) fun c => ?_⟩
            obtain ⟨F2, e2, _, i2⟩ := res_dm2 e1 rv c
            obtain ⟨a', vs', z, h3, h4⟩ := is_list i2
            cases z
            have := h4.len.trans h2.len.symm
            rw [← this]
            exact ⟨F2, e2, ok_rev h3 h4⟩
          | _ => exact q1.elim
        | [], _, h => simp [chkSrc] at h
        | [_], _ :: _, h => simp [chkSrc] at h
        | _ :: _ :: _, _, h => simp [chkSrc] at h
      | _ => simp [chkSrc] at h
    | _ => simp [chkSrc] at h
end
end
end PV

/-! PvStm: statements. -/
namespace PV
open PySem PySem.Spec PyProof.Rows L2

/-- the state at a statement: B0, A0 are the frozen part and the heap it is measured from -/
structure SRel (K : PySem.W.Frag) (B0 A0 F H : Hp) (σ : L2.St) (env : Env) : Prop where
  rel : Rel K F H σ env
  ext : Ext B0 A0 F H
  fr : ∀ (i : Nat) (d : D) (p : Addr), env[i]? = some (.ow d) → σ[i]? = some (some (.ref p)) → A0 p = none
def Post (K : PySem.W.Frag) (B0 A0 : Hp) (W : Wd) (E : Ends) : Out → Prop
  | .nx e => ∀ σ F H, SRel K B0 A0 F H σ e → E.nx σ H
  | .brk e => ∀ σ F H, SRel K B0 A0 F H σ e → E.bk σ H
  | .cnt e => ∀ σ F H, SRel K B0 A0 F H σ e → E.ct σ H
  | .ret t d => ∀ v F H, Ext B0 A0 F H → Res K A0 F H v (t, d) → E.rt v H
  | .exc c e => ∀ σ F H, SRel K B0 A0 F H σ e → W c σ H
  | .stuck => False
def tS (K : PySem.W.Frag) (W : Wd) (G : Gam) (n : Nat) (x : Sx) : TS := fun E σ H => ∃ B0 A0 F env, SRel K B0 A0 F H σ env ∧ Post K B0 A0 W E (evS G n x env)
def tSs (K : PySem.W.Frag) (W : Wd) (G : Gam) (n : Nat) (x : List Sx) : TS := fun E σ H => ∃ B0 A0 F env, SRel K B0 A0 F H σ env ∧ Post K B0 A0 W E (evSs G n x env)
section
variable {K : PySem.W.Frag} {B0 A0 B1 F H F' H' : Hp} {σ : L2.St} {env : Env} {W : Wd} {G : Gam} {E : Ends}
theorem SRel.next (r : SRel K B0 A0 F H σ env) (e : Ext F H F' H') : SRel K B0 A0 F' H' σ env := ⟨r.rel.ext e, r.ext.trans e, r.fr⟩
theorem SRel.rebase (r : SRel K B0 A0 F H σ env) : SRel K F A0 F H σ env := ⟨r.rel, ⟨Same.refl _, r.ext.h, r.ext.s, fun _ h => .inl h⟩, r.fr⟩
theorem SRel.back (e : Ext B0 A0 B1 H') (r : SRel K B1 A0 F H σ env) : SRel K B0 A0 F H σ env :=
  ⟨r.rel, ⟨e.f.trans r.ext.f, r.ext.h, r.ext.s, fun p h => by
    rcases r.ext.n p h with z | z
    · exact e.n p z
    · exact .inr z⟩, r.fr⟩
theorem Ext.back2 (e : Ext B0 A0 B1 H') (r : Ext B1 A0 F H) : Ext B0 A0 F H :=
  ⟨e.f.trans r.f, r.h, r.s, fun p h => by
    rcases r.n p h with z | z
    · exact e.n p z
    · exact .inr z⟩
theorem Post.rebase {o : Out} (e : Ext B0 A0 B1 H') (h : Post K B0 A0 W E o) : Post K B1 A0 W E o := by
  cases o with
  | nx x => exact fun σ F H r => h σ F H (r.back e)
  | brk x => exact fun σ F H r => h σ F H (r.back e)
  | cnt x => exact fun σ F H r => h σ F H (r.back e)
  | ret t d => exact fun v F H r q => h v F H (Ext.back2 e r) q
  | exc c x => exact fun σ F H r => h σ F H (r.back e)
  | stuck => exact h
theorem SRel.set (r : SRel K B0 A0 F H σ env) {i : Nat} {v : V} {d : D} (h : Is K F d v) : SRel K B0 A0 F H (σ.set i (some v)) (env.set i (.sh d)) := by
  refine ⟨r.rel.set h, r.ext, fun j e p h1 h2 => ?_⟩
  by_cases c : i = j
  · subst c
    by_cases hl : i < env.length
    · rw [List.getElem?_set_self hl] at h1
      cases h1
    · rw [List.getElem?_eq_none (by rw [List.length_set]; omega)] at h1
      cases h1
  · rw [List.getElem?_set_ne c] at h1 h2
    exact r.fr j e p h1 h2
theorem SRel.sets : ∀ {is : List Nat} {ds : List D} {vs : List V} {σ : L2.St} {env : Env}, SRel K B0 A0 F H σ env → IsL K F ds vs → SRel K B0 A0 F H ((is.zip vs).foldl (fun e p => e.set p.1 (some p.2)) σ) ((is.zip ds).foldl (fun e p => e.set p.1 (.sh p.2)) env)
  | [], _, _, _, _, r, _ => r
  | i :: is, [], vs, _, _, r, h => by
    simp only [IsL] at h
    subst h
    exact r
  | i :: is, d :: ds, _, σ, env, r, h => by
    simp only [IsL] at h
    obtain ⟨v, w, rfl, h1, h2⟩ := h
    show SRel K B0 A0 F H ((is.zip w).foldl (fun e p => e.set p.1 (some p.2)) (σ.set i (some v))) ((is.zip ds).foldl (fun e p => e.set p.1 (.sh p.2)) (env.set i (.sh d)))
    exact SRel.sets (r.set h1) h2
theorem SRel.bind {env2 : Env} {tg : Tg} {d : D} {v : V} {Q : L2.St → Hp → Prop} {t : Tag} (r : SRel K B0 A0 F H σ env) (h : Is K F d v) (e : bindT tg (t, d) env = some env2) (k : ∀ σ2, SRel K B0 A0 F H σ2 env2 → Q σ2 H) : gTg K tg v σ H Q := by
  cases tg with
  | nm i =>
    cases t <;> first | cases e | skip
    exact k _ (r.set h)
  | tp is =>
    cases t <;> first | (cases d <;> cases e) | skip
    cases d with
    | tuple ds =>
      by_cases hl : ds.length = is.length
      · simp only [bindT, if_pos hl] at e
        cases e
        obtain ⟨a, vs, rfl, h1, h2⟩ := is_tuple h
        exact ⟨a, vs, rfl, sqT_mono r.rel.sub h1, by rw [h2.len, hl], gNs_go (by rw [h2.len, hl]) (k _ (r.sets h2))⟩
      · simp only [bindT, if_neg hl] at e
        cases e
    | _ => cases e
theorem SRel.setO (r : SRel K B0 A0 F H σ env) {i : Nat} {p : Addr} {d : D} (h : Root K F H p d) (n : A0 p = none) (nw : ∀ (j : Nat) (e : D), env[j]? = some (.ow e) → σ[j]? ≠ some (some (.ref p))) : SRel K B0 A0 F H (σ.set i (some (.ref p))) (env.set i (.ow d)) := by
  refine ⟨r.rel.setO h nw, r.ext, fun j e q h1 h2 => ?_⟩
  by_cases c : i = j
  · subst c
    by_cases hl : i < env.length
    · have hl2 : i < σ.length := by rw [← r.rel.len]; exact hl
      rw [List.getElem?_set_self hl2] at h2
      cases h2
      exact n
    · rw [List.getElem?_eq_none (by rw [List.length_set]; omega)] at h1
      cases h1
  · rw [List.getElem?_set_ne c] at h1 h2
    exact r.fr j e q h1 h2
theorem SRel.freeze (r : SRel K B0 A0 F H σ env) {i : Nat} {d : D} (h : env[i]? = some (.ow d)) : ∃ F2, SRel K B0 A0 F2 H σ (env.set i (.sh d)) ∧ Same F F2 := by
  obtain ⟨p, o, h1, h2, h3, h4, h5⟩ := r.rel.freeze h
  refine ⟨upd F p o, ⟨h5, ⟨r.ext.f.trans h3, r.ext.h, h4, fun q z => ?_⟩, fun j e q z1 z2 => ?_⟩, h3⟩
  · by_cases c : q = p
    · subst c
      exact .inr (r.fr i d q h h1)
    · rw [upd_ne c] at z
      exact r.ext.n q z
  · by_cases c : i = j
    · subst c
      have hl : i < env.length := (List.getElem?_eq_some_iff.mp h).1
      rw [List.getElem?_set_self hl] at z1
      cases z1
    · rw [List.getElem?_set_ne c] at z1
      exact r.fr j e q z1 z2
theorem SRel.frz : ∀ {fz : List Nat} {F : Hp} {env : Env}, SRel K B0 A0 F H σ env → ∃ F2, SRel K B0 A0 F2 H σ (frz fz env)
  | [], F, env, r => ⟨F, r⟩
  | i :: fz, F, env, r => by
    unfold PV.frz
    split
    · rename_i d hd
      obtain ⟨F2, r2, _⟩ := r.freeze hd
      exact SRel.frz r2
    · exact SRel.frz r
/-- an own slot's list written -/
theorem SRel.write (r : SRel K B0 A0 F H σ env) {i : Nat} {p : Addr} {ds ds' : List D} {vs' : List V} (h : env[i]? = some (.ow (.list ds))) (hp : σ[i]? = some (some (.ref p))) (hr : Root K F H p (.list ds)) (n : IsL K F ds' vs') :
    SRel K B0 A0 F (upd H p (.lst vs')) σ (env.set i (.ow (.list ds'))) := by
  have hf : F p = none := hr.fno
  have ha : A0 p = none := r.fr i _ p h hp
  refine ⟨r.rel.write h hp hr ⟨hf, vs', upd_same, n⟩, r.ext.mut ha hf, fun j e q z1 z2 => ?_⟩
  by_cases c : i = j
  · subst c
    rw [hp] at z2
    cases z2
    exact ha
  · rw [List.getElem?_set_ne c] at z1
    exact r.fr j e q z1 z2
/-- an own slot's dict written -/
theorem SRel.writeD (r : SRel K B0 A0 F H σ env) {i : Nat} {p : Addr} {ds ds' : List (D × D)} {es' : List (Key × V)} (h : env[i]? = some (.ow (.dict ds))) (hp : σ[i]? = some (some (.ref p))) (hr : Root K F H p (.dict ds)) (n : IsK K F ds' es') :
    SRel K B0 A0 F (upd H p (.dK es')) σ (env.set i (.ow (.dict ds'))) := by
  have hf : F p = none := hr.fno
  have ha : A0 p = none := r.fr i _ p h hp
  refine ⟨r.rel.write h hp hr ⟨hf, es', upd_same, n⟩, r.ext.mut ha hf, fun j e q z1 z2 => ?_⟩
  by_cases c : i = j
  · subst c
    rw [hp] at z2
    cases z2
    exact ha
  · rw [List.getElem?_set_ne c] at z1
    exact r.fr j e q z1 z2
theorem ownD_ok {i : Nat} {ds : List (D × D)} (h : ownD env i = .ok ds) : env[i]? = some (.ow (.dict ds)) := by
  unfold ownD at h
  split at h
  · rename_i q
    cases h
    exact q
  · cases h
theorem ownD_exc {i : Nat} : ∀ c, ownD env i ≠ .exc c := fun c h => by
  unfold ownD at h
  split at h <;> cases h
/-- behind a reckoning -/
theorem SRel.aft {α : Type} {r : R α} {k : α → Out} (q : SRel K B0 A0 F H σ env) (h : Post K B0 A0 W E (Out.of env r k)) :
    Aft F H (fun c H' => W c σ H') r fun a F' H' => SRel K B0 A0 F' H' σ env ∧ Post K B0 A0 W E (k a) := by
  cases r with
  | ok a => exact fun F' H' e => ⟨q.next e, h⟩
  | exc c => exact fun F' H' e => h σ F' H' (q.next e)
  | stuck => exact h
theorem SRel.aftE {e : Ex} {k : TD → Out} (q : SRel K B0 A0 F H σ env) (h : Post K B0 A0 W E (Out.of env (ev G e env) k)) {Q : VK} (c : ∀ x F' H' v, Ext F H F' H' → Res K H F' H' v x → SRel K B0 A0 F' H' σ env → Post K B0 A0 W E (k x) → Q v H') : tE K W G e σ H Q :=
  ⟨F, env, q.rel, (q.aft h).imp fun x F' H' _ e1 ⟨s, p⟩ v rv => c x F' H' v e1 rv s p⟩
theorem Post.isInt {d : D} {k : Int → Out} (h : Post K B0 A0 W E (Out.of env (isInt d) k)) : ∃ i, d = .int i ∧ Post K B0 A0 W E (k i) := by
  cases d with
  | int i => exact ⟨i, rfl, h⟩
  | _ => exact h.elim
theorem Post.ok {α : Type} {r : R α} {k : α → Out} (h : Post K B0 A0 W E (Out.of env r k)) (ne : ∀ c, r ≠ .exc c) : ∃ a, r = .ok a ∧ Post K B0 A0 W E (k a) := by
  cases r with
  | ok a => exact ⟨a, rfl, h⟩
  | exc c => exact absurd rfl (ne c)
  | stuck => exact h.elim
theorem ownL_ok {i : Nat} {ds : List D} (h : ownL env i = .ok ds) : env[i]? = some (.ow (.list ds)) := by
  unfold ownL at h
  split at h
  · rename_i q
    cases h
    exact q
  · cases h
theorem ownL_exc {i : Nat} : ∀ c, ownL env i ≠ .exc c := fun c h => by
  unfold ownL at h
  split at h <;> cases h
theorem shD_ok {i : Nat} {d : D} (h : shD env i = .ok d) : env[i]? = some (.sh d) := by
  unfold shD at h
  split at h
  · rename_i q
    cases h
    exact q
  · cases h
theorem shD_exc {i : Nat} : ∀ c, shD env i ≠ .exc c := fun c h => by
  unfold shD at h
  split at h <;> cases h
theorem shOnly_exc {x : TD} : ∀ c, shOnly x ≠ .exc c := fun c h => by
  unfold shOnly at h
  split at h <;> cases h
theorem placed_ok {ds : List D} {k : Int} {p : Nat × D} (h : placed ds k = .ok p) : ixN ds.length k = some p.1 ∧ ds[p.1]? = some p.2 := by
  unfold placed at h
  split at h
  · rename_i j hj
    split at h
    · rename_i d hd
      cases h
      exact ⟨hj, hd⟩
    · cases h
  · cases h
theorem placed_exc {ds : List D} {k : Int} : ∀ c, placed ds k ≠ .exc c := fun c h => by
  unfold placed at h
  split at h
  · split at h <;> cases h
  · cases h
theorem augB_ok {o : Bop} {a b r : D} (h : augB o a b = .ok r) : ∃ i j, a = .int i ∧ b = .int j ∧ ((o = .add ∧ r = .int (i + j)) ∨ (o = .sub ∧ r = .int (i - j))) := by
  cases o <;> cases a <;> cases b <;> first | (cases h; done) | (cases h; exact ⟨_, _, rfl, rfl, .inl ⟨rfl, rfl⟩⟩) | (cases h; exact ⟨_, _, rfl, rfl, .inr ⟨rfl, rfl⟩⟩)
theorem augB_exc {o : Bop} {a b : D} : ∀ c, augB o a b ≠ .exc c := fun c h => by
  cases o <;> cases a <;> cases b <;> cases h
theorem isInt_exc {d : D} : ∀ c, isInt d ≠ .exc c := fun c h => by
  cases d <;> cases h
end

/-! ### augmented subscripts: the item read -/
section
variable {X : Cx}
def rGetL : V → V → Hp → VK → Prop := fun o i H Q => ∃ p xs k j v, o = .ref p ∧ i = .int k ∧ H p = some (.lst xs) ∧ ixN xs.length k = some j ∧ xs[j]? = some v ∧ Q v H
theorem get_listO : PGet X rGetL := by
  intro pins s σ H o i ov iv Q I ro ri h
  obtain ⟨p, xs, k, j, w, rfl, rfl, hp, hj, hw, q⟩ := h
  cases ro
  obtain ⟨t, rfl⟩ := ri
  obtain ⟨its, n, r, ho, hz⟩ := I.lst hp
  obtain ⟨h1, h2, h3, h4⟩ := ixN_seq hj
  obtain ⟨u, hu, ru⟩ := r.get hw
  have hl := r.length
  have hn := line63
  have il : s.heap.IsList p its.toArray := ⟨_, ho, rfl, n, rfl⟩
  by_cases h0 : 0 ≤ k
  · have hk : k.toNat = j := by
      rw [seqIndex_of h0 h4] at h1
      exact Option.some.inj h1
    exact wpAny_getItem_list il h0 (by omega) (x := u) (by rw [hk]; simpa using hu) ⟨w, H, I, ru, q⟩
  · have hk : (k + (its.toArray.size : Int)).toNat = j := by
      rw [seqIndex_neg (by omega) h3] at h1
      rw [List.size_toArray, ← hl]
      exact Option.some.inj h1
    exact wpAny_getItem_list_neg il (by omega) (by rw [List.size_toArray, ← hl]; exact h3) (by omega) (x := u) (by rw [hk]; simpa using hu) ⟨w, H, I, ru, q⟩
end

structure SFit (X : Cx) (W : Wd) (cref : Str → Value) (n : Nat) (G : Gam) (bs cs : List Str) (N : List Str) (sc : Scope) : Prop extends Fit X W cref n G bs cs N sc where
  fn : ∀ x, X.fn x = true
  pass : PassesOwn (model X.prog X.w) X.A X.env X.xe
theorem ps_imp {X : Cx} {e : Stmt} {t t' : TS} (h : PS X e t) (k : ∀ E σ H, t' E σ H → t E σ H) : PS X e t' := ⟨fun pins s σ H E I q => h.run pins s σ H E I (k E σ H q)⟩
theorem pss_imp {X : Cx} {e : List Stmt} {t t' : TS} (h : PSs X e t) (k : ∀ E σ H, t' E σ H → t E σ H) : PSs X e t' := ⟨fun pins s σ H E I q => h.run pins s σ H E I (k E σ H q)⟩
/-- what is held by a name is put down -/
theorem put_ok {K : PySem.W.Frag} {B0 A0 F H F' H' : Hp} {σ : L2.St} {env : Env} {W : Wd} {E : Ends} {i : Nat} {x : TD} {v : V} (s : SRel K B0 A0 F H σ env) (e : Ext F H F' H') (rv : Res K H F' H' v x) (p : Post K B0 A0 W E (put env i x)) : E.nx (σ.set i (some v)) H' := by
  have s1 := s.next e
  have rv := rv.nt e.s
  unfold put at p
  split at p
  · rename_i t d hz
    rw [hz] at rv
    exact p _ F' H' (s1.set rv)
  · rename_i t d ds hz he
    rw [hz, he] at rv
    obtain ⟨q, rfl, n, rt⟩ := rv
    refine p _ F' H' (s1.setO rt (s.ext.h.free n) fun j e2 hj hq => ?_)
    obtain ⟨q2, z1, z2⟩ := s.rel.own hj
    rw [hq] at z1
    cases z1
    exact z2.hso n
  · rename_i t d ds hz he
    rw [hz, he] at rv
    obtain ⟨q, rfl, n, rt⟩ := rv
    refine p _ F' H' (s1.setO rt (s.ext.h.free n) fun j e2 hj hq => ?_)
    obtain ⟨q2, z1, z2⟩ := s.rel.own hj
    rw [hq] at z1
    cases z1
    exact z2.hso n
  · exact p.elim
/-- a value to be shared for good -/
theorem shOnly_use {K : PySem.W.Frag} {B0 A0 F H F' H' : Hp} {σ : L2.St} {env : Env} {x : TD} {v : V} {d : D} (s : SRel K B0 A0 F H σ env) (e : Ext F H F' H') (rv : Res K H F' H' v x) (h : shOnly x = .ok d) : ∃ F2, SRel K B0 A0 F2 H' σ env ∧ Is K F2 d v ∧ Same F' F2 := by
  obtain ⟨h1, rfl⟩ := shOnly_ok h
  obtain ⟨F2, e2, s2, i2⟩ := res_dm2 e (rv.nt e.s) h1
  exact ⟨F2, s.next e2, i2, s2⟩
theorem swaps_name {e : Expr} {t : Option Expr} {n : Nat} {env : PySem.Env} {N bs : List Str} {ex : Ex} {sc : Scope} (h : chkE N bs ex sc e = true) (hc : ∀ a b c d, e ≠ .ListComp a b c d) : swapsWith e t n env = pure false := by
  cases e <;> first | rfl | exact absurd rfl (hc _ _ _ _) | (cases ex <;> simp [chkE] at h)
theorem swaps_two {e : Expr} {a b : Expr} {p : Pos} {n : Nat} {env : PySem.Env} : swapsWith e (some (.Subscript a b p)) n env = pure false := by
  cases e <;> rfl
theorem swaps_tup {e : Expr} {a : List Expr} {k : Nat} {p : Pos} {n : Nat} {env : PySem.Env} : swapsWith e (some (.Tuple a k p)) n env = pure false := by
  cases e <;> rfl
theorem stores_sub {e : Expr} {a b : Expr} {p : Pos} {env : PySem.Env} : swappedStores [.Subscript a b p] e env = pure none := by
  cases e <;> rfl
theorem stores_tup {e : Expr} {a : List Expr} {k : Nat} {p : Pos} {env : PySem.Env} (h : isTupE e = false) : swappedStores [.Tuple a k p] e env = pure none := by
  cases e <;> first | rfl | cases h
theorem swaps_lc {a : Expr} {b : List Comprehension} {c : Scope} {d p : Pos} {x : Str} {n : Nat} {env : PySem.Env} :
    (swapsWith (.ListComp a b c d) (some (.Name x p)) n env = pure false) ∨ (swapsWith (.ListComp a b c d) (some (.Name x p)) n env = pure true ∧ env.scope.names.lookup x = some .local) := by
  have h : swapsWith (.ListComp a b c d) (some (.Name x p)) n env = pure (env.blockKind == .function && env.kindOf x == some .local && p.line == d.line && !(c.names.any fun (n, k) => n == x && (k == .local || k == .cell))) := rfl
  cases q : (env.blockKind == .function && env.kindOf x == some .local && p.line == d.line && !(c.names.any fun (n, k) => n == x && (k == .local || k == .cell))) with
  | false => exact .inl (by rw [h, q])
  | true =>
    refine .inr ⟨by rw [h, q], ?_⟩
    simp only [Bool.and_eq_true, beq_iff_eq] at q
    exact q.1.1.2

section
variable {K : PySem.W.Frag} {B0 A0 F H : Hp} {σ : L2.St} {env : Env} {W : Wd} {G : Gam} {E : Ends} {n : Nat}
theorem Post.seq {o : Out} {r : List Sx} (h : Post K B0 A0 W E (o.then fun e => evSs G n r e)) : Post K B0 A0 W { E with nx := tSs K W G n r E } o := by
  cases o with
  | nx e => exact fun σ F H q => ⟨B0, A0, F, e, q, h⟩
  | _ => exact h
/-- a turn's end -/
theorem Post.turn {o : Out} {k : Env → Out} {N : L2.St → Hp → Prop} (h : Post K B0 A0 W E (match (generalizing := false) o with
      | .nx e => k e
      | .cnt e => k e
      | .brk e => .nx e
      | .ret t d => .ret t d
      | .exc c e => .exc c e
      | .stuck => .stuck)) (hN : ∀ e, Post K B0 A0 W E (k e) → ∀ σ F H, SRel K B0 A0 F H σ e → N σ H) : Post K B0 A0 W { E with nx := N, ct := N, bk := E.nx } o := by
  cases o with
  | nx e => exact fun σ F H q => hN e h σ F H q
  | cnt e => exact fun σ F H q => hN e h σ F H q
  | _ => exact h
theorem while_read {c : Te} {b : List Sx} (h : tS K W G n (.whl c b) E σ H) : tWhile (tT K W G c) (tSs K W G n b) E σ H := by
  obtain ⟨B0, A0, F, env, r, p⟩ := h
  unfold evS at p
  refine ⟨fun m σ H => ∃ F env, SRel K B0 A0 F H σ env ∧ Post K B0 A0 W E (wh (fun e => evT G c e) (fun e => evSs G n b e) m env), ⟨n, F, env, r, p⟩, ?_⟩
  rintro m σ H ⟨F, env, r, p⟩
  cases m with
  | zero => exact p.elim
  | succ m =>
    unfold wh at p
    refine ⟨F, env, r.rel, (r.aft p).imp fun t F1 H1 _ e1 ⟨s, p⟩ => ?_⟩
    cases t with
    | false => exact iteF (p _ _ _ s)
    | true =>
      refine iteT ⟨_, fun σ' H' z => ⟨m, Nat.lt_succ_self m, z⟩, B0, A0, F1, env, s, ?_⟩
      exact Post.turn p fun e q σ F H z => ⟨F, e, z, q⟩
theorem for_read {fz : List Nat} {tg : Tg} {src : Src} {b : List Sx} (h : tS K W G n (.lop fz tg src b) E σ H) : tFor (tSrc K W G src) (gTg K tg) (tSs K W G n b) E σ H := by
  obtain ⟨B0, A0, F, env, r, p⟩ := h
  unfold evS at p
  obtain ⟨F0, r0⟩ := r.frz (fz := fz)
  generalize frz fz env = env at p r0
  refine ⟨F0, env, r0.rel, (r0.aft p).imp fun s F1 H1 _ e1 ⟨s1, p1⟩ J hJ hD => ?_⟩
  cases hd : s.1.dm with
  | sh =>
    rw [hd] at p1
    obtain ⟨F2, e2, it⟩ := hD hd
    have s2 := (r0.next e2)
    have x2 : Ext B0 A0 F2 H1 := s2.ext
    have p2 := p1.rebase x2
    refine ⟨fun i m σ H => m = s.2.length - i ∧ i ≤ s.2.length ∧ ∃ F env, SRel K F2 A0 F H σ env ∧ Post K F2 A0 W E (lp (fun d e => match bindT tg (.sh, d) e with | some e2 => evSs G n b e2 | none => .stuck) (s.2.drop i) env),
      ⟨s.2.length, rfl, Nat.zero_le _, F2, env, s2.rebase, by rw [List.drop_zero]; exact p2⟩, ?_⟩
    rintro i m σ H ⟨rfl, hi, F, env, r, p⟩
    have sm : Same F2 H := r.ext.f.trans r.rel.sub
    by_cases hlt : i < s.2.length
    · refine .inr ⟨it.go H i sm hlt, _, fun σ' H' z => ⟨s.2.length - (i + 1), by omega, z⟩, fun x H' y => ?_⟩
      rw [List.drop_eq_getElem_cons hlt] at p
      have hd : s.2[i]? = some s.2[i] := List.getElem?_eq_getElem hlt
      generalize s.2[i] = d at p hd
      obtain ⟨F3, w1, w2⟩ := it.yld F H i x H' d sm r.rel.sub hd (.inl r.ext.f) y
      unfold lp at p
      cases hb : bindT tg (.sh, d) env with
      | none =>
        rw [hb] at p
        exact p.elim
      | some env2 =>
        rw [hb] at p
        refine (r.next w1).bind w2 hb fun σ2 r2 => ⟨F2, A0, F3, env2, r2, ?_⟩
        exact Post.turn p fun e q σ F H z => ⟨rfl, by omega, F, e, z, q⟩
    · have e0 : i = s.2.length := by omega
      subst e0
      rw [List.drop_length] at p
      exact .inl ⟨it.stop H sm, p _ _ _ r⟩
  | _ => rw [hd] at p1; exact p1.elim
end

section
variable {cref : Str → Value} {n : Nat} {G : Gam} {bs cs N : List Str}
theorem SFit.var {X : Cx} {W : Wd} {sc : Scope} (f : SFit X W cref n G bs cs N sc) {i : Nat} {x : Str} (h : (decide (N[i]? = some x) && visB sc x && nmB x) = true) {pos : Pos} : PE X (.Name x pos) (tVar i) := by
  simp only [Bool.and_eq_true, decide_eq_true_eq] at h
  exact f.nm h.1.1 h.1.2 h.2
/-- name = a comprehension, stored at once -/
theorem sLc {X : Cx} {W : Wd} {sc : Scope} {own : List (Str × Nat)} {tg : Tg} {src : Src} {c : Tes} {e : Ex} {elt : Expr} {gs : List Comprehension} {scope : Scope} {p px pos : Pos} {x : Str} {i : Nat} (ft : SFit X W cref n G bs cs N sc) (h : chkE N bs (.cpr own tg src c e) sc (.ListComp elt gs scope p) = true)
    (hy : X.N[i]? = some x) (hl : X.env.scope.names.lookup x = some .local) (hsw : swapsWith (.ListComp elt gs scope p) (some (.Name x px)) pos.line X.env = pure true) : PS X (.Assign [.Name x px] (.ListComp elt gs scope p) pos) (tAsg (tE X.K W G (.cpr own tg src c e)) (gName i)) := by
  match gs, h, hsw with
  | [⟨t, it, ifs, z⟩], h, hsw =>
    simp only [chkE, Bool.and_eq_true, decide_eq_true_eq] at h
    obtain ⟨⟨⟨⟨⟨⟨⟨rfl, h1⟩, h2⟩, h3⟩, h4⟩, h5⟩, h6⟩, h7⟩ := h
    have hN := ft.hN
    have hsc := ft.hsc
    have f := ft.toFit
    exact ps_imp (ps_setLc (own := own) ft.calm (by rw [hN]; exact ft.nd) hy hl hsw (sSrc src f h3) (by rw [hN, hsc]; exact blkOk_by h1)
      (fun s H C cl fp => pg_of (cok := fun x => scope.names.lookup x == some .cell) (f.blk s H scope cl C fp).hN f.nd (f.blk s H scope cl C fp).hsc (fun x hx => hx) f.calm h2)
      (fun s H C cl fp => sIf c (f.blk s H scope cl C fp) h4 h5)
      (fun s H C cl fp => sE e (f.blk s H scope cl C fp) h6) (nofold (src_noSet h3))) fun E σ H q => lc_read h7 σ H _ q
  | [], h, _ => simp [chkE] at h
  | _ :: _ :: _, h, _ => simp [chkE] at h
theorem asg_read {K : PySem.W.Frag} {W : Wd} {wn : Nat} {fz : List Nat} {i : Nat} {e : Ex} {E : Ends} {σ : L2.St} {H : Hp} (h : tS K W G wn (.asg fz i e) E σ H) : tAsg (tE K W G e) (gName i) E σ H := by
  obtain ⟨B0, A0, F, env, r, p⟩ := h
  unfold evS at p
  obtain ⟨F0, r0⟩ := r.frz (fz := fz)
  exact r0.aftE p fun x F' H' v e rv s p => put_ok r0 e rv p
mutual
theorem sS (wn : Nat) : ∀ (x : Sx) {X : Cx} {W : Wd} {sc : Scope} {st : Stmt}, SFit X W cref n G bs cs N sc → chkS N bs cs sc x st = true → PS X st (tS X.K W G wn x)
  | .asg fz i e, X, W, sc, st, ft, h => by
    cases st with
    | Assign ts v pos =>
      match ts, h with
      | [tg], h =>
        cases tg with
        | Name x px =>
          simp only [chkS, Bool.and_eq_true] at h
          obtain ⟨a, b, c⟩ := st_of ft.hN ft.hsc (fun x _ => ft.fn x) h.1
          have hN : X.N.Nodup := by rw [ft.hN]; exact ft.nd
          by_cases hl : ∃ a b c d, v = .ListComp a b c d
          · obtain ⟨a1, a2, a3, a4, rfl⟩ := hl
            rcases swaps_lc (a := a1) (b := a2) (c := a3) (d := a4) (p := px) (x := x) (n := pos.line) (env := X.env) with z | ⟨z, y⟩
            · exact ps_imp (ps_set hN a b (sE e ft.toFit h.2) z c) fun E σ H q => asg_read q
            · cases e with
              | cpr own tg src c e => exact ps_imp (sLc ft h.2 a y z) fun E σ H q => asg_read q
              | _ => simp [chkE] at h
          · exact ps_imp (ps_set hN a b (sE e ft.toFit h.2) (swaps_name h.2 fun a b c d z => hl ⟨a, b, c, d, z⟩) c) fun E σ H q => asg_read q
        | _ => simp [chkS] at h
      | [], h => simp [chkS] at h
      | a :: _ :: _, h => cases a <;> first | (cases h; done) | (rename_i u _ _; cases u <;> cases h)
    | _ => simp [chkS] at h
  | .asgT fz is e, X, W, sc, st, ft, h => by
    cases st with
    | Assign ts v pos =>
      match ts, h with
      | [tg], h =>
        cases tg with
        | Tuple es k px =>
          simp only [chkS, Bool.and_eq_true, Bool.not_eq_true'] at h
          refine ps_imp (ps_asg (sE e ft.toFit h.2) (pg_of (tg := .tp is) (cok := fun _ => true) ft.hN ft.nd ft.hsc (fun x _ => ft.fn x) ft.calm (by simpa only [chkTg] using h.1.1)) (swaps_tup (a := es) (k := k) (p := px) (n := pos.line) (env := X.env)) (stores_tup h.1.2)) fun E σ H q => ?_
          obtain ⟨B0, A0, F, env, r, p⟩ := q
          unfold evS at p
          obtain ⟨F0, r0⟩ := r.frz (fz := fz)
          refine r0.aftE p fun x F' H' v e rv s p => ?_
          cases hb : bindT (.tp is) ((nt x.1 x.2).dm, x.2) (frz fz env) with
          | none => rw [hb] at p; exact p.elim
          | some e2 =>
            rw [hb] at p
            have hd : (nt x.1 x.2).dm = .sh := by
              cases hz : (nt x.1 x.2).dm <;> first | rfl | (rw [hz] at hb; cases x.2 <;> cases hb)
            obtain ⟨F2, x2, _, i2⟩ := res_dm2 e (rv.nt e.s) hd
            exact (r0.next x2).bind i2 hb fun σ2 r2 => p _ _ _ r2
        | _ => simp [chkS] at h
      | [], h => simp [chkS] at h
      | a :: _ :: _, h => cases a <;> first | (cases h; done) | (rename_i u _ _; cases u <;> cases h)
    | _ => simp [chkS] at h
  | .aug i o e, X, W, sc, st, ft, h => by
    cases st with
    | AugAssign tg op v pos =>
      cases tg with
      | Name x px =>
        simp only [chkS, Bool.and_eq_true, decide_eq_true_eq] at h
        obtain ⟨⟨⟨h0, rfl⟩, h1⟩, h2⟩ := h
        obtain ⟨a, b, c⟩ := st_of ft.hN ft.hsc (fun x _ => ft.fn x) h1
        have hN : X.N.Nodup := by rw [ft.hN]; exact ft.nd
        have rd : ∀ (f : Int → Int → Int), (∀ i j r, augB o (.int i) (.int j) = .ok r → r = .int (f i j)) → ∀ E σ H, tS X.K W G wn (.aug i o e) E σ H → tAug i (tE X.K W G e) (ipI f) E σ H := fun f hf E σ H q => by
          obtain ⟨B0, A0, F, env, r, p⟩ := q
          unfold evS at p
          obtain ⟨d, hd, p⟩ := p.ok shD_exc
          obtain ⟨w, hw, iw⟩ := r.rel.slot i _ (shD_ok hd)
          refine ⟨w, hw, r.aftE p fun x F' H' v e rv s p => ?_⟩
          obtain ⟨z, hz, p⟩ := p.ok augB_exc
          obtain ⟨m, k, rfl, hk, _⟩ := augB_ok hz
          have iv := rv.is e.s
          rw [hk] at iv hz
          have hz' := hf m k z hz
          subst hz'
          exact ⟨m, k, is_int iw, is_int iv, p _ _ _ (s.set int_is)⟩
        cases o <;> first | (cases h0; done) | skip
        · exact ps_imp (ps_aug hN a b (sE e ft.toFit h2) ip_add c) (rd _ fun i j r z => by cases z; rfl)
        · exact ps_imp (ps_aug hN a b (sE e ft.toFit h2) ip_sub c) (rd _ fun i j r z => by cases z; rfl)
      | _ => simp [chkS] at h
    | _ => simp [chkS] at h
  | .augX i o kx e, X, W, sc, st, ft, h => by
    cases st with
    | AugAssign tg op v pos =>
      cases tg with
      | Subscript ob sx px =>
        cases ob with
        | Name x px2 =>
          simp only [chkS, Bool.and_eq_true, decide_eq_true_eq] at h
          obtain ⟨⟨⟨⟨⟨⟨⟨h0, rfl⟩, h1⟩, h2⟩, h3⟩, h4⟩, h5⟩, h6⟩ := h
          have pv : PE X (.Name x px2) (tVar i) := ft.nm h1 h2 h3
          have ha : ∀ ov iv new, augStore sx ov iv new = (do holding [new, ov, iv] (setItem ov iv new); release [new, ov, iv] []; pure .next) := by
            cases sx <;> first | (intros; rfl) | cases h4
          have rd : ∀ (f : Int → Int → Int), (∀ i j r, augB o (.int i) (.int j) = .ok r → r = .int (f i j)) → ∀ E σ H, tS X.K W G wn (.augX i o kx e) E σ H → tAugS (tVar i) (tE X.K W G kx) (tE X.K W G e) rGetL (ipI f) rSetL E σ H := fun f hf E σ H q => by
            obtain ⟨B0, A0, F, env, r, p⟩ := q
            unfold evS at p
            obtain ⟨ds, hd, p⟩ := p.ok ownL_exc
            have hd := ownL_ok hd
            obtain ⟨pa, hpa, rt⟩ := r.rel.own hd
            refine ⟨_, hpa, r.aftE p fun x1 F1 H1 v1 e1 rv1 s1 p => ?_⟩
            obtain ⟨k, hk, p⟩ := p.isInt
            obtain ⟨jd, hj, p⟩ := p.ok placed_exc
            obtain ⟨hj1, hj2⟩ := placed_ok hj
            have iv1 := rv1.is e1.s
            rw [hk] at iv1
            obtain ⟨f1, vs, hvs, hL⟩ := rt.mono e1
            obtain ⟨w, hw, iw⟩ := hL.get hj2
            refine ⟨pa, vs, k, jd.1, w, rfl, is_int iv1, hvs, by rw [hL.len]; exact hj1, hw, s1.aftE p fun x2 F2 H2 v2 e2 rv2 s2 p => ?_⟩
            obtain ⟨z, hz, p⟩ := p.ok augB_exc
            obtain ⟨m, k2, hm, hk2, _⟩ := augB_ok hz
            have iv2 := rv2.is e2.s
            rw [hk2] at iv2
            rw [hm] at iw
            rw [hm, hk2] at hz
            have hz' := hf m k2 z hz
            subst hz'
            have rt2 := (rt.mono e1).mono e2
            obtain ⟨f2, vs2, hvs2, hL2⟩ := id rt2
            refine ⟨m, k2, is_int iw, is_int iv2, pa, vs2, k, jd.1, rfl, is_int iv1, hvs2, by rw [hL2.len]; exact hj1, ?_⟩
            exact p _ _ _ (s2.write hd hpa rt2 (hL2.set jd.1 int_is))
          cases o <;> first | (cases h0; done) | skip
          · exact ps_imp (ps_augS pv (sE kx ft.toFit h5) get_listO (sE e ft.toFit h6) ip_add set_list ha) (rd _ fun i j r z => by cases z; rfl)
          · exact ps_imp (ps_augS pv (sE kx ft.toFit h5) get_listO (sE e ft.toFit h6) ip_sub set_list ha) (rd _ fun i j r z => by cases z; rfl)
        | _ => simp [chkS] at h
      | _ => simp [chkS] at h
    | _ => simp [chkS] at h
  | .setX fz i kx e, X, W, sc, st, ft, h => by
    cases st with
    | Assign ts v pos =>
      match ts, h with
      | [tg], h =>
        cases tg with
        | Subscript ob sx px =>
          cases ob with
          | Name x px2 =>
            simp only [chkS, Bool.and_eq_true, decide_eq_true_eq] at h
            obtain ⟨⟨⟨⟨⟨h1, h2⟩, h3⟩, h4⟩, h5⟩, h6⟩ := h
            have pv : PE X (.Name x px2) (tVar i) := ft.nm h1 h2 h3
            have pg : PG X (.Subscript (.Name x px2) sx px) (gSub (tVar i) (tE X.K W G kx) rSetL) := by
              refine pg_sub pv (sE kx ft.toFit h5) set_list ?_
              cases sx <;> first | (intro _; rfl) | cases h4
            refine ps_imp (ps_asg (sE e ft.toFit h6) pg (swaps_two (a := .Name x px2) (b := sx) (p := px) (n := pos.line) (env := X.env)) stores_sub) fun E σ H q => ?_
            obtain ⟨B0, A0, F, env, r, p⟩ := q
            unfold evS at p
            obtain ⟨F0, r0⟩ := r.frz (fz := fz)
            generalize frz fz env = env at p r0
            refine r0.aftE p fun y F1 H1 v1 e1 rv1 s1 p => ?_
            obtain ⟨d, hd, p⟩ := p.ok shOnly_exc
            obtain ⟨F2, s2, i2, _⟩ := shOnly_use r0 e1 rv1 hd
            obtain ⟨ds, hds, p⟩ := p.ok ownL_exc
            have hds := ownL_ok hds
            obtain ⟨pa, hpa, rt⟩ := s2.rel.own hds
            refine ⟨_, hpa, s2.aftE p fun x3 F3 H3 v3 e3 rv3 s3 p => ?_⟩
            obtain ⟨k, hk, p⟩ := p.isInt
            obtain ⟨jd, hj, p⟩ := p.ok placed_exc
            obtain ⟨hj1, hj2⟩ := placed_ok hj
            have iv3 := rv3.is e3.s
            rw [hk] at iv3
            have rt2 := rt.mono e3
            obtain ⟨f2, vs2, hvs2, hL2⟩ := id rt2
            refine ⟨pa, vs2, k, jd.1, rfl, is_int iv3, hvs2, by rw [hL2.len]; exact hj1, ?_⟩
            exact p _ _ _ (s3.write hds hpa rt2 (hL2.set jd.1 (i2.mono e3.f)))
          | _ => simp [chkS] at h
        | _ => simp [chkS] at h
      | [], h => simp [chkS] at h
      | a :: _ :: _, h => cases a <;> first | (cases h; done) | (rename_i u _ _; cases u <;> cases h)
    | _ => simp [chkS] at h
  | .setD fz i kx e, X, W, sc, st, ft, h => by
    cases st with
    | Assign ts v pos =>
      match ts, h with
      | [tg], h =>
        cases tg with
        | Subscript ob sx px =>
          cases ob with
          | Name x px2 =>
            simp only [chkS, Bool.and_eq_true, decide_eq_true_eq] at h
            obtain ⟨⟨⟨⟨⟨h1, h2⟩, h3⟩, h4⟩, h5⟩, h6⟩ := h
            have pv : PE X (.Name x px2) (tVar i) := ft.nm h1 h2 h3
            have hu : X.A.units + 1 < cLine := by
              have := ft.room.units
              omega
            have pg : PG X (.Subscript (.Name x px2) sx px) (gSub (tVar i) (tE X.K W G kx) rSetD) := by
              refine pg_sub pv (sE kx ft.toFit h5) (set_dict hu) ?_
              cases sx <;> first | (intro _; rfl) | cases h4
            refine ps_imp (ps_asg (sE e ft.toFit h6) pg (swaps_two (a := .Name x px2) (b := sx) (p := px) (n := pos.line) (env := X.env)) stores_sub) fun E σ H q => ?_
            obtain ⟨B0, A0, F, env, r, p⟩ := q
            unfold evS at p
            obtain ⟨F0, r0⟩ := r.frz (fz := fz)
            generalize frz fz env = env at p r0
            refine r0.aftE p fun y F1 H1 v1 e1 rv1 s1 p => ?_
            obtain ⟨d, hd, p⟩ := p.ok shOnly_exc
            obtain ⟨F2, s2, i2, _⟩ := shOnly_use r0 e1 rv1 hd
            obtain ⟨ds, hds, p⟩ := p.ok ownD_exc
            have hds := ownD_ok hds
            obtain ⟨pa, hpa, rt⟩ := s2.rel.own hds
            refine ⟨_, hpa, s2.aftE p fun x3 F3 H3 v3 e3 rv3 s3 p => ?_⟩
            cases hk : dkey x3.2 with
            | none => rw [hk] at p; exact p.elim
            | some kk =>
              rw [hk] at p
              have p : Post X.K B0 A0 W E (if ds.length < lim then .nx (env.set i (.ow (.dict (dPutK ds kk d)))) else .stuck) := p
              by_cases hl : ds.length < lim
              · rw [if_pos hl] at p
                have rt2 := rt.mono e3
                obtain ⟨f2, es2, hes2, hK2⟩ := id rt2
                refine ⟨pa, _, rfl, ?_, p _ _ _ (s3.writeD hds hpa rt2 (isK_put hK2 (i2.mono e3.f)))⟩
                rw [key_is (rv3.is e3.s) hk]
                exact DPut.k hes2 (by rw [isK_len hK2]; exact Nat.lt_trans hl lim_lt)
              · rw [if_neg hl] at p
                exact p.elim
          | _ => simp [chkS] at h
        | _ => simp [chkS] at h
      | [], h => simp [chkS] at h
      | a :: _ :: _, h => cases a <;> first | (cases h; done) | (rename_i u _ _; cases u <;> cases h)
    | _ => simp [chkS] at h
  | .app fz i e, X, W, sc, st, ft, h => by
    cases st with
    | Expr v pos =>
      cases v with
      | Call fn args kws cpos =>
        cases fn with
        | Attribute ob m ap =>
          cases ob with
          | Name x px =>
            match args, kws, h with
            | [y], [], h =>
              simp only [chkS, Bool.and_eq_true, decide_eq_true_eq] at h
              obtain ⟨⟨⟨⟨⟨rfl, h1⟩, h2⟩, h3⟩, h4⟩, h5⟩ := h
              have st := star_cons (es := []) (env := X.env) (chk_noStar h5)
              have pv : PE X (.Name x px) (tVar i) := ft.nm h2 h3 h4
              have pe := pe_bm (apos := ap) (cpos := cpos) PySem.F.plainAttrs_list PySem.F.slot_list_append PySem.F.type_list_append mt_append pv (pa_cons (sE e ft.toFit h5) pa_nil st) rfl (by rw [st]; rfl) (beq_iff_eq.mpr h1) st rfl
              refine ps_imp (ps_expr pe rfl) fun E σ H q => ?_
              obtain ⟨B0, A0, F, env, r, p⟩ := q
              unfold evS at p
              obtain ⟨F0, r0⟩ := r.frz (fz := fz)
              generalize frz fz env = env at p r0
              obtain ⟨ds, hds, p⟩ := p.ok ownL_exc
              have hds := ownL_ok hds
              obtain ⟨pa, hpa, rt⟩ := r0.rel.own hds
              refine ⟨_, hpa, .inl ⟨rfl, ?_⟩, r0.aftE p fun y F1 H1 v1 e1 rv1 s1 p => ?_⟩
              · obtain ⟨_, vs, hvs, _⟩ := rt
                exact ⟨vs, (LL.of (K := X.K) hvs).seq⟩
              · obtain ⟨d, hd, p⟩ := p.ok shOnly_exc
                obtain ⟨F2, s2, i2, _⟩ := shOnly_use r0 e1 rv1 hd
                obtain ⟨pa', hpa', rt2⟩ := s2.rel.own hds
                rw [hpa] at hpa'
                cases hpa'
                obtain ⟨f2, vs2, hvs2, hL2⟩ := id rt2
                by_cases hl : ds.length < lim
                · rw [if_pos hl] at p
                  refine ⟨pa, vs2, v1, rfl, rfl, hvs2, by rw [hL2.len]; exact Nat.lt_trans hl lim_lt, ?_⟩
                  exact p _ _ _ (s2.write hds hpa rt2 (hL2.app (.one i2)))
                · rw [if_neg hl] at p
                  exact p.elim
            | [], _, h => simp [chkS] at h
            | [_], _ :: _, h => simp [chkS] at h
            | _ :: _ :: _, _, h => simp [chkS] at h
          | _ => simp [chkS] at h
        | _ => simp [chkS] at h
      | _ => simp [chkS] at h
    | _ => simp [chkS] at h
  | .exp e, X, W, sc, st, ft, h => by
    cases st with
    | Expr v pos =>
      simp only [chkS, Bool.and_eq_true] at h
      refine ps_imp (ps_expr (sE e ft.toFit h.2) (by cases v <;> first | rfl | cases h.1)) fun E σ H q => ?_
      obtain ⟨B0, A0, F, env, r, p⟩ := q
      unfold evS at p
      exact r.aftE p fun x F' H' v e rv s p => p _ _ _ s
    | _ => simp [chkS] at h
  | .ifs c a b, X, W, sc, st, ft, h => by
    cases st with
    | If t x y pos =>
      simp only [chkS, Bool.and_eq_true] at h
      refine ps_imp (ps_if (sT c ft.toFit h.1.1) (sSs wn a ft h.1.2) (sSs wn b ft h.2)) fun E σ H q => ?_
      obtain ⟨B0, A0, F, env, r, p⟩ := q
      unfold evS at p
      refine ⟨F, env, r.rel, (r.aft p).imp fun t F1 H1 _ e1 ⟨s, p⟩ => ?_⟩
      cases t with
      | true => exact iteT ⟨B0, A0, F1, env, s, p⟩
      | false => exact iteF ⟨B0, A0, F1, env, s, p⟩
    | _ => simp [chkS] at h
  | .whl c a, X, W, sc, st, ft, h => by
    cases st with
    | While t x els pos =>
      cases els with
      | nil =>
        simp only [chkS, Bool.and_eq_true] at h
        exact ps_imp (ps_while ft.pass (sT c ft.toFit h.1) (sSs wn a ft h.2)) fun E σ H q => while_read q
      | cons _ _ => simp [chkS] at h
    | _ => simp [chkS] at h
  | .lop fz tg src a, X, W, sc, st, ft, h => by
    cases st with
    | For t it x els pos =>
      cases els with
      | nil =>
        simp only [chkS, Bool.and_eq_true] at h
        exact ps_imp (ps_for ft.pass ft.calm (sSrc src ft.toFit h.1.2) (pg_of (cok := fun _ => true) ft.hN ft.nd ft.hsc (fun x _ => ft.fn x) ft.calm h.1.1) (sSs wn a ft h.2) (nofold (src_noSet h.1.2))) fun E σ H q => for_read q
      | cons _ _ => simp [chkS] at h
    | _ => simp [chkS] at h
  | .ret fz e, X, W, sc, st, ft, h => by
    cases st with
    | Return v pos =>
      cases v with
      | some v =>
        simp only [chkS] at h
        refine ps_imp (ps_ret (sE e ft.toFit h)) fun E σ H q => ?_
        obtain ⟨B0, A0, F, env, r, p⟩ := q
        unfold evS at p
        obtain ⟨F0, r0⟩ := r.frz (fz := fz)
        refine r0.aftE p fun x F' H' v e rv s p => ?_
        have rv := rv.nt e.s
        split at p
        · rename_i hz
          rw [hz] at rv
          exact p v F' H' s.ext rv
        · rename_i hz
          rw [hz] at rv
          exact p v F' H' s.ext (rv.back r0.ext.h)
        · exact p.elim
      | none => simp [chkS] at h
    | _ => simp [chkS] at h
  | .rtv i, X, W, sc, st, ft, h => by
    cases st with
    | Return v pos =>
      cases v with
      | some v =>
        cases v with
        | Name x px =>
          simp only [chkS] at h
          refine ps_imp (ps_ret (ft.var h)) fun E σ H q => ?_
          obtain ⟨B0, A0, F, env, r, p⟩ := q
          unfold evS at p
          split at p
          · rename_i d hd
            obtain ⟨pa, hpa, rt⟩ := r.rel.own hd
            exact ⟨_, hpa, p _ F H r.ext ⟨pa, rfl, r.fr i d pa hd hpa, rt⟩⟩
          · rename_i d hd
            obtain ⟨v, hv, iv⟩ := r.rel.slot i _ hd
            exact ⟨_, hv, p _ F H r.ext iv⟩
          · exact p.elim
        | _ => simp [chkS] at h
      | none => simp [chkS] at h
    | _ => simp [chkS] at h
  | .rtn, X, W, sc, st, ft, h => by
    cases st with
    | Return v pos =>
      cases v with
      | some v => simp [chkS] at h
      | none =>
        refine ps_imp ps_retN fun E σ H q => ?_
        obtain ⟨B0, A0, F, env, r, p⟩ := q
        unfold evS at p
        exact p .non F H r.ext (show Is X.K F .none .non by simp only [Is])
    | _ => simp [chkS] at h
  | .brk, X, W, sc, st, ft, h => by
    cases st with
    | Break pos => exact ps_imp ps_break fun E σ H ⟨B0, A0, F, env, r, p⟩ => (show Post X.K B0 A0 W E (.brk env) by unfold evS at p; exact p) _ _ _ r
    | _ => simp [chkS] at h
  | .cnt, X, W, sc, st, ft, h => by
    cases st with
    | Continue pos => exact ps_imp ps_continue fun E σ H ⟨B0, A0, F, env, r, p⟩ => (show Post X.K B0 A0 W E (.cnt env) by unfold evS at p; exact p) _ _ _ r
    | _ => simp [chkS] at h
  | .pas, X, W, sc, st, ft, h => by
    cases st with
    | Pass pos => exact ps_imp ps_pass fun E σ H ⟨B0, A0, F, env, r, p⟩ => (show Post X.K B0 A0 W E (.nx env) by unfold evS at p; exact p) _ _ _ r
    | _ => simp [chkS] at h
  | .rai c, X, W, sc, st, ft, h => by
    cases st with
    | Raise e cause pos =>
      cases cause with
      | none =>
        cases e with
        | some e =>
          cases e with
          | Call fn args kws pos =>
            cases fn with
            | Name x px =>
              match args, kws, h with
              | [y], [], h =>
                cases y with
                | Constant cc k p2 =>
                  cases cc with
                  | str m =>
                    simp only [chkS, chkR, Bool.and_eq_true, decide_eq_true_eq] at h
                    obtain ⟨⟨⟨rfl, h1⟩, h2⟩, h3⟩ := h
                    obtain ⟨C, hC⟩ := ft.gc.exs x h3
                    refine ps_imp (ps_raise ft.calm ft.tk (pmk_own PySem.F.excBase_ValueError hC.ex hC.mg hC.kp (raises_own hC.sb hC.ty) (ft.gl h1) (nm_of h2).1)) fun E σ H q => ?_
                    obtain ⟨B0, A0, F, env, r, p⟩ := q
                    unfold evS at p
                    exact ⟨rfl, x, hC.cr.symm, p _ _ _ r⟩
                  | _ => simp [chkS, chkR] at h
                | _ => simp [chkS, chkR] at h
              | [], _, h => simp [chkS, chkR] at h
              | [y], _ :: _, h => cases y <;> first | (cases h; done) | (rename_i cc _ _; cases cc <;> cases h)
              | y :: _ :: _, k, h => cases y <;> first | (cases h; done) | (rename_i cc _ _; cases cc <;> cases h)
            | _ => simp [chkS, chkR] at h
          | _ => simp [chkS, chkR] at h
        | none => cases h
      | some _ => cases e <;> cases h
    | _ => simp [chkS, chkR] at h
termination_by x => sizeOf x
theorem sSs (wn : Nat) : ∀ (x : List Sx) {X : Cx} {W : Wd} {sc : Scope} {st : List Stmt}, SFit X W cref n G bs cs N sc → chkSs N bs cs sc x st = true → PSs X st (tSs X.K W G wn x)
  | [], X, W, sc, st, ft, h => by
    cases st with
    | nil => exact pss_imp pss_nil fun E σ H ⟨B0, A0, F, env, r, p⟩ => (show Post X.K B0 A0 W E (.nx env) by unfold evSs at p; exact p) _ _ _ r
    | cons _ _ => simp [chkSs] at h
  | s :: l, X, W, sc, st, ft, h => by
    cases st with
    | nil => simp [chkSs] at h
    | cons a b =>
      simp only [chkSs, Bool.and_eq_true] at h
      refine pss_imp (pss_cons (sS wn s ft h.1) (sSs wn l ft h.2)) fun E σ H ⟨B0, A0, F, env, r, p⟩ => ?_
      unfold evSs at p
      exact ⟨B0, A0, F, env, r, p.seq⟩
termination_by x => sizeOf x
end
end
end PV

/-! PvDef: a def keeps the promise that the reckoning of its body gives; the law's end. -/
namespace PV
open PySem PySem.Spec PyProof.Rows L2

section
variable {P : Program} {w : World} {K : PySem.W.Frag} {mg : Str → Option Value} {base : Heap} {cref : Str → Value} {G : Gam} {bs cs : List Str}
theorem FnG.mono {j k : Nat} {f : Addr} {fd : FuncData} {ps : List Str} {sp : Sp} (F : FnG P w K mg base j f fd ps sp) (h : j ≤ k) : FnG P w K mg base k f fd ps sp :=
  ⟨F.len, fun A outer s H args us vs Q E hr hg he hb hv hs => F.run A outer s H args us vs Q E (hr.mono h) hg he hb hv hs⟩
theorem GC.mono {j k : Nat} (g : GC P w K mg base cref j G bs cs) (h : j ≤ k) : GC P w K mg base cref k G bs cs :=
  ⟨g.blt, fun x e hx => by
    obtain ⟨f, fd, ps, h1, h2, h3, h4, h5⟩ := g.fns x e hx
    exact ⟨f, fd, ps, h1, h2, h3, h4.mono h, h5⟩, g.exs⟩
def Gam.none : Gam := fun _ => Option.none
def Gam.add (G : Gam) (x : Str) (g : List D → R (Bool × D)) : Gam := fun y => if y = x then some g else G y
theorem GC.nil (h1 : ∀ x ∈ bs, mg x = none) (h2 : ∀ c ∈ cs, ∃ C, ExcC K mg cref c C) : GC P w K mg base cref 0 Gam.none bs cs := ⟨h1, fun x g h => (by cases h), h2⟩
theorem evDef_len {W sz k : Nat} {b : List Sx} (ds : List D) (h : evDef G W sz k b ds ≠ .stuck) : ds.length = k := by
  by_cases c : ds.length = k
  · exact c
  · unfold evDef at h
    rw [if_pos c] at h
    exact absurd rfl h
theorem GC.add {k : Nat} {x : Str} {g : List D → R (Bool × D)} {f : Addr} {fd : FuncData} {ps : List Str} (gc : GC P w K mg base cref k G bs cs) (h1 : mg x = some (.ref f)) (h2 : PySem.W.keepIn K (.ref f) = true) (h3 : Binds K fd ps [])
    (h4 : FnG P w K mg base k f fd ps (spD K cref ps.length g)) (h5 : ∀ ds, g ds ≠ .stuck → ds.length = ps.length) : GC P w K mg base cref k (G.add x g) bs cs := by
  refine ⟨gc.blt, fun y e he => ?_, gc.exs⟩
  unfold Gam.add at he
  by_cases c : y = x
  · subst c
    rw [if_pos rfl] at he
    cases he
    exact ⟨f, fd, ps, h1, h2, h3, h4, h5⟩
  · rw [if_neg c] at he
    exact gc.fns y e he
theorem rel_start {F H : Hp} {N : List Str} {vs : List V} {ds : List D} {sz : Nat} (s : Same F H) (h : IsL K F ds vs) (hs : N.length = sz) : SRel K F H F H (L2.start N vs) (ds.map Slot.sh ++ List.replicate (sz - ds.length) Slot.no) := by
  have hl := h.len
  have sl : ∀ (i : Nat) (o : Slot), (ds.map Slot.sh ++ List.replicate (sz - ds.length) Slot.no)[i]? = some o → o = .no ∨ ∃ d, o = .sh d ∧ ds[i]? = some d := fun i o e => by
    by_cases c : i < ds.length
    · rw [List.getElem?_append_left (by simpa using c), List.getElem?_map, List.getElem?_eq_getElem c] at e
      cases e
      exact .inr ⟨_, rfl, List.getElem?_eq_getElem c⟩
    · rw [List.getElem?_append_right (by simpa using c), List.getElem?_replicate] at e
      split at e
      · cases e
        exact .inl rfl
      · cases e
  have no : ∀ (i : Nat) (d : D), (ds.map Slot.sh ++ List.replicate (sz - ds.length) Slot.no)[i]? ≠ some (.ow d) := fun i d e => by
    rcases sl i _ e with z | ⟨_, z, _⟩ <;> cases z
  refine ⟨⟨s, ?_, fun i o e => ?_, fun i j d e p h1 => absurd h1 (no i d)⟩, Ext.refl s, fun i d p h1 => absurd h1 (no i d)⟩
  · unfold L2.start
    rw [List.length_append, List.length_append, List.length_map, List.length_map, List.length_replicate, List.length_replicate, hs, hl]
  · rcases sl i o e with rfl | ⟨d, rfl, hd⟩
    · trivial
    · obtain ⟨v, hv, iv⟩ := h.get hd
      refine ⟨v, ?_, iv⟩
      have hi : i < vs.length := (List.getElem?_eq_some_iff.mp hv).1
      unfold L2.start
      rw [List.getElem?_append_left (by simpa using hi), List.getElem?_map, hv]
      rfl
/-- THE RULE for a def -/
theorem def_ok {k wn : Nat} {f : Addr} {x qual : Str} {st : Stmt} {fd : FuncData} {N ps : List Str} {b : List Sx} (F : L2.Fun K x qual st f fd) (S : FnScope N ps (defScope st)) (gc : GC P w K mg base cref k G bs cs)
    (ch : chkSs N bs cs (defScope st) b (defBody st) = true) : FnG P w K mg base (k + 1) f fd ps (spD K cref ps.length (evDef G wn N.length ps.length b)) := by
  obtain ⟨oc, od, kV, doc, pm, an, cdv, ct, osl, rfl, lk, hcd⟩ := F.ex
  refine ⟨fun vs H Q E h => h.1, fun A outer s H args us vs Q E hr hg env hb r hsp => ?_⟩
  have keepB := fun b o e => (env.bs b o e).1
  have KX := env.mod.kin.keeps keepB
  have noL := env.mod.nolimit.keeps keepB
  refine codeAny_call_function hr.depth (KX _ _ lk) rfl S.co S.gen rfl (PySem.W.codeRec_of KX hcd) (hb _ _ _ _ ?_)
  have kinds : ∀ y ∈ ps.zip us, (defScope st).names.lookup y.1 = some .local ∨ ((defScope st).names.lookup y.1 = some .cell ∧ ((cellsFrom (s.heap.objs.size + 1) (defScope st).names []).lookup y.1).isSome = true) := by
    intro y hy
    obtain ⟨n, v⟩ := y
    exact (S.par n (List.of_mem_zip hy).1).imp id fun q => ⟨q, PySem.W.cellsFrom_some _ _ _ (.inl q)⟩
  refine wpAny_newFunctionEnv_cells S.kind kinds fun ev1 he s1 fresh => ?_
  subst he
  refine ⟨noL.keeps fresh.toInCall.keep, codeAny_func ?_⟩
  obtain ⟨hl, F0, ds, sm, is, hm⟩ := hsp
  have I0 := inv_start (CX := L2.CX P w) (E := E) S hr.hd env hl r fresh
  generalize hX : cxOf (L2.CX P w) P w K mg base N qual (defScope st) f cdv A outer s H E = X at I0
  have fit : SFit X (fun c σ H => E (cref c) none H) cref k G bs cs N (defScope st) := by
    subst hX
    exact { gc := gc, hN := rfl, nd := S.nd, hsc := rfl, calm := rfl, room := hr.deeper _, gd := hg, fn := fun _ => rfl, pass := passes_of rfl,
            tk := (takes_of rfl rfl rfl rfl).imp fun c d σ H q => by obtain ⟨rfl, c, rfl, z⟩ := q; exact z }
  have body := sSs wn b fit ch
  have hK : X.K = K := by subst hX; rfl
  have dl : ds.length = ps.length := is.len.symm.trans hl
  have want : tSs X.K (fun c σ H => E (cref c) none H) G wn b { nx := fun _ H' => Q .non H', rt := Q } (L2.start N vs) H := by
    rw [hK]
    refine ⟨F0, H, F0, _, rel_start sm is rfl, ?_⟩
    unfold evDef at hm
    rw [if_neg (fun z => z dl)] at hm
    cases ho : evSs G wn b (ds.map Slot.sh ++ List.replicate (N.length - ds.length) Slot.no) with
    | nx e =>
      rw [ho] at hm
      exact fun σ F' H' q => hm .non F' H' q.ext (show Is K F' .none .non by simp only [Is])
    | brk e => rw [ho] at hm; exact (show False from hm).elim
    | cnt e => rw [ho] at hm; exact (show False from hm).elim
    | exc c e =>
      rw [ho] at hm
      exact fun σ F' H' q => hm F' H' q.ext
    | stuck => rw [ho] at hm; exact hm
    | ret t d =>
      rw [ho] at hm
      cases t with
      | sh => exact fun v F' H' e q => hm v F' H' e q
      | ow => exact fun v F' H' e q => hm v F' H' e q
      | pk => exact (show False from hm).elim
      | rt => exact (show False from hm).elim
  have run := body.run [] s1 (L2.start N vs) H _ I0 want
  subst hX
  refine wpAny_mono run (fun fl s' hs => ?_) fun e s' hs => hs
  match fl, hs with
  | .ret u, hs =>
    obtain ⟨v, σ', H', J, rv, q⟩ := hs
    exact ⟨v, H', J.os, J.bare, J.base, J.hok, rv, q⟩
  | .next, hs =>
    obtain ⟨σ', H', J, q⟩ := hs
    exact ⟨V.non, H', J.os, J.bare, J.base, J.hok, rfl, q⟩
  | .brk, hs =>
    obtain ⟨_, _, _, q⟩ := hs
    exact q.elim
  | .cont, hs =>
    obtain ⟨_, _, _, q⟩ := hs
    exact q.elim
end

/-- a def that calls itself, at most so deep -/
def gRec (G : Gam) (x : Str) (W sz k : Nat) (b : List Sx) : Nat → List D → R (Bool × D)
  | 0 => fun _ => .stuck
  | n + 1 => evDef (G.add x (gRec G x W sz k b n)) W sz k b
theorem gRec_len {G : Gam} {x : Str} {W sz k : Nat} {b : List Sx} : ∀ {n : Nat} (ds : List D), gRec G x W sz k b n ds ≠ .stuck → ds.length = k
  | 0, _, h => absurd rfl h
  | _ + 1, ds, h => evDef_len ds h
theorem rec_ok {P : Program} {w : World} {K : PySem.W.Frag} {mg : Str → Option Value} {base : Heap} {cref : Str → Value} {G : Gam} {bs cs : List Str} {j wn : Nat} {f : Addr} {x qual : Str} {st : Stmt} {fd : FuncData} {N ps : List Str} {b : List Sx}
    (F : L2.Fun K x qual st f fd) (S : FnScope N ps (defScope st)) (gc : GC P w K mg base cref j G bs cs) (ch : chkSs N bs cs (defScope st) b (defBody st) = true) (h1 : mg x = some (.ref f)) (h2 : PySem.W.keepIn K (.ref f) = true) (h3 : Binds K fd ps []) :
    ∀ n : Nat, FnG P w K mg base (j + n) f fd ps (spD K cref ps.length (gRec G x wn N.length ps.length b n))
  | 0 => ⟨fun vs H Q E h => h.1, fun A outer s H args us vs Q E _ _ _ _ _ hsp => by
      obtain ⟨_, _, _, _, _, z⟩ := hsp
      exact z.elim⟩
  | n + 1 => by
    have ih := rec_ok (wn := wn) F S gc ch h1 h2 h3 n
    exact def_ok F S ((gc.mono (Nat.le_add_right j n)).add h1 h2 h3 ih fun ds h => gRec_len ds h) ch
/-! ### the law's end -/
/-- the script stands in the heap, tracked under lock or as an object of the module: nothing else is tracked -/
def ScrH (K : PySem.W.Frag) (H : Hp) (h : Heap) (a : Addr) : Prop := (∀ b u, H b = some u → b = a ∧ K.lookup a = none ∧ ∃ o xs, u = .frz o (.lst xs) ∧ h.get? a = some o)
theorem law_run {P : Program} {w : World} {K : PySem.W.Frag} {mg mb : Str → Option Value} {k : Nat} {fa a : Addr} {fd : FuncData} {x : Str} {cref : Str → Value} {g : List D → R (Bool × D)} {s₁ : Shared} {vs : List Value} {ns : List Int}
    (KX : K.In s₁.heap) (hns : s₁.heap.Ns mainGlobals mg) (hb : s₁.heap.Ns builtinsNs mb) (hbb : ∀ x : Str, x ≠ "__name__" → mb x = bootBuiltins x) (hlim : s₁.heap.NoLimit) (hg : s₁.gens = #[])
    (ha : s₁.heap.get? a = some { cls := .type "list", data := .seq vs.toArray }) (hi : IntsAre vs ns) (hl : ns.length ≤ sizeLine) (hr : Room k callerA)
    (F : ∀ base : Heap, K.In base → base.Ns mainGlobals mg → FnG P w K mg base k fa fd [x] (spD K cref 1 g)) (hbind : ∀ (s : Shared) (u : Value), BindsTo s fd ⟨[u], []⟩ [(x, u)])
    (hgv : g [.list (ns.map .int)] = .ok (false, .bool true)) :
    codeAny (model P w) callerA (.call (.ref fa) ⟨[.ref a], []⟩) (fun r s' => r = .ok (.ret (.bool true)) ∧ OldK s₁.heap s'.heap ∧ s'.os = s₁.os ∧ AllBare s'.gens) s₁ := by
  have rv := vals_ints hi
  have go : ∀ H : Hp, ScrH K H s₁.heap a → LL K H a (ns.map V.int) → HOk P w H s₁.heap →
      codeAny (model P w) callerA (.call (.ref fa) ⟨[.ref a], []⟩) (fun r s' => r = .ok (.ret (.bool true)) ∧ OldK s₁.heap s'.heap ∧ s'.os = s₁.os ∧ AllBare s'.gens) s₁ := by
    intro H hS hL hok
    have only : ∀ {b : Addr}, b ≠ a → H b = none := fun {b} n => by
      cases q : H b with
      | none => rfl
      | some u => exact absurd (hS b u q).1 n
    have under : ∀ {b : Addr} {m : Str → Option Value}, s₁.heap.Ns b m → (hidT s₁.heap H).Ns b m := fun {b m} n => by
      obtain ⟨o, es, ep, e, d, r⟩ := n
      refine ⟨o, es, ep, hidT_get e (only fun z => ?_), d, r⟩
      rw [z, ha] at e
      cases e
      cases d
    have KB : K.In (hidT s₁.heap H) := fun b o e => hidT_get (KX b o e) (by
      cases q : H b with
      | none => rfl
      | some u =>
        obtain ⟨z, n, _⟩ := hS b u q
        rw [z, n] at e
        cases e)
    obtain ⟨mc, l1, l2⟩ := hlim
    have start : Env0 P w K mg (hidT s₁.heap H) callerA [] s₁ H :=
      ⟨rfl, ⟨KB, under hns, ⟨mb, under hb, hbb⟩, ⟨mc, under l1, l2⟩⟩, fun b o e => of_hidT e, Nat.le_of_eq (hidT_size _ _), trivial, fun b hb => absurd (show b ∈ ([] : List Addr) from hb) List.not_mem_nil, hok, .of_eq hg⟩
    have want : spD K cref 1 g [.ref a] H (fun v _ => v = .bl true) fun _ _ _ => False := by
      refine ⟨rfl, H, [.list (ns.map .int)], Same.refl _, .cons ?_ .nil, ?_⟩
      · simp only [Is]
        exact ⟨a, _, rfl, hL, ints_isL ns⟩
      · rw [hgv]
        exact fun v F' H' _ q => is_bool (K := K) (H := F') q
    refine codeAny_mono ((F _ KB (under hns)).run callerA [] s₁ H ⟨[.ref a], []⟩ [.ref a] [.ref a] _ _ hr rfl start (hbind s₁ (.ref a)) (.cons rfl .nil) want) fun res s' q => ?_
    match res, q with
    | .error e, q =>
      obtain ⟨_, _, _, _, _, _, _, _, _, _, _, _, z⟩ := q
      exact z.elim
    | .ok .next, q => exact False.elim q
    | .ok .brk, q => exact False.elim q
    | .ok .cont, q => exact False.elim q
    | .ok (.ret u), q =>
      obtain ⟨v, H', os, bare, un, hok', r', hv⟩ := q
      have hv' : v = .bl true := hv
      subst hv'
      obtain rfl : u = Value.bool true := r'
      refine ⟨rfl, OldK.of_keep fun b o e => ?_, os, bare⟩
      cases q : H b with
      | none => exact un.keep b o e q (fun z => absurd (show b ∈ ([] : List Addr) from z) List.not_mem_nil) (by simp)
      | some u =>
        obtain ⟨z1, z2, ob, xs, rfl, z4⟩ := hS b u q
        subst z1
        rw [e] at z4
        cases z4
        exact (hok' b _ (un.frzs b o _ q)).1
  cases hk : K.lookup a with
  | some o =>
    have e := KX a o hk
    rw [ha] at e
    cases e
    exact go (fun _ => none) (fun b u z => by cases z) (.inr ⟨vs, 0, hk, rv, by rw [hi.length]; exact hl⟩) fun b u z => by cases (show (none : Option HO) = some u from z)
  | none =>
    refine go (upd (fun _ => none) a (.frz { cls := .type "list", data := .seq vs.toArray } (.lst (ns.map V.int)))) (fun b u z => ?_) (.inl (.inr ⟨_, upd_same⟩)) fun b u z => ?_
    · by_cases c : b = a
      · subst c
        rw [upd_same] at z
        cases z
        exact ⟨rfl, hk, _, _, rfl, ha⟩
      · rw [upd_ne c] at z
        cases z
    · by_cases c : b = a
      · subst c
        rw [upd_same] at z
        cases z
        exact ⟨ha, by rw [List.length_map]; exact hl, vs, _, rv, ha⟩
      · rw [upd_ne c] at z
        cases z
theorem walk_g {l : PySem.W.OpenLaw} {n k : Nat} {q : Program} {loose : List Str} {XP : (Str → Option Value) → Heap → Prop} {YP : World → Heap → Prop} {d : DefRec} {K : Params → PySem.W.Frag} {x : Str} {g : List D → R (Bool × D)}
    (hn : l.most = some n) (hn2 : n ≤ sizeLine) (hdf : d.params.defaults = []) (hr : Room k callerA)
    (hY : ∀ (w : World) (h : Heap), YP w h → (K w.params).In h)
    (hgv : ∀ ns : List Int, ns.length ≤ n → g [.list (ns.map .int)] = .ok (false, .bool true))
    (F : ∀ (w : World) (mg : Str → Option Value) (fa : Addr) (h : Heap), (K w.params).In h → h.Ns mainGlobals mg → mg d.name = some (.ref fa) →
      ∃ (fd : FuncData) (cref : Str → Value), (∀ (s : Shared) (u : Value), BindsTo s fd ⟨[u], []⟩ [(x, u)]) ∧ ∀ base : Heap, (K w.params).In base → base.Ns mainGlobals mg → FnG l.prog w (K w.params) mg base k fa fd [x] (spD (K w.params) cref 1 g)) :
    PySem.W.WalkO q loose XP YP l.row.toRowW d [] (fun f vs => PySem.call f vs) := by
  refine Att.attach_call hn hdf fun w s₀ s₁ mg mb fa o pm cd doc a vs ns G Y ho hd hcd hmg hobj hints hlen hgens => ?_
  obtain ⟨fd, cref, hb, hF⟩ := F w mg fa _ (hY w _ Y) G.T.g hmg
  exact law_run (hY w _ Y) G.T.g G.T.b G.T.builtins G.T.nolimit hgens hobj hints (Nat.le_trans hlen hn2) hr hF hb (hgv ns hlen)
end PV

/-! PvSim: the reckoning by rewriting. -/
namespace PV
open PySem L2
abbrev il (xs : List Int) : D := .list (xs.map .int)
section
variable {α β : Type} {a : α} {f : α → R β} {env : Env} {k : α → Out} {c : Str} {t s : Tag} {d e : D} {i j : Int} {b : Bool} {xs ys : List D} {z : Str}
@[simp] theorem b_ok : (R.ok a).bind f = f a := rfl
@[simp] theorem b_exc : (R.exc c : R α).bind f = .exc c := rfl
@[simp] theorem o_ok : Out.of env (.ok a) k = k a := rfl
@[simp] theorem o_exc : Out.of env (.exc c : R α) k = .exc c env := rfl
@[simp] theorem t_nx {g : Env → Out} {e : Env} : (Out.nx e).then g = g e := rfl
@[simp] theorem t_ret {g : Env → Out} : (Out.ret t d).then g = .ret t d := rfl
@[simp] theorem t_cnt {g : Env → Out} {e : Env} : (Out.cnt e).then g = .cnt e := rfl
@[simp] theorem t_brk {g : Env → Out} {e : Env} : (Out.brk e).then g = .brk e := rfl
@[simp] theorem t_exc {g : Env → Out} {e : Env} : (Out.exc c e).then g = .exc c e := rfl
@[simp] theorem nt_sh : nt .sh d = .sh := by cases d <;> rfl
@[simp] theorem nt_int : nt t (.int i) = .sh := rfl
@[simp] theorem nt_bool : nt t (.bool b) = .sh := rfl
@[simp] theorem nt_str : nt t (.str z) = .sh := rfl
@[simp] theorem nt_none : nt t .none = .sh := rfl
@[simp] theorem nt_list : nt t (.list xs) = t := rfl
@[simp] theorem nt_tuple : nt t (.tuple xs) = t := rfl
@[simp] theorem put_sh {n : Nat} : put env n (.sh, d) = .nx (env.set n (.sh d)) := by cases d <;> rfl
@[simp] theorem put_ow {n : Nat} : put env n (.ow, .list xs) = .nx (env.set n (.ow (.list xs))) := rfl
@[simp] theorem put_int {n : Nat} : put env n (t, .int i) = .nx (env.set n (.sh (.int i))) := rfl
@[simp] theorem put_bool {n : Nat} : put env n (t, .bool b) = .nx (env.set n (.sh (.bool b))) := rfl
@[simp] theorem kid_sh : Tag.kid .sh = .sh := rfl
@[simp] theorem kid_rt : Tag.kid .rt = .sh := rfl
@[simp] theorem kid_ow : Tag.kid .ow = .sh := rfl
@[simp] theorem kid_pk : Tag.kid .pk = .pk := rfl
@[simp] theorem dm_sh : Tag.dm .sh = .sh := rfl
@[simp] theorem dm_ow : Tag.dm .ow = .sh := rfl
@[simp] theorem dm_rt : Tag.dm .rt = .pk := rfl
@[simp] theorem dm_pk : Tag.dm .pk = .pk := rfl
@[simp] theorem root_sh : Tag.root .sh = .ow := rfl
@[simp] theorem root_pk : Tag.root .pk = .pk := rfl
@[simp] theorem jn_sh : Tag.jn .sh .sh = .sh := rfl
@[simp] theorem jn_pk : Tag.jn .pk t = .pk := by cases t <;> rfl
@[simp] theorem jn_pk2 : Tag.jn t .pk = .pk := by cases t <;> rfl
@[simp] theorem jnl_nil : jnL [] = .sh := rfl
@[simp] theorem jnl_cons {x : TD} {l : List TD} : jnL (x :: l) = x.1.dm.jn (jnL l) := rfl
@[simp] theorem zt_sh : zt .sh .sh = .sh := rfl
@[simp] theorem zt_pk : zt .pk t = .pk := rfl
@[simp] theorem zt_rt1 : zt .rt .sh = .rt := rfl
@[simp] theorem zt_rt2 : zt .sh .rt = .rt := rfl
@[simp] theorem zt_rt3 : zt .rt .rt = .rt := rfl
@[simp] theorem truth_bool : truth (.bool b) = .ok b := rfl
@[simp] theorem truth_int : truth (.int i) = .ok (i != 0) := rfl
@[simp] theorem truth_list : truth (.list xs) = .ok (!xs.isEmpty) := rfl
@[simp] theorem truth_tuple : truth (.tuple xs) = .ok (!xs.isEmpty) := rfl
@[simp] theorem truth_none : truth .none = .ok false := rfl
@[simp] theorem isBool_bool : isBool (.bool b) = .ok b := rfl
@[simp] theorem isInt_int : isInt (.int i) = .ok i := rfl
@[simp] theorem add_int : evBin .add (s, .int i) (t, .int j) = .ok (.sh, .int (i + j)) := rfl
@[simp] theorem sub_int : evBin .sub (s, .int i) (t, .int j) = .ok (.sh, .int (i - j)) := rfl
@[simp] theorem neg_int : evNeg (.int i) = .ok (.sh, .int (-i)) := rfl
@[simp] theorem g_true {r' : R TD} : PV.guard true r' = r' := rfl
theorem mul_int (h : mulOk i j = true) : evBin .mul (s, .int i) (t, .int j) = .ok (.sh, .int (i * j)) := by
  show PV.guard (mulOk i j) _ = _
  rw [h]
  rfl
theorem mod_int (h : 0 < j) : evBin .mod (s, .int i) (t, .int j) = .ok (.sh, .int (i % j)) := by
  show PV.guard (decide (0 < j)) _ = _
  rw [decide_eq_true h]
  rfl
theorem fdv_int (h : 0 < j) (h2 : j < 1073741824) : evBin .fdv (s, .int i) (t, .int j) = .ok (.sh, .int (i / j)) := by
  show PV.guard (decide (0 < j) && decide (j < 1073741824)) _ = _
  rw [decide_eq_true h, decide_eq_true h2]
  rfl
theorem pow_int (h : powOk i j = true) : evBin .pow (s, .int i) (t, .int j) = .ok (.sh, .int (i ^ j.toNat)) := by
  show PV.guard (powOk i j) _ = _
  rw [h]
  rfl
theorem cat_list (h : xs.length + ys.length ≤ lim) : evBin .add (s, .list xs) (t, .list ys) = .ok ((s.kid.jn t.kid).root, .list (xs ++ ys)) := by
  show PV.guard (decide _) _ = _
  rw [decide_eq_true h]
  rfl
@[simp] theorem lt_int : evCmp .lt (.int i) (.int j) = .ok (decide (i < j)) := rfl
@[simp] theorem le_int : evCmp .le (.int i) (.int j) = .ok (decide (i ≤ j)) := rfl
@[simp] theorem gt_int : evCmp .gt (.int i) (.int j) = .ok (decide (j < i)) := rfl
@[simp] theorem ge_int : evCmp .ge (.int i) (.int j) = .ok (decide (j ≤ i)) := rfl
@[simp] theorem eq_int : evCmp .eq (.int i) (.int j) = .ok (decide (i = j)) := by
  show gB (both (.int i) (.int j)) (PyData.eqv (.int i) (.int j)) = _
  have : PyData.eqv (.int i) (.int j) = decide (i = j) := by
    unfold PyData.eqv
    first | rfl | (by_cases h : i = j <;> simp [h, PyData.num])
  rw [this]
  rfl
@[simp] theorem ne_int : evCmp .ne (.int i) (.int j) = .ok (decide (i ≠ j)) := by
  have h : evCmp .eq (.int i) (.int j) = _ := eq_int
  have h2 : PyData.eqv (.int i) (.int j) = decide (i = j) := (gB_ok (show gB (both (.int i) (.int j)) (PyData.eqv (.int i) (.int j)) = _ from h)).2
  show gB (both (.int i) (.int j)) (!PyData.eqv (.int i) (.int j)) = _
  rw [h2]
  by_cases c : i = j <;> simp [c] <;> rfl
@[simp] theorem is_none' : evCmp .is d .none = .ok (isNone d) := by cases d <;> rfl
@[simp] theorem isn_none : evCmp .isn d .none = .ok (!isNone d) := by cases d <;> rfl
@[simp] theorem ixt0 : evIx (t, .tuple (d :: xs)) (.int 0) = .ok (nt t.kid d, d) := by
  simp [evIx, L2.atI, L2.ixN]
@[simp] theorem ixt1 {d1 : D} : evIx (t, .tuple (d1 :: d :: xs)) (.int 1) = .ok (nt t.kid d, d) := by
  have : (1 : Int) < (xs.length : Int) + 1 + 1 := by omega
  simp [evIx, L2.atI, L2.ixN, this]
@[simp] theorem ixt2 {d1 d2 : D} : evIx (t, .tuple (d1 :: d2 :: d :: xs)) (.int 2) = .ok (nt t.kid d, d) := by
  have : (2 : Int) < (xs.length : Int) + 1 + 1 + 1 := by omega
  simp [evIx, L2.atI, L2.ixN, this]
@[simp] theorem ixt3 {d1 d2 d3 : D} : evIx (t, .tuple (d1 :: d2 :: d3 :: d :: xs)) (.int 3) = .ok (nt t.kid d, d) := by
  have : (3 : Int) < (xs.length : Int) + 1 + 1 + 1 + 1 := by omega
  simp [evIx, L2.atI, L2.ixN, this]
theorem atI_at {γ : Type} {l : List γ} {i : Int} {n : Nat} {x : γ} (h : i = (n : Int)) (e : l[n]? = some x) : L2.atI l i = some x := by
  subst h
  have hn : n < l.length := (List.getElem?_eq_some_iff.mp e).1
  have h2 : ((n : Nat) : Int) < (l.length : Int) := by omega
  simp [L2.atI, L2.ixN, h2, e]
theorem ixl_at {n : Nat} (h : i = (n : Int)) (e : xs[n]? = some d) : evIx (t, .list xs) (.int i) = .ok (nt t.kid d, d) := by
  show (match L2.atI xs i with | some d => R.ok (nt t.kid d, d) | none => .stuck) = _
  rw [atI_at h e]
theorem placed_at {n : Nat} (h : i = (n : Int)) (e : xs[n]? = some d) : placed xs i = .ok (n, d) := by
  subst h
  have hn : n < xs.length := (List.getElem?_eq_some_iff.mp e).1
  have h2 : ((n : Nat) : Int) < (xs.length : Int) := by omega
  simp [placed, L2.ixN, h2, e]
/-- a list's item, by its place -/
def gi (l : List Int) (n : Nat) : Int := l.getD n 0
theorem gi_some {l : List Int} {n : Nat} (h : n < l.length) : l[n]? = some (gi l n) := by
  unfold gi
  rw [List.getD_eq_getElem?_getD, List.getElem?_eq_getElem h]
  rfl
theorem gi_bd {X : List Int} {n : Nat} {P : Int → Prop} (h : ∀ y ∈ X, P y) (h0 : P 0) : P (gi X n) := by
  unfold gi
  rw [List.getD_eq_getElem?_getD]
  cases q : X[n]? with
  | none => exact h0
  | some v => exact h v (List.mem_of_getElem? q)
theorem set_bd {X : List Int} {j : Nat} {v : Int} {P : Int → Prop} (h : ∀ y ∈ X, P y) (hv : P v) : ∀ y ∈ X.set j v, P y := fun y hy => by
  rcases List.mem_or_eq_of_mem_set hy with z | z
  · exact h y z
  · rw [z]; exact hv
/-- in a list of ints -/
theorem ixi {ns : List Int} (h : 0 ≤ i) (h2 : i < ns.length) : evIx (t, il ns) (.int i) = .ok (.sh, .int (gi ns i.toNat)) := by
  have hl : i.toNat < ns.length := by omega
  rw [ixl_at (n := i.toNat) (d := .int (gi ns i.toNat)) (by omega) (by rw [List.getElem?_map, gi_some hl]; rfl)]
  rfl
theorem placed_i {ns : List Int} (h : 0 ≤ i) (h2 : i < ns.length) : placed (ns.map .int) i = .ok (i.toNat, .int (gi ns i.toNat)) := by
  have hl : i.toNat < ns.length := by omega
  exact placed_at (by omega) (by rw [List.getElem?_map, gi_some hl]; rfl)
@[simp] theorem len_list : evBi .len [(t, .list xs)] = .ok (.sh, .int xs.length) := rfl
@[simp] theorem len_tuple : evBi .len [(t, .tuple xs)] = .ok (.sh, .int xs.length) := rfl
@[simp] theorem abs_int : evBi .abs [(t, .int i)] = .ok (.sh, .int (if i < 0 then -i else i)) := rfl
@[simp] theorem min_int : evBi .min [(t, .int i), (s, .int j)] = .ok (.sh, .int (if j < i then j else i)) := rfl
@[simp] theorem max_int : evBi .max [(t, .int i), (s, .int j)] = .ok (.sh, .int (if j > i then j else i)) := rfl
@[simp] theorem int_int : evBi .int [(t, .int i)] = .ok (.sh, .int i) := rfl
@[simp] theorem int_bool : evBi .int [(t, .bool b)] = .ok (.sh, .int (if b then 1 else 0)) := rfl
@[simp] theorem list_list : evBi .list [(t, .list xs)] = .ok (t.kid.root, .list xs) := rfl
@[simp] theorem list_tuple : evBi .list [(t, .tuple xs)] = .ok (t.kid.root, .list xs) := rfl
@[simp] theorem tuple_list : evBi .tuple [(t, .list xs)] = .ok (t.kid, .tuple xs) := rfl
theorem boolL_of {γ : Type} (p : γ → Bool) : ∀ l : List γ, boolL (l.map fun x => PyData.bool (p x)) = some (l.map p)
  | [] => rfl
  | x :: r => by
    show (boolL (r.map fun x => PyData.bool (p x))).map (p x :: ·) = _
    rw [boolL_of p r]
    rfl
theorem intL_of : ∀ l : List Int, intL (l.map PyData.int) = some l
  | [] => rfl
  | x :: r => by
    show (intL (r.map PyData.int)).map (x :: ·) = _
    rw [intL_of r]
    rfl
theorem all_map {γ : Type} (p : γ → Bool) (l : List γ) : evBi .all [(t, .list (l.map fun x => PyData.bool (p x)))] = .ok (.sh, .bool (l.all p)) := by
  show (match boolL (l.map fun x => PyData.bool (p x)) with | some bs => ok1 (.bool (bs.all id)) | none => .stuck) = _
  rw [boolL_of]
  simp [ok1, List.all_map]
theorem any_map {γ : Type} (p : γ → Bool) (l : List γ) : evBi .any [(t, .list (l.map fun x => PyData.bool (p x)))] = .ok (.sh, .bool (l.any p)) := by
  show (match boolL (l.map fun x => PyData.bool (p x)) with | some bs => ok1 (.bool (bs.any id)) | none => .stuck) = _
  rw [boolL_of]
  simp [ok1, List.any_map]
theorem sum_map (l : List Int) : evBi .sum [(t, il l)] = .ok (.sh, .int l.sum) := by
  show (match intL (l.map PyData.int) with | some ns => ok1 (.int ns.sum) | none => .stuck) = _
  rw [intL_of]
  rfl
@[simp] theorem isT_ib : isT .int (.bool b) = some true := rfl
@[simp] theorem isT_ii : isT .int (.int i) = some true := rfl
@[simp] theorem isT_bb : isT .bool (.bool b) = some true := rfl
@[simp] theorem isT_bi : isT .bool (.int i) = some false := rfl
@[simp] theorem shOnly_sh : shOnly (.sh, d) = .ok d := by cases d <;> rfl
@[simp] theorem shOnly_ow : shOnly (.ow, d) = .ok d := by cases d <;> rfl
@[simp] theorem shOnly_int : shOnly (t, .int i) = .ok (.int i) := rfl
@[simp] theorem shOnly_bool : shOnly (t, .bool b) = .ok (.bool b) := rfl
@[simp] theorem bt_nm {n : Nat} : bindT (.nm n) (.sh, d) env = some (env.set n (.sh d)) := rfl
@[simp] theorem bt_two {n m : Nat} : bindT (.tp [n, m]) (.sh, .tuple [d, e]) env = some ((env.set n (.sh d)).set m (.sh e)) := rfl
@[simp] theorem bt_three {n m l : Nat} {g : D} : bindT (.tp [n, m, l]) (.sh, .tuple [d, e, g]) env = some (((env.set n (.sh d)).set m (.sh e)).set l (.sh g)) := rfl
@[simp] theorem frz_nil : frz [] env = env := rfl
theorem frz_cons {n : Nat} {l : List Nat} : frz (n :: l) env = match env[n]? with | some (.ow d) => frz l (env.set n (.sh d)) | _ => frz l env := rfl
@[simp] theorem cT_int {o : Bool} : callTag t o (.int i) = .sh := by cases t <;> cases o <;> rfl
@[simp] theorem cT_bool {o : Bool} : callTag t o (.bool b) = .sh := by cases t <;> cases o <;> rfl
@[simp] theorem cT_ow : callTag .sh true (.list xs) = .ow := rfl
@[simp] theorem cT_sh : callTag .sh false d = .sh := by cases d <;> rfl
@[simp] theorem cst_int {n : Int} : constD (.int n) = some (.int n) := rfl
@[simp] theorem cst_bool : constD (.bool b) = some (.bool b) := rfl
@[simp] theorem cst_none : constD .none = some .none := rfl
@[simp] theorem cst_str : constD (.str z) = some (.str z) := rfl
@[simp] theorem nox_ok : nox (.ok a) = .ok a := rfl
theorem cpl_map {γ : Type} {f : D → R (Option D)} (w : γ → D) (h : γ → D) : ∀ l : List γ, (∀ x ∈ l, f (w x) = .ok (some (h x))) → cpl f (l.map w) = .ok (l.map h)
  | [], _ => rfl
  | x :: r, q => by
    rw [List.map_cons]
    unfold cpl
    rw [q x List.mem_cons_self, cpl_map w h r fun y hy => q y (List.mem_cons_of_mem _ hy)]
    rfl
theorem cpl_filter {γ : Type} {f : D → R (Option D)} (w : γ → D) (p : γ → Bool) (h : γ → D) : ∀ l : List γ, (∀ x ∈ l, f (w x) = .ok (if p x then some (h x) else none)) → cpl f (l.map w) = .ok ((l.filter p).map h)
  | [], _ => rfl
  | x :: r, q => by
    rw [List.map_cons]
    unfold cpl
    rw [q x List.mem_cons_self, cpl_filter w p h r fun y hy => q y (List.mem_cons_of_mem _ hy), List.filter_cons]
    cases p x <;> rfl
theorem zipD_map {γ δ : Type} (w : γ → D) (v : δ → D) : ∀ (l : List γ) (m : List δ), zipD (l.map w) (m.map v) = (l.zip m).map fun p => .tuple [w p.1, v p.2]
  | [], _ => by simp [zipD]
  | _ :: _, [] => by simp [zipD]
  | a :: r, b :: s => by
    show PyData.tuple [w a, v b] :: zipD (r.map w) (s.map v) = _
    rw [zipD_map w v r s]
    rfl
/-- a for by an invariant: no turn leaves the def -/
theorem lp_inv {f : D → Env → Out} {P : Nat → Env → Prop} : ∀ {l : List D} {n : Nat} {env : Env}, P n env → (∀ i d e, l[i]? = some d → P (n + i) e → ∃ e', (f d e = .nx e' ∨ f d e = .cnt e') ∧ P (n + i + 1) e') → ∃ e, lp f l env = .nx e ∧ P (n + l.length) e
  | [], n, env, h, _ => ⟨env, rfl, h⟩
  | d :: r, n, env, h, q => by
    obtain ⟨e', h1, h2⟩ := q 0 d env rfl h
    obtain ⟨e, h3, h4⟩ := lp_inv (l := r) (n := n + 1) h2 fun i d2 e2 hi he => by
      have := q (i + 1) d2 e2 (by simpa using hi) (by rw [show n + (i + 1) = n + 1 + i by omega]; exact he)
      rw [show n + (i + 1) + 1 = n + 1 + i + 1 by omega] at this
      exact this
    refine ⟨e, ?_, by rw [List.length_cons, show n + (r.length + 1) = n + 1 + r.length by omega]; exact h4⟩
    unfold lp
    rcases h1 with h1 | h1 <;> rw [h1] <;> exact h3
end
end PV
namespace PV
open PySem L2
/-! ### steps through a body -/
def Ret (Q : Bool → D → Prop) (X : Str → Prop) : Out → Prop
  | .ret .sh d => Q false d
  | .ret .ow d => Q true d
  | .nx _ => Q false .none
  | .exc c _ => X c
  | _ => False
def NoX : Str → Prop := fun _ => False
def Turn (I : Env → Prop) (P : Out → Prop) : Out → Prop
  | .nx e => I e
  | .cnt e => I e
  | .brk e => P (.nx e)
  | .ret t d => P (.ret t d)
  | .exc c e => P (.exc c e)
  | .stuck => False
/-- a statement that goes on -/
def Goes (J : Env → Prop) : Out → Prop
  | .nx e => J e
  | _ => False
/-- what is wanted of an outcome (a wrapper: nothing is reckoned before it is asked) -/
structure Sat (P : Out → Prop) (o : Out) : Prop where
  go : P o
section
variable {G : Gam} {n : Nat} {P : Out → Prop} {env : Env} {r : List Sx} {s : Sx}
@[simp] theorem ok1_ok {d : D} : ok1 d = .ok (.sh, d) := rfl
theorem ss_nil : evSs G n [] env = .nx env := rfl
theorem ss_cons : evSs G n (s :: r) env = (evS G n s env).then fun e => evSs G n r e := rfl
theorem ss_app : ∀ {a : List Sx} {env : Env}, evSs G n (a ++ r) env = (evSs G n a env).then fun e => evSs G n r e
  | [], _ => rfl
  | x :: a, env => by
    rw [List.cons_append, ss_cons, ss_cons]
    cases evS G n x env <;> first | rfl | exact ss_app
@[simp] theorem then_ss {a : List Sx} : ((evSs G n a env).then fun e => evSs G n r e) = evSs G n (a ++ r) env := ss_app.symm
theorem def_ret {Q : Bool → D → Prop} {sz k : Nat} {b : List Sx} {ds : List D} (h : ds.length = k) (q' : Sat (Ret Q NoX) (evSs G n b (ds.map Slot.sh ++ List.replicate (sz - ds.length) Slot.no))) : ∃ o d, evDef G n sz k b ds = .ok (o, d) ∧ Q o d := by
  have q := q'.go
  unfold evDef
  rw [if_neg (fun z => z h)]
  cases ho : evSs G n b (ds.map Slot.sh ++ List.replicate (sz - ds.length) Slot.no) with
  | nx e => rw [ho] at q; exact ⟨_, _, rfl, q⟩
  | ret t d =>
    rw [ho] at q
    cases t with
    | sh => exact ⟨_, _, rfl, q⟩
    | ow => exact ⟨_, _, rfl, q⟩
    | pk => exact (show False from q).elim
    | rt => exact (show False from q).elim
  | brk e => rw [ho] at q; exact (show False from q).elim
  | cnt e => rw [ho] at q; exact (show False from q).elim
  | exc c e => rw [ho] at q; exact (show False from q).elim
  | stuck => rw [ho] at q; exact (show False from q).elim
theorem def_is {o : Bool} {d : D} {sz k : Nat} {b : List Sx} {ds : List D} (h : ds.length = k) (q : Sat (Ret (fun o' d' => o' = o ∧ d' = d) NoX) (evSs G n b (ds.map Slot.sh ++ List.replicate (sz - ds.length) Slot.no))) : evDef G n sz k b ds = .ok (o, d) := by
  obtain ⟨o', d', h1, rfl, rfl⟩ := def_ret h q
  exact h1
theorem s_step {J : Env → Prop} (h' : Sat (Goes J) (evS G n s env)) (k : ∀ e, J e → Sat P (evSs G n r e)) : Sat P (evSs G n (s :: r) env) := by
  have h := h'.go
  rw [ss_cons]
  cases ho : evS G n s env with
  | nx e => rw [ho] at h; exact k e h
  | _ => rw [ho] at h; exact (show False from h).elim
theorem lp_turn {f : D → Env → Out} {I : Nat → Env → Prop} : ∀ {l : List D} {m : Nat} {env : Env}, I m env → (∀ i d e, l[i]? = some d → I (m + i) e → Turn (I (m + i + 1)) P (f d e)) → (∀ e, I (m + l.length) e → P (.nx e)) → P (lp f l env)
  | [], m, env, h, _, k => k env h
  | d :: r, m, env, h, q, k => by
    have t := q 0 d env rfl h
    have go : ∀ e, I (m + 1) e → P (lp f r e) := fun e he => lp_turn (l := r) (m := m + 1) he (fun i d2 e2 hi h2 => by
      have := q (i + 1) d2 e2 (by simpa using hi) (by rw [show m + (i + 1) = m + 1 + i by omega]; exact h2)
      rw [show m + (i + 1) + 1 = m + 1 + i + 1 by omega] at this
      exact this) fun e2 h2 => k e2 (by rw [List.length_cons, show m + (r.length + 1) = m + 1 + r.length by omega]; exact h2)
    unfold lp
    cases ho : f d env with
    | nx e => rw [ho] at t; exact go e t
    | cnt e => rw [ho] at t; exact go e t
    | brk e => rw [ho] at t; exact t
    | ret u v => rw [ho] at t; exact t
    | exc c e => rw [ho] at t; exact t
    | stuck => rw [ho] at t; exact (show False from t).elim
theorem wh_turn {c : Env → R Bool} {f : Env → Out} {I : Nat → Env → Prop} : ∀ {n m : Nat} {env : Env}, I m env → m < n → (∀ m e, I m e → (c e = .ok false ∧ P (.nx e)) ∨ (c e = .ok true ∧ Turn (fun e2 => ∃ m2, m2 < m ∧ I m2 e2) P (f e))) → P (wh c f n env)
  | 0, _, _, _, hl, _ => absurd hl (by omega)
  | n + 1, m, env, h, hl, q => by
    unfold wh
    rcases q m env h with ⟨h1, h2⟩ | ⟨h1, t⟩
    · rw [h1]
      exact h2
    · rw [h1]
      show P (match f env with | .nx e => _ | .cnt e => _ | .brk e => _ | .ret t d => _ | .exc c e => _ | .stuck => _)
      have go : ∀ e, (∃ m2, m2 < m ∧ I m2 e) → P (wh c f n e) := fun e ⟨m2, a, b⟩ => wh_turn b (by omega) q
      cases ho : f env with
      | nx e => rw [ho] at t; exact go e t
      | cnt e => rw [ho] at t; exact go e t
      | brk e => rw [ho] at t; exact t
      | ret u v => rw [ho] at t; exact t
      | exc c e => rw [ho] at t; exact t
      | stuck => rw [ho] at t; exact (show False from t).elim
/-- a for, entered -/
theorem s_for {fz : List Nat} {tg : Tg} {src : Src} {b : List Sx} {ds : List D} {t : Tag} {e0 : Env} {I : Nat → Env → Prop} (hf : frz fz env = e0) (h : evSrc G src e0 = .ok (t, ds)) (ht : t.dm = .sh) (h0 : I 0 e0)
    (turn : ∀ i d e, ds[i]? = some d → I i e → ∃ e2, bindT tg (.sh, d) e = some e2 ∧ Sat (Turn (I (i + 1)) (fun o => Sat P (o.then fun e => evSs G n r e))) (evSs G n b e2)) (fin : ∀ e, I ds.length e → Sat P (evSs G n r e)) : Sat P (evSs G n (.lop fz tg src b :: r) env) := by
  rw [ss_cons]
  show Sat P (((Out.of (frz fz env) (evSrc G src (frz fz env)) _)).then _)
  rw [hf, h]
  show Sat P ((match t.dm with | .sh => _ | _ => _ : Out).then _)
  rw [ht]
  refine lp_turn (P := fun o => Sat P (o.then fun e => evSs G n r e)) (I := I) (m := 0) h0 (fun i d e hd he => ?_) (by simpa using fin)
  rw [Nat.zero_add] at he ⊢
  obtain ⟨e2, h1, h2⟩ := turn i d e hd he
  rw [h1]
  exact h2.go
theorem s_while {c : Te} {b : List Sx} {I : Nat → Env → Prop} {m : Nat} (h0 : I m env) (hm : m < n) (turn : ∀ m e, I m e → (evT G c e = .ok false ∧ Sat P (evSs G n r e)) ∨ (evT G c e = .ok true ∧ Sat (Turn (fun e2 => ∃ m2, m2 < m ∧ I m2 e2) (fun o => Sat P (o.then fun e => evSs G n r e))) (evSs G n b e))) :
    Sat P (evSs G n (.whl c b :: r) env) := by
  rw [ss_cons]
  exact wh_turn (P := fun o => Sat P (o.then fun e => evSs G n r e)) (I := I) h0 hm fun m e h => (turn m e h).imp id fun q => ⟨q.1, q.2.go⟩
theorem s_if {c : Te} {a b : List Sx} {t : Bool} (h : evT G c env = .ok t) (h1 : t = true → Sat P (evSs G n (a ++ r) env)) (h2 : t = false → Sat P (evSs G n (b ++ r) env)) : Sat P (evSs G n (.ifs c a b :: r) env) := by
  rw [ss_cons]
  show Sat P ((Out.of env (evT G c env) _).then _)
  rw [h]
  cases t with
  | true => show Sat P ((evSs G n a env).then _); rw [then_ss]; exact h1 rfl
  | false => show Sat P ((evSs G n b env).then _); rw [then_ss]; exact h2 rfl
/-- the same, where what follows is one -/
theorem s_if1 {c : Te} {a b : List Sx} {t : Bool} {J : Env → Prop} (h : evT G c env = .ok t) (h1 : t = true → Sat (Goes J) (evSs G n a env)) (h2 : t = false → Sat (Goes J) (evSs G n b env)) (k : ∀ e, J e → Sat P (evSs G n r e)) : Sat P (evSs G n (.ifs c a b :: r) env) := by
  refine s_step (J := J) ?_ k
  show Sat (Goes J) (Out.of env (evT G c env) _)
  rw [h]
  cases t with
  | true => exact h1 rfl
  | false => exact h2 rfl
@[simp] theorem sat_nil : Sat P (evSs G n [] env) ↔ Sat P (.nx env) := Iff.rfl
@[simp] theorem sat_rs {Q : Bool → D → Prop} {X : Str → Prop} {d : D} : Sat (Ret Q X) (.ret .sh d) ↔ Q false d := ⟨fun h => h.go, fun h => ⟨h⟩⟩
@[simp] theorem sat_ro {Q : Bool → D → Prop} {X : Str → Prop} {d : D} : Sat (Ret Q X) (.ret .ow d) ↔ Q true d := ⟨fun h => h.go, fun h => ⟨h⟩⟩
@[simp] theorem sat_rn {Q : Bool → D → Prop} {X : Str → Prop} {e : Env} : Sat (Ret Q X) (.nx e) ↔ Q false .none := ⟨fun h => h.go, fun h => ⟨h⟩⟩
@[simp] theorem sat_rx {Q : Bool → D → Prop} {X : Str → Prop} {e : Env} {c : Str} : Sat (Ret Q X) (.exc c e) ↔ X c := ⟨fun h => h.go, fun h => ⟨h⟩⟩
@[simp] theorem sat_gn {J : Env → Prop} {e : Env} : Sat (Goes J) (.nx e) ↔ J e := ⟨fun h => h.go, fun h => ⟨h⟩⟩
@[simp] theorem sat_tn {I : Env → Prop} {e : Env} : Sat (Turn I P) (.nx e) ↔ I e := ⟨fun h => h.go, fun h => ⟨h⟩⟩
@[simp] theorem sat_tc {I : Env → Prop} {e : Env} : Sat (Turn I P) (.cnt e) ↔ I e := ⟨fun h => h.go, fun h => ⟨h⟩⟩
@[simp] theorem sat_tb {I : Env → Prop} {e : Env} : Sat (Turn I P) (.brk e) ↔ P (.nx e) := ⟨fun h => h.go, fun h => ⟨h⟩⟩
@[simp] theorem sat_tr {I : Env → Prop} {t : Tag} {d : D} : Sat (Turn I P) (.ret t d) ↔ P (.ret t d) := ⟨fun h => h.go, fun h => ⟨h⟩⟩
@[simp] theorem sat_tx {I : Env → Prop} {c : Str} {e : Env} : Sat (Turn I P) (.exc c e) ↔ P (.exc c e) := ⟨fun h => h.go, fun h => ⟨h⟩⟩
theorem s_asg {fz : List Nat} {i : Nat} {e : Ex} {x : TD} {e0 e1 : Env} (hf : frz fz env = e0) (h : ev G e e0 = .ok x) (hp : put e0 i x = .nx e1) (k : Sat P (evSs G n r e1)) : Sat P (evSs G n (.asg fz i e :: r) env) := by
  rw [ss_cons]
  show Sat P ((Out.of (frz fz env) (ev G e (frz fz env)) _).then _)
  rw [hf, h]
  show Sat P ((put e0 i x).then _)
  rw [hp]
  exact k
theorem two64 : (2 : Int) ^ 64 = 18446744073709551616 := by decide +kernel
theorem mul_l {s t : Tag} {i j : Int} (h1 : -18446744073709551616 < i) (h2 : i < 18446744073709551616) : evBin .mul (s, .int i) (t, .int j) = .ok (.sh, .int (i * j)) := mul_int (by unfold mulOk; rw [two64, decide_eq_true h1, decide_eq_true h2]; simp)
theorem mul_r {s t : Tag} {i j : Int} (h1 : -18446744073709551616 < j) (h2 : j < 18446744073709551616) : evBin .mul (s, .int i) (t, .int j) = .ok (.sh, .int (i * j)) := mul_int (by unfold mulOk; rw [two64, decide_eq_true h1, decide_eq_true h2]; simp)
end
end PV
namespace PV
open PySem L2
section
variable {G : Gam} {env : Env} {n : Nat}
def cprItem (G : Gam) (tg : Tg) (c : Tes) (e : Ex) (env : Env) (t : Tag) (d : D) : R (Option D) := match bindT tg (nt t d, d) env with
  | none => .stuck
  | some env2 => (evTA G c env2).bind fun t => match t with | true => (ev G e env2).bind fun x => (shOnly x).bind fun d => .ok (some d) | false => .ok none
theorem e_filter {γ : Type} {own : List (Str × Nat)} {tg : Tg} {src : Src} {c : Tes} {e : Ex} {t : Tag} {l : List γ} {w h : γ → D} {p : γ → Bool} (hs : evSrc G src env = .ok (t, l.map w)) (hl : l.length ≤ lim)
    (hi : ∀ x ∈ l, cprItem G tg c e (wipeE env (own.map (·.2))) t.kid (w x) = .ok (if p x then some (h x) else none)) : ev G (.cpr own tg src c e) env = .ok (.ow, .list ((l.filter p).map h)) := by
  unfold ev
  rw [hs]
  show (nox (cpl (fun d => cprItem G tg c e (wipeE env (own.map (·.2))) t.kid d) (l.map w))).bind (fun r => PV.guard (decide ((l.map w).length ≤ lim)) (.ok (.ow, .list r))) = _
  rw [cpl_filter w p h l hi, List.length_map, decide_eq_true hl]
  rfl
theorem e_map {γ : Type} {own : List (Str × Nat)} {tg : Tg} {src : Src} {c : Tes} {e : Ex} {t : Tag} {l : List γ} {w h : γ → D} (hs : evSrc G src env = .ok (t, l.map w)) (hl : l.length ≤ lim)
    (hi : ∀ x ∈ l, cprItem G tg c e (wipeE env (own.map (·.2))) t.kid (w x) = .ok (some (h x))) : ev G (.cpr own tg src c e) env = .ok (.ow, .list (l.map h)) := by
  have := e_filter (p := fun _ => true) hs hl (by simpa using hi)
  rwa [List.filter_eq_self.mpr fun _ _ => rfl] at this
@[simp] theorem at_0 {s : Slot} {r : List Slot} : (s :: r)[0]? = some s := rfl
@[simp] theorem at_s {s : Slot} {r : List Slot} {i : Nat} : (s :: r)[i + 1]? = r[i]? := rfl
@[simp] theorem x_var {i : Nat} : ev G (.var i) env = match env[i]? with | some (.sh d) => .ok (.sh, d) | some (.ow d) => .ok (.rt, d) | _ => .stuck := rfl
@[simp] theorem x_cst {c : Const} : ev G (.cst c) env = match constD c with | some d => .ok (.sh, d) | none => .stuck := rfl
@[simp] theorem x_bin {o : Bop} {a b : Ex} : ev G (.bin o a b) env = (ev G a env).bind fun x => (ev G b env).bind fun y => evBin o x y := rfl
@[simp] theorem x_neg {a : Ex} : ev G (.neg a) env = (ev G a env).bind fun x => evNeg x.2 := rfl
@[simp] theorem x_cmp {o : Cop} {a b : Ex} : ev G (.cmp o a b) env = (ev G a env).bind fun x => (ev G b env).bind fun y => (evCmp o x.2 y.2).bind fun r => .ok (.sh, .bool r) := rfl
@[simp] theorem x_chn {o p : Cop} {a b c : Ex} : ev G (.chn o p a b c) env = (ev G a env).bind fun x => (ev G b env).bind fun y => (evCmp o x.2 y.2).bind fun r =>
      match r with
      | true => (ev G c env).bind fun z => (evCmp p y.2 z.2).bind fun r => .ok (.sh, .bool r)
      | false => .ok (.sh, .bool false) := rfl
@[simp] theorem x_lan {es : Exs} : ev G (.lan es) env = evAnd G es env := rfl
@[simp] theorem x_lor {es : Exs} : ev G (.lor es) env = evOr G es env := rfl
@[simp] theorem x_lno {a : Ex} : ev G (.lno a) env = (ev G a env).bind fun x => (isBool x.2).bind fun b => .ok (.sh, .bool (!b)) := rfl
@[simp] theorem x_ife {c : Te} {a b : Ex} : ev G (.ife c a b) env = (evT G c env).bind fun t => match t with | true => ev G a env | false => ev G b env := rfl
@[simp] theorem x_tup {es : Exs} : ev G (.tup es) env = (evs G es env).bind fun l => PV.guard (decide (l.length ≤ lim)) (.ok (jnL l, .tuple (l.map (·.2)))) := rfl
@[simp] theorem x_lst {es : Exs} : ev G (.lst es) env = (evs G es env).bind fun l => PV.guard (decide (l.length ≤ lim)) (.ok ((jnL l).root, .list (l.map (·.2)))) := rfl
@[simp] theorem x_ix {a b : Ex} : ev G (.ix a b) env = (ev G a env).bind fun x => (ev G b env).bind fun y => evIx x y.2 := rfl
@[simp] theorem x_sli {a : Ex} {l h : Pt} : ev G (.sli a l h) env = (ev G a env).bind fun x => (evP G l env).bind fun l => (evP G h env).bind fun h => evSl x l h := rfl
@[simp] theorem x_call {f : Str} {es : Exs} : ev G (.call f es) env = match G f with | none => .stuck | some g => (evs G es env).bind fun l => (g (l.map (·.2))).bind fun r => .ok (callTag (jnL l) r.1 r.2, r.2) := rfl
@[simp] theorem x_bi {b : Bi} {es : Exs} : ev G (.bi b es) env = (evs G es env).bind fun l => evBi b l := rfl
@[simp] theorem x_isi {a : Ex} {t : Ty} : ev G (.isi a t) env = (ev G a env).bind fun x => match isT t x.2 with | some b => .ok (.sh, .bool b) | none => .stuck := rfl
@[simp] theorem x_join {a b : Ex} : ev G (.join a b) env = (ev G a env).bind fun x => (isStr x.2).bind fun s => (ev G b env).bind fun y => evJoin s y.2 := rfl
@[simp] theorem isStr_str {z : Str} : isStr (.str z) = .ok z := rfl
@[simp] theorem x_no : evP G .no env = .ok none := rfl
@[simp] theorem x_at {e : Ex} : evP G (.at e) env = (ev G e env).bind fun x => (isInt x.2).bind fun i => .ok (some i) := rfl
@[simp] theorem x_nil : evs G .nil env = .ok [] := rfl
@[simp] theorem x_cons {e : Ex} {es : Exs} : evs G (.cons e es) env = (ev G e env).bind fun x => (evs G es env).bind fun l => .ok (x :: l) := rfl
@[simp] theorem x_and1 {e : Ex} : evAnd G (.cons e .nil) env = ev G e env := rfl
@[simp] theorem x_and2 {e f : Ex} {es : Exs} : evAnd G (.cons e (.cons f es)) env = (ev G e env).bind fun x => (isBool x.2).bind fun b => match b with | true => evAnd G (.cons f es) env | false => .ok (.sh, .bool false) := rfl
@[simp] theorem x_or1 {e : Ex} : evOr G (.cons e .nil) env = ev G e env := rfl
@[simp] theorem x_or2 {e f : Ex} {es : Exs} : evOr G (.cons e (.cons f es)) env = (ev G e env).bind fun x => (isBool x.2).bind fun b => match b with | false => evOr G (.cons f es) env | true => .ok (.sh, .bool true) := rfl
@[simp] theorem x_val {e : Ex} : evT G (.val e) env = (ev G e env).bind fun x => isBool x.2 := rfl
@[simp] theorem x_tru {e : Ex} : evT G (.tru e) env = (ev G e env).bind fun x => truth x.2 := rfl
@[simp] theorem x_tand {ts : Tes} : evT G (.and ts) env = evTA G ts env := rfl
@[simp] theorem x_tor {ts : Tes} : evT G (.or ts) env = evTO G ts env := rfl
@[simp] theorem x_tnot {a : Te} : evT G (.not a) env = (evT G a env).bind fun t => .ok (!t) := rfl
@[simp] theorem x_ta0 : evTA G .nil env = .ok true := rfl
@[simp] theorem x_ta {a : Te} {ts : Tes} : evTA G (.cons a ts) env = (evT G a env).bind fun t => match t with | true => evTA G ts env | false => .ok false := rfl
@[simp] theorem x_to0 : evTO G .nil env = .ok false := rfl
@[simp] theorem x_to {a : Te} {ts : Tes} : evTO G (.cons a ts) env = (evT G a env).bind fun t => match t with | true => .ok true | false => evTO G ts env := rfl
@[simp] theorem x_slst {e : Ex} : evSrc G (.lst e) env = (ev G e env).bind fun x => match x.2 with | .list ds => .ok (x.1, ds) | _ => .stuck := rfl
@[simp] theorem x_stup {e : Ex} : evSrc G (.tup e) env = (ev G e env).bind fun x => match x.2 with | .tuple ds => .ok (x.1, ds) | _ => .stuck := rfl
@[simp] theorem x_rg1 {a : Ex} : evSrc G (.rg1 a) env = (ev G a env).bind fun x => (isInt x.2).bind fun j => if small j then .ok (.sh, ranged 0 j) else .stuck := rfl
@[simp] theorem x_rg2 {a b : Ex} : evSrc G (.rg2 a b) env = (ev G a env).bind fun x => (ev G b env).bind fun y => (isInt x.2).bind fun i => (isInt y.2).bind fun j => if small i && small j then .ok (.sh, ranged i j) else .stuck := rfl
@[simp] theorem x_enu {e : Ex} : evSrc G (.enu e) env = (ev G e env).bind fun x => match x.2 with | .list ds => .ok (x.1, enumD 0 ds) | _ => .stuck := rfl
@[simp] theorem x_zip {a b : Ex} : evSrc G (.zip a b) env = (ev G a env).bind fun x => (ev G b env).bind fun y => match x.2, y.2 with | .list ds, .list es => .ok (zt x.1 y.1, zipD ds es) | _, _ => .stuck := rfl
@[simp] theorem x_rev {e : Ex} : evSrc G (.rev e) env = (ev G e env).bind fun x => match x.2 with | .list ds => .ok (x.1, ds.reverse) | _ => .stuck := rfl
@[simp] theorem y_asg {fz : List Nat} {i : Nat} {e : Ex} : evS G n (.asg fz i e) env = Out.of (frz fz env) (ev G e (frz fz env)) fun x => put (frz fz env) i x := rfl
@[simp] theorem y_ret {fz : List Nat} {e : Ex} : evS G n (.ret fz e) env = Out.of (frz fz env) (ev G e (frz fz env)) fun x => match nt x.1 x.2 with | .sh => .ret .sh x.2 | .ow => .ret .ow x.2 | _ => .stuck := rfl
@[simp] theorem y_rtv {i : Nat} : evS G n (.rtv i) env = match env[i]? with | some (.ow d) => .ret .ow d | some (.sh d) => .ret .sh d | _ => .stuck := rfl
@[simp] theorem y_aug {i : Nat} {o : Bop} {e : Ex} : evS G n (.aug i o e) env = Out.of env (shD env i) fun a => Out.of env (ev G e env) fun x => Out.of env (augB o a x.2) fun r => .nx (env.set i (.sh r)) := rfl
@[simp] theorem y_app {fz : List Nat} {i : Nat} {e : Ex} : evS G n (.app fz i e) env = Out.of (frz fz env) (ownL (frz fz env) i) fun ds => Out.of (frz fz env) (ev G e (frz fz env)) fun y => Out.of (frz fz env) (shOnly y) fun r =>
      if ds.length < lim then .nx ((frz fz env).set i (.ow (.list (ds ++ [r])))) else .stuck := rfl
@[simp] theorem y_setX {fz : List Nat} {i : Nat} {x e : Ex} : evS G n (.setX fz i x e) env = Out.of (frz fz env) (ev G e (frz fz env)) fun y => Out.of (frz fz env) (shOnly y) fun r => Out.of (frz fz env) (ownL (frz fz env) i) fun ds =>
      Out.of (frz fz env) (ev G x (frz fz env)) fun k => Out.of (frz fz env) (isInt k.2) fun k => Out.of (frz fz env) (placed ds k) fun p => .nx ((frz fz env).set i (.ow (.list (ds.set p.1 r)))) := rfl
@[simp] theorem y_augX {i : Nat} {o : Bop} {x e : Ex} : evS G n (.augX i o x e) env = Out.of env (ownL env i) fun ds => Out.of env (ev G x env) fun k => Out.of env (isInt k.2) fun k => Out.of env (placed ds k) fun p =>
      Out.of env (ev G e env) fun y => Out.of env (augB o p.2 y.2) fun r => .nx (env.set i (.ow (.list (ds.set p.1 r)))) := rfl
@[simp] theorem y_asgT {fz is : List Nat} {e : Ex} : evS G n (.asgT fz is e) env = Out.of (frz fz env) (ev G e (frz fz env)) fun x => match bindT (.tp is) ((nt x.1 x.2).dm, x.2) (frz fz env) with | some e2 => .nx e2 | none => .stuck := rfl
@[simp] theorem y_exp {e : Ex} : evS G n (.exp e) env = Out.of env (ev G e env) fun _ => .nx env := rfl
@[simp] theorem y_rtn : evS G n .rtn env = .ret .sh .none := rfl
@[simp] theorem y_brk : evS G n .brk env = .brk env := rfl
@[simp] theorem y_cnt : evS G n .cnt env = .cnt env := rfl
@[simp] theorem y_pas : evS G n .pas env = .nx env := rfl
@[simp] theorem y_rai {c : Str} : evS G n (.rai c) env = .exc c env := rfl
@[simp] theorem ownL_nil {ds : List D} {r : List Slot} : ownL (.ow (.list ds) :: r) 0 = .ok ds := rfl
@[simp] theorem ownL_cons {s : Slot} {r : List Slot} {i : Nat} : ownL (s :: r) (i + 1) = ownL r i := by simp [ownL]
@[simp] theorem shD_nil {d : D} {r : List Slot} : shD (.sh d :: r) 0 = .ok d := rfl
@[simp] theorem shD_cons {s : Slot} {r : List Slot} {i : Nat} : shD (s :: r) (i + 1) = shD r i := by simp [shD]
@[simp] theorem aug_add {i j : Int} : augB .add (.int i) (.int j) = .ok (.int (i + j)) := rfl
@[simp] theorem aug_sub {i j : Int} : augB .sub (.int i) (.int j) = .ok (.int (i - j)) := rfl
@[simp] theorem small_nat {k : Int} (h1 : -4000000000000000000 ≤ k) (h2 : k ≤ 4000000000000000000) : small k = true := by
  unfold small
  rw [decide_eq_true (by omega), decide_eq_true (by omega)]
  rfl
/-- over a range -/
theorem e_rng {own : List (Str × Nat)} {tg : Tg} {c : Tes} {e a : Ex} {j : Int} {u : Tag} {h : Nat → D} (hs : ev G a env = .ok (u, .int j)) (h0 : -4000000000000000000 ≤ j) (hl : j ≤ 16000000)
    (hi : ∀ x : Nat, (x : Int) < j → cprItem G tg c e (wipeE env (own.map (·.2))) .sh (.int x) = .ok (some (h x))) : ev G (.cpr own tg (.rg1 a) c e) env = .ok (.ow, .list ((List.range j.toNat).map h)) := by
  refine e_map (t := .sh) (w := fun x : Nat => .int x) ?_ (by rw [List.length_range]; show j.toNat ≤ 16000000; omega) fun x hx => hi x (by have := List.mem_range.mp hx; omega)
  rw [x_rg1, hs]
  simp [small_nat h0 (by omega), ranged]
theorem il_snoc {xs : List Int} {y : Int} : PyData.list (xs.map .int ++ [.int y]) = il (xs ++ [y]) := by simp [il]
theorem il_set {xs : List Int} {j : Nat} {y : Int} : PyData.list ((xs.map .int).set j (.int y)) = il (xs.set j y) := by
  simp [il, List.map_set]
theorem il_rng {n : Nat} {f : Nat → Int} : PyData.list ((List.range n).map fun x => .int (f x)) = il ((List.range n).map f) := by simp [il]
theorem abs_rng (n : Nat) (f : Nat → Int) (P : Int → Prop) (h : ∀ x, P (f x)) : ∃ X : List Int, (List.range n).map f = X ∧ X.length = n ∧ ∀ y ∈ X, P y :=
  ⟨_, rfl, by simp, fun y hy => by obtain ⟨x, _, rfl⟩ := List.mem_map.mp hy; exact h x⟩
@[simp] theorem lim0 : (0 ≤ lim) = True := by simp [lim]
@[simp] theorem lim1 : (1 ≤ lim) = True := by simp [lim]
@[simp] theorem lim2 : (2 ≤ lim) = True := by simp [lim]
@[simp] theorem lim3 : (3 ≤ lim) = True := by simp [lim]
@[simp] theorem lim4 : (4 ≤ lim) = True := by simp [lim]
@[simp] theorem lim5 : (5 ≤ lim) = True := by simp [lim]
@[simp] theorem lim6 : (6 ≤ lim) = True := by simp [lim]
@[simp] theorem lim7 : (7 ≤ lim) = True := by simp [lim]
@[simp] theorem le_lim {n : Nat} (h : n ≤ 16000000) : (n ≤ lim) = True := eq_true h
@[simp] theorem add_self {x : Str} {g : List D → R (Bool × D)} : G.add x g x = some g := if_pos rfl
theorem add_ne {x y : Str} {g : List D → R (Bool × D)} (h : y ≠ x) : G.add x g y = G y := if_neg h
@[simp] theorem x_dnew : ev G .dnew env = .ok (.ow, .dict []) := rfl
@[simp] theorem x_dix {a b : Ex} : ev G (.dix a b) env = (ev G a env).bind fun x => (ev G b env).bind fun y => evDix x y.2 := rfl
@[simp] theorem x_dcpy {a : Ex} : ev G (.dcpy a) env = (ev G a env).bind fun x => evDcp x := rfl
@[simp] theorem dcp_ok {t : Tag} {kvs : List (D × D)} : evDcp (t, .dict kvs) = .ok (t.kid.root, .dict kvs) := rfl
@[simp] theorem put_owd {i : Nat} {kvs : List (D × D)} : put env i (.ow, .dict kvs) = .nx (env.set i (.ow (.dict kvs))) := rfl
@[simp] theorem nt_dict {t : Tag} {kvs : List (D × D)} : nt t (.dict kvs) = t := rfl
@[simp] theorem y_setD {fz : List Nat} {i : Nat} {x e : Ex} : evS G n (.setD fz i x e) env = Out.of (frz fz env) (ev G e (frz fz env)) fun y => Out.of (frz fz env) (shOnly y) fun r => Out.of (frz fz env) (ownD (frz fz env) i) fun ds =>
      Out.of (frz fz env) (ev G x (frz fz env)) fun k => match dkey k.2 with
        | some kk => if ds.length < lim then .nx ((frz fz env).set i (.ow (.dict (dPutK ds kk r)))) else .stuck
        | none => .stuck := rfl
@[simp] theorem ownD_nil {ds : List (D × D)} {r : List Slot} : ownD (.ow (.dict ds) :: r) 0 = .ok ds := rfl
@[simp] theorem ownD_cons {s : Slot} {r : List Slot} {i : Nat} : ownD (s :: r) (i + 1) = ownD r i := by simp [ownD]
@[simp] theorem dkey_str {z : Str} : dkey (.str z) = some (Sum.inr z) := rfl
end
end PV

/-! PvRep: how long a repr is, of data without texts. -/
namespace PV
open PySem L2
mutual
def rep : D → Bool
  | .none => true
  | .bool _ => true
  | .int i => decide (i.natAbs.log2 < 1920)
  | .list xs => repAll xs
  | .tuple xs => repAll xs
  | _ => false
def repAll : List D → Bool
  | [] => true
  | x :: r => rep x && repAll r
end
mutual
def bnd : D → Nat
  | .list xs => bndAll xs + 2
  | .tuple xs => bndAll xs + 3
  | _ => 1921
def bndAll : List D → Nat
  | [] => 0
  | x :: r => bnd x + 2 + bndAll r
end
theorem textFrom_le : ∀ (ts : List Str) (k : Nat) (acc : Str), (textFrom k acc ts).length ≤ acc.length + piled ts
  | [], k, acc => Nat.le_add_right _ _
  | t :: r, k, acc => by
    have ih := textFrom_le r (k + 1) (acc ++ (if k > 0 then ", " else "" : String) ++ t)
    have e : (acc ++ (if k > 0 then ", " else "" : String) ++ t).length ≤ acc.length + 2 + t.length := by
      rw [strLen_append, strLen_append]
      split
      · exact Nat.le_of_eq rfl
      · have : ((("" : String) : Str)).length = 0 := rfl
        omega
    rw [piled_cons]
    show (textFrom (k + 1) _ r).length ≤ _
    omega
theorem listText_le (ts : List Str) : (listText ts).length ≤ piled ts + 2 := by
  have h := textFrom_le ts 0 "["
  unfold listText
  rw [strLen_append]
  have e1 : (("]" : String) : Str).length = 1 := rfl
  have e2 : (("[" : String) : Str).length = 1 := rfl
  omega
theorem tupleText_le (ts : List Str) : (tupleText ts).length ≤ piled ts + 3 := by
  unfold tupleText
  rw [strLen_append, strLen_append]
  have e1 : (("(" : String) : Str).length = 1 := rfl
  have e3 : ((if (ts.length == 1) = true then ",)" else ")" : String) : Str).length ≤ 2 := by
    split
    · exact Nat.le_of_eq rfl
    · exact Nat.le_succ_of_le (Nat.le_of_eq rfl)
  have e2 : (Str.join ", " ts).length ≤ piled ts := by
    cases ts with
    | nil => exact Nat.zero_le _
    | cons t r =>
      have := join_length_add (t :: r) (by simp)
      omega
  omega
mutual
theorem shown_le : ∀ d : D, rep d = true → (PyData.shown d).length ≤ bnd d ∧ d.showable = true ∧ d.canLay0 = true
  | .none, _ => by
    refine ⟨?_, by simp [PyData.showable], by simp [PyData.canLay0]⟩
    simp only [PyData.shown, bnd]
    exact (by decide : 4 ≤ 1921)
  | .bool b, _ => by
    refine ⟨?_, by simp [PyData.showable], by simp [PyData.canLay0]⟩
    simp only [PyData.shown, bnd]
    cases b
    · exact (by decide : 5 ≤ 1921)
    · exact (by decide : 4 ≤ 1921)
  | .int i, h => by
    have h' : i.natAbs.log2 < 1920 := by simpa [rep] using h
    refine ⟨?_, by simpa [PyData.showable] using h', by simp [PyData.canLay0]⟩
    simp only [PyData.shown, bnd]
    exact PyProof.Rows.int_text_len_1921 h'
  | .list xs, h => by
    obtain ⟨h1, h2, h3⟩ := shownAll_le xs (by simpa [rep] using h)
    refine ⟨?_, by simpa [PyData.showable] using h2, by simpa [PyData.canLay0] using h3⟩
    simp only [PyData.shown, bnd]
    exact Nat.le_trans (listText_le _) (by omega)
  | .tuple xs, h => by
    obtain ⟨h1, h2, h3⟩ := shownAll_le xs (by simpa [rep] using h)
    refine ⟨?_, by simpa [PyData.showable] using h2, by simpa [PyData.canLay0] using h3⟩
    simp only [PyData.shown, bnd]
    exact Nat.le_trans (tupleText_le _) (by omega)
  | .str _, h => by simp [rep] at h
  | .dict _, h => by simp [rep] at h
theorem shownAll_le : ∀ xs : List D, repAll xs = true → piled (PyData.shownAll xs) ≤ bndAll xs ∧ PyData.showableAll xs = true ∧ PyData.canLayAll0 xs = true
  | [], _ => ⟨by simp [PyData.shownAll, piled, bndAll], by simp [PyData.showableAll], by simp [PyData.canLayAll0]⟩
  | x :: r, h => by
    simp only [repAll, Bool.and_eq_true] at h
    obtain ⟨a1, a2, a3⟩ := shown_le x h.1
    obtain ⟨b1, b2, b3⟩ := shownAll_le r h.2
    refine ⟨?_, by simp [PyData.showableAll, a2, b2], by simp [PyData.canLayAll0, a3, b3]⟩
    rw [show PyData.shownAll (x :: r) = PyData.shown x :: PyData.shownAll r from by simp [PyData.shownAll], piled_cons]
    simp only [bndAll]
    omega
end
theorem reprOk_of {d : D} (h : rep d = true) (hb : bnd d ≤ 16000000) (hd : d.depth ≤ 60) : reprOk d = true := by
  obtain ⟨h1, h2, h3⟩ := shown_le d h
  unfold reprOk
  rw [h2, h3, decide_eq_true (Nat.le_trans h1 hb), decide_eq_true hd]
  rfl
theorem repr_list {t : Tag} {xs : List D} (h : reprOk (.list xs) = true) : evBi .repr [(t, .list xs)] = .ok (.sh, .str (PyData.shown (.list xs))) := by
  show PV.guard (reprOk (.list xs)) _ = _
  rw [h]
  rfl
theorem repr_tuple {t : Tag} {xs : List D} (h : reprOk (.tuple xs) = true) : evBi .repr [(t, .tuple xs)] = .ok (.sh, .str (PyData.shown (.tuple xs))) := by
  show PV.guard (reprOk (.tuple xs)) _ = _
  rw [h]
  rfl
theorem small_log {i : Int} (h1 : -1000000000000000000000000 < i) (h2 : i < 1000000000000000000000000) : i.natAbs.log2 < 1920 := by
  by_cases h0 : i.natAbs = 0
  · rw [h0]
    decide
  · have h3 : i.natAbs < 2 ^ 80 := by omega
    have h4 : i.natAbs.log2 < 80 := (Nat.log2_lt h0).mpr h3
    omega
theorem rep_ints : ∀ {xs : List Int}, (∀ x ∈ xs, -1000000000000000000000000 < x ∧ x < 1000000000000000000000000) → repAll (xs.map .int) = true
  | [], _ => by simp [repAll]
  | x :: r, h => by
    have hx := h x List.mem_cons_self
    have := rep_ints fun y hy => h y (List.mem_cons_of_mem _ hy)
    simp only [List.map_cons, repAll, rep, this, Bool.and_true]
    exact decide_eq_true (small_log hx.1 hx.2)
theorem bnd_ints : ∀ xs : List Int, bndAll (xs.map .int) = xs.length * 1923
  | [] => by simp [bndAll]
  | x :: r => by
    simp only [List.map_cons, bndAll, bnd, bnd_ints r, List.length_cons]
    omega
theorem depth_ints : ∀ xs : List Int, PyData.depthAll (xs.map .int) = 0
  | [] => by simp [PyData.depthAll]
  | x :: r => by simp [PyData.depthAll, PyData.depth, depth_ints r]
@[simp] theorem eq_strs {x y : Str} : evCmp .eq (.str x) (.str y) = .ok (decide (x = y)) := rfl
@[simp] theorem ne_strs {x y : Str} : evCmp .ne (.str x) (.str y) = .ok (!decide (x = y)) := rfl
@[simp] theorem ne_bool {x y : Bool} : evCmp .ne (.bool x) (.bool y) = .ok (x != y) := by
  cases x <;> cases y <;> rfl
@[simp] theorem eq_bool {x y : Bool} : evCmp .eq (.bool x) (.bool y) = .ok (x == y) := by
  cases x <;> cases y <;> rfl
end PV

/-! PvStr: short texts of plain signs. -/
namespace PV
open PySem L2
abbrev sl (xs : List Str) : D := .list (xs.map .str)
/-- a text of at most n signs -/
def Fine (n : Nat) (s : Str) : Prop := PyData.strOk s = true ∧ s.length ≤ n
theorem Fine.le {n m : Nat} {s : Str} (h : Fine n s) (l : n ≤ m) : Fine m s := ⟨h.1, Nat.le_trans h.2 l⟩
theorem Fine.add {n m : Nat} {a b : Str} (h : Fine n a) (k : Fine m b) : Fine (n + m) (a ++ b) := by
  refine ⟨?_, ?_⟩
  · show ((a.cps ++ b.cps).all (· < 0x110000)) = true
    have h1 : (a.cps.all (· < 0x110000)) = true := h.1
    have h2 : (b.cps.all (· < 0x110000)) = true := k.1
    rw [Array.all_append, h1, h2]
    rfl
  · show (a.cps ++ b.cps).size ≤ n + m
    have h1 : a.cps.size ≤ n := h.2
    have h2 : b.cps.size ≤ m := k.2
    rw [Array.size_append]
    omega
theorem Fine.of {n : Nat} (s : String) (h : s.length ≤ n) : Fine n (Str.ofString s) := by
  refine ⟨?_, ?_⟩
  · rw [Str.ofString_eq_toList]
    show ((s.toList.map Char.toNat).toArray.all (· < 0x110000)) = true
    rw [List.all_toArray, List.all_map, List.all_eq_true]
    intro c _
    have := c.valid
    show decide (c.toNat < 0x110000) = true
    rcases this with h | ⟨_, h⟩
    · exact decide_eq_true (Nat.lt_trans h (by decide))
    · exact decide_eq_true h
  · rw [ofString_length]
    exact h
/-- one sign -/
def chr (z : Str) (n : Nat) : Str := ⟨#[z.cps.getD n 0]⟩
theorem Fine.chr {m n : Nat} {z : Str} (h : Fine m z) : Fine 1 (chr z n) := by
  refine ⟨?_, Nat.le_refl _⟩
  show (#[z.cps.getD n 0].all (· < 0x110000)) = true
  have h1 : (z.cps.all (· < 0x110000)) = true := h.1
  rw [Array.all_eq_true] at h1
  have : z.cps.getD n 0 < 0x110000 := by
    rw [Array.getD_eq_getD_getElem?]
    by_cases c : n < z.cps.size
    · rw [Array.getElem?_eq_getElem c]
      simpa using h1 n c
    · rw [Array.getElem?_eq_none (by omega)]
      decide
  simpa using this
theorem ixs {t : Tag} {z : Str} {i : Int} (hl : z.length ≤ 16000000) (h : 0 ≤ i) (h2 : i < z.length) : evIx (t, .str z) (.int i) = .ok (.sh, .str (chr z i.toNat)) := by
  show PV.guard (decide (z.length ≤ lim)) (match L2.atI z.cps.toList i with | some c => ok1 (.str ⟨#[c]⟩) | none => .stuck) = _
  have hn : i.toNat < z.cps.size := by
    have : i < z.cps.size := h2
    omega
  rw [decide_eq_true (show z.length ≤ lim from hl), atI_at (n := i.toNat) (x := z.cps[i.toNat]) (by omega) (by rw [Array.getElem?_toList]; exact Array.getElem?_eq_getElem hn)]
  show R.ok (Tag.sh, PyData.str ⟨#[z.cps[i.toNat]]⟩) = _
  unfold chr
  rw [Array.getD_eq_getD_getElem?, Array.getElem?_eq_getElem hn]
  rfl
theorem cat_str {s t : Tag} {a b : Str} (h : a.length + b.length ≤ 16000000) : evBin .add (s, .str a) (t, .str b) = .ok (.sh, .str (a ++ b)) := by
  show PV.guard (decide (a.length + b.length ≤ lim)) _ = _
  rw [decide_eq_true (show a.length + b.length ≤ lim from h)]
  rfl
theorem Fine.cut {n : Nat} {z : Str} {lo hi : Option Int} (h : Fine n z) : Fine n (cutS z lo hi) := by
  have h1 : (z.cps.all (· < 0x110000)) = true := h.1
  have h2 : z.cps.size ≤ n := h.2
  unfold cutS
  generalize HT.sIx z.length 0 lo = a
  generalize HT.sIx z.length z.length hi - a = b
  refine ⟨?_, ?_⟩
  · show ((List.take b (List.drop a z.cps.toList)).toArray.all (· < 0x110000)) = true
    rw [List.all_toArray, List.all_eq_true]
    intro c hc
    rw [← Array.all_toList, List.all_eq_true] at h1
    exact h1 c (List.mem_of_mem_drop (List.mem_of_mem_take hc))
  · show ((List.take b (List.drop a z.cps.toList)).toArray).size ≤ n
    rw [List.size_toArray, List.length_take, List.length_drop, Array.length_toList]
    omega
theorem sl_str {t : Tag} {z : Str} {lo hi : Option Int} (h : z.length ≤ 16000000) : evSl (t, .str z) lo hi = .ok (.sh, .str (cutS z lo hi)) := by
  show PV.guard (decide (z.length ≤ lim)) _ = _
  rw [decide_eq_true (show z.length ≤ lim from h)]
  rfl
theorem strL_of : ∀ l : List Str, strL (l.map PyData.str) = some l
  | [] => rfl
  | x :: r => by
    show (strL (r.map PyData.str)).map (x :: ·) = _
    rw [strL_of r]
    rfl
/-- one-sign texts joined -/
theorem join_fine {ys : List Str} (h : ∀ y ∈ ys, Fine 1 y) (hl : ys.length ≤ 1000) : ∃ s, evJoin "" (sl ys) = .ok (.sh, .str s) ∧ Fine ys.length s := by
  have sum : (ys.map (·.length)).sum ≤ ys.length := by
    clear hl
    induction ys with
    | nil => exact Nat.le_refl _
    | cons y r ih =>
      have h1 := (h y List.mem_cons_self).2
      have h2 := ih fun z hz => h z (List.mem_cons_of_mem _ hz)
      rw [List.map_cons, List.sum_cons, List.length_cons]
      omega
  have e0 : (("" : String) : Str).length = 0 := rfl
  refine ⟨Txt.join "" ys, ?_, ?_⟩
  · show (match strL (ys.map PyData.str) with | some (ys : List Str) => PV.guard (decide ((ys.map (fun y : Str => y.length)).sum + ys.length * (("" : String) : Str).length ≤ lim)) (ok1 (.str (Txt.join "" ys))) | none => .stuck) = _
    rw [strL_of]
    show PV.guard (decide ((ys.map (fun y : Str => y.length)).sum + ys.length * (("" : String) : Str).length ≤ lim)) _ = _
    rw [e0, Nat.mul_zero, Nat.add_zero, decide_eq_true (show (ys.map (·.length)).sum ≤ lim by show _ ≤ 16000000; omega)]
    rfl
  · have ej : Txt.join "" ys = Str.join "" ys := StrLaws.glued_eq_join _ _
    refine ⟨?_, ?_⟩
    · rw [ej]
      clear hl sum ej
      induction ys with
      | nil => exact (by decide +kernel : PyData.strOk (Str.join "" []) = true)
      | cons y r ih =>
        cases r with
        | nil => exact (h y List.mem_cons_self).1
        | cons z s =>
          have := ih fun w hw => h w (List.mem_cons_of_mem _ hw)
          exact ((Fine.add (n := _) (m := _) (Fine.add (n := 1) (m := 0) (h y List.mem_cons_self) ⟨(by decide +kernel : PyData.strOk (Str.ofString "") = true), Nat.le_refl _⟩) (⟨this, Nat.le_refl _⟩ : Fine (Str.join "" (z :: s)).length _))).1
    · rw [ej]
      have := StrLaws.join_length_le "" ys
      rw [e0, Nat.mul_zero, Nat.add_zero] at this
      omega
theorem shaped_str {n : Nat} {s : Str} (h : Fine n s) : SeqAt.shaped (.str s) = true := by
  simp [SeqAt.shaped, PyData.canLay0, PyData.depth, h.1]
theorem depth_strs : ∀ xs : List Str, PyData.depthAll (xs.map .str) = 0
  | [] => by simp [PyData.depthAll]
  | x :: r => by simp [PyData.depthAll, PyData.depth, depth_strs r]
theorem lay_strs : ∀ {xs : List Str}, (∀ s ∈ xs, PyData.strOk s = true) → PyData.canLayAll0 (xs.map .str) = true
  | [], _ => by simp [PyData.canLayAll0]
  | x :: r, h => by simp [PyData.canLayAll0, PyData.canLay0, h x List.mem_cons_self, lay_strs fun y hy => h y (List.mem_cons_of_mem _ hy)]
theorem shaped_strs {xs : List Str} (h : ∀ s ∈ xs, PyData.strOk s = true) : SeqAt.shaped (sl xs) = true := by
  simp [SeqAt.shaped, PyData.canLay0, PyData.depth, depth_strs, lay_strs h]
theorem in_strs {n : Nat} {s : Str} {xs : List Str} (h : Fine n s) (hx : ∀ s ∈ xs, PyData.strOk s = true) : evCmp .inn (.str s) (sl xs) = .ok (xs.any fun t => decide (t = s)) := by
  show gB (both (.str s) (sl xs)) ((xs.map PyData.str).any fun z => PyData.eqv z (.str s)) = _
  unfold both
  rw [shaped_str h, shaped_strs hx, List.any_map]
  have : ((fun z => PyData.eqv z (.str s)) ∘ PyData.str) = fun t => decide (t = s) := by
    funext t
    show PyData.eqv (.str t) (.str s) = _
    unfold PyData.eqv
    first | rfl | (by_cases e : t = s <;> simp [e])
  rw [this]
  rfl
theorem str_int {t : Tag} {i : Int} (h1 : -1000000000000000000000000 < i) (h2 : i < 1000000000000000000000000) : ∃ s, evBi .str [(t, .int i)] = .ok (.sh, .str s) ∧ Fine 1921 s := by
  refine ⟨Str.ofString (toString i), ?_, ?_⟩
  · show PV.guard (decide (i.natAbs.log2 < 1920)) _ = _
    rw [decide_eq_true (small_log h1 h2)]
    rfl
  · refine Fine.of _ ?_
    have := PyProof.Rows.int_text_len_1921 (small_log h1 h2)
    rwa [ofString_length] at this
@[simp] theorem put_str {t : Tag} {env : Env} {n : Nat} {z : Str} : put env n (t, .str z) = .nx (env.set n (.sh (.str z))) := rfl
@[simp] theorem shOnly_str {t : Tag} {z : Str} : shOnly (t, .str z) = .ok (.str z) := rfl
theorem sl_snoc {xs : List Str} {y : Str} : PyData.list (xs.map .str ++ [.str y]) = sl (xs ++ [y]) := by simp [sl]
theorem rep_list {s : Tag} {xs : List D} {k : Int} (h0 : 0 ≤ k) (hk : k ≤ 16000000) (h : xs.length * k.toNat ≤ 16000000) : evBin .mul (.ow, .list xs) (s, .int k) = .ok (.ow, .list (List.replicate k.toNat xs).flatten) := by
  show PV.guard (isRt .ow && decide (0 ≤ k) && decide (k ≤ (lim : Int)) && decide (xs.length * k.toNat ≤ lim)) _ = _
  rw [decide_eq_true h0, decide_eq_true (show k ≤ (lim : Int) from hk), decide_eq_true (show xs.length * k.toNat ≤ lim from h)]
  rfl
@[simp] theorem bt_four {n m l j : Nat} {a b c d : D} {env : Env} : bindT (.tp [n, m, l, j]) (.sh, .tuple [a, b, c, d]) env = some ((((env.set n (.sh a)).set m (.sh b)).set l (.sh c)).set j (.sh d)) := rfl
@[simp] theorem bt_six {n m l j k o : Nat} {a b c d e f : D} {env : Env} : bindT (.tp [n, m, l, j, k, o]) (.sh, .tuple [a, b, c, d, e, f]) env = some ((((((env.set n (.sh a)).set m (.sh b)).set l (.sh c)).set j (.sh d)).set k (.sh e)).set o (.sh f)) := rfl
end PV
namespace PV
open PySem L2
def gs (l : List Str) (n : Nat) : Str := l.getD n ""
theorem gs_some {l : List Str} {n : Nat} (h : n < l.length) : l[n]? = some (gs l n) := by
  unfold gs
  rw [List.getD_eq_getElem?_getD, List.getElem?_eq_getElem h]
  rfl
theorem gs_mem {l : List Str} {n : Nat} (h : n < l.length) : gs l n ∈ l := List.mem_of_getElem? (gs_some h)
theorem ixz {t : Tag} {ns : List Str} {i : Int} (h : 0 ≤ i) (h2 : i < ns.length) : evIx (t, sl ns) (.int i) = .ok (.sh, .str (gs ns i.toNat)) := by
  have hl : i.toNat < ns.length := by omega
  rw [ixl_at (n := i.toNat) (d := .str (gs ns i.toNat)) (by omega) (by rw [List.getElem?_map, gs_some hl]; rfl), nt_str]
theorem sl_rng {n : Nat} {f : Nat → Str} : PyData.list ((List.range n).map fun x => .str (f x)) = sl ((List.range n).map f) := by simp [sl]
end PV

namespace K01
open PySem L2 PV
def bs : List Str := ["abs", "bool", "dict", "int", "isinstance", "len", "min", "range", "str", "tuple"]
def cs : List Str := []
def at_ (i : Nat) : Stmt := PySem.Challenge.pw_legion_k01_values_and_conditions.main.body.getD i (.Pass ⟨0, 0, 0, 0⟩)
/-! ### value_of -/
abbrev s_value_of : Stmt := at_ 1
def N_value_of : List Str := ["value", "values", "sign", "left", "right", "first", "second"]
def p_value_of : List Str := ["value", "values"]
def b_value_of : List Sx := [.ifs (.tru (.isi (.var 0) .str)) [.ret [] (.dix (.var 1) (.var 0))] [], .ifs (.not (.tru (.isi (.var 0) .tuple))) [.rtv 0] [], .asgT [0] [2, 3, 4] 
  (.var 0), .asg [1, 3] 5 (.call "value_of" (.cons (.var 3) (.cons (.var 1) .nil))), .asg [1, 4] 6 (.call "value_of" (.cons (.var 4) (.cons (.var 1) .nil))), .ifs (.val (.cmp .eq 
  (.var 2) (.cst (.str "+")))) [.ret [] (.bin .add (.var 5) (.var 6))] [], .ifs (.val (.cmp .eq (.var 2) (.cst (.str "-")))) [.ret [] (.bin .sub (.var 5) (.var 6))] [], .ret [] 
  (.bin .mul (.var 5) (.var 6))]
def g_value_of : List D → R (Bool × D) := gRec Gam.none "value_of" 10000 7 2 b_value_of 12
theorem h_value_of : chkSs N_value_of bs cs (defScope s_value_of) b_value_of (defBody s_value_of) = true := by decide +kernel
theorem c_value_of : FnScope N_value_of p_value_of (defScope s_value_of) := ⟨rfl, rfl, rfl, by decide +kernel, rfl, by decide +kernel, by decide +kernel⟩
def G_value_of : Gam := Gam.none.add "value_of" g_value_of
/-! ### holds -/
abbrev s_holds : Stmt := at_ 2
def N_holds : List Str := ["condition", "values", "first", "second"]
def p_holds : List Str := ["condition", "values"]
def b_holds : List Sx := [.ifs (.tru (.isi (.var 0) .bool)) [.rtv 0] [], .ifs (.val (.cmp .eq (.ix (.var 0) (.cst (.int 0))) (.cst (.str "not")))) [.ret [] (.lno (.call "holds" 
  (.cons (.ix (.var 0) (.cst (.int 1))) (.cons (.var 1) .nil))))] [], .ifs (.val (.cmp .eq (.ix (.var 0) (.cst (.int 0))) (.cst (.str "and")))) [.ret [] (.lan (.cons (.call "holds" 
  (.cons (.ix (.var 0) (.cst (.int 1))) (.cons (.var 1) .nil))) (.cons (.call "holds" (.cons (.ix (.var 0) (.cst (.int 2))) (.cons (.var 1) .nil))) .nil)))] [], .ifs (.val (.cmp 
  .eq (.ix (.var 0) (.cst (.int 0))) (.cst (.str "or")))) [.ret [] (.lor (.cons (.call "holds" (.cons (.ix (.var 0) (.cst (.int 1))) (.cons (.var 1) .nil))) (.cons (.call "holds" 
  (.cons (.ix (.var 0) (.cst (.int 2))) (.cons (.var 1) .nil))) .nil)))] [], .asg [1] 2 (.call "value_of" (.cons (.ix (.var 0) (.cst (.int 1))) (.cons (.var 1) .nil))), .asg [1] 3 
  (.call "value_of" (.cons (.ix (.var 0) (.cst (.int 2))) (.cons (.var 1) .nil))), .ifs (.val (.cmp .eq (.ix (.var 0) (.cst (.int 0))) (.cst (.str "=")))) [.ret [] (.cmp .eq (.var 
  2) (.var 3))] [], .ifs (.val (.cmp .eq (.ix (.var 0) (.cst (.int 0))) (.cst (.str "<")))) [.ret [] (.cmp .lt (.var 2) (.var 3))] [], .ret [] (.cmp .le (.var 2) (.var 3))]
def g_holds : List D → R (Bool × D) := gRec G_value_of "holds" 10000 4 2 b_holds 12
theorem h_holds : chkSs N_holds bs cs (defScope s_holds) b_holds (defBody s_holds) = true := by decide +kernel
theorem c_holds : FnScope N_holds p_holds (defScope s_holds) := ⟨rfl, rfl, rfl, by decide +kernel, rfl, by decide +kernel, by decide +kernel⟩
@[simp] theorem lk_holds_value_of : G_value_of "value_of" = some g_value_of := rfl
def G_holds : Gam := G_value_of.add "holds" g_holds
/-! ### _law_cell -/
abbrev s__law_cell : Stmt := at_ 4
def N__law_cell : List Str := ["_law_script", "_law_k"]
def p__law_cell : List Str := ["_law_script", "_law_k"]
def b__law_cell : List Sx := [.ifs (.val (.cmp .lt (.var 1) (.bi .len (.cons (.var 0) .nil)))) [.ret [] (.bi .int (.cons (.ix (.var 0) (.var 1)) .nil))] [], .ret [] (.cst (.int 
  0))]
def g__law_cell : List D → R (Bool × D) := evDef G_holds 10000 2 2 b__law_cell
theorem h__law_cell : chkSs N__law_cell bs cs (defScope s__law_cell) b__law_cell (defBody s__law_cell) = true := by decide +kernel
theorem c__law_cell : FnScope N__law_cell p__law_cell (defScope s__law_cell) := ⟨rfl, rfl, rfl, by decide +kernel, rfl, by decide +kernel, by decide +kernel⟩
def G__law_cell : Gam := G_holds.add "_law_cell" g__law_cell
/-! ### _law_draws -/
abbrev s__law_draws : Stmt := at_ 5
def N__law_draws : List Str := ["_law_cell_here", "_law_limits", "_law_found", "_law_rest", "_law_state", "_law_free", "_law_limit"]
def p__law_draws : List Str := ["_law_cell_here", "_law_limits"]
def b__law_draws : List Sx := [.asg [] 2 (.lst .nil), .asg [] 3 (.bi .abs (.cons (.bi .int (.cons (.var 0) .nil)) .nil)), .asg [] 4 (.bin .mod (.bi .int (.cons (.var 3) .nil)) 
  (.cst (.int 2147483647))), .asg [] 5 (.lor (.cons (.cmp .lt (.var 0) (.cst (.int 0))) (.cons (.cmp .ge (.var 0) (.bin .pow (.cst (.int 10)) (.cst (.int 18)))) .nil))), .lop [1] 
  (.nm 6) (.lst (.var 1)) [.ifs (.and (.cons (.tru (.var 5)) (.cons (.val (.cmp .gt (.var 3) (.cst (.int 1)))) .nil))) [.app [] 2 (.bin .mod (.bi .int (.cons (.var 3) .nil)) (.var 
  6)), .asg [] 3 (.bin .fdv (.var 3) (.var 6))] [.asg [] 4 (.bin .mod (.bi .int (.cons (.bin .add (.bin .mul (.var 4) (.cst (.int 48271))) (.cst (.int 11))) .nil)) (.cst (.int 
  2147483647))), .asg [] 4 (.bin .mod (.bi .int (.cons (.bin .add (.bin .mul (.var 4) (.cst (.int 69621))) (.cst (.int 7))) .nil)) (.cst (.int 2147483647))), .app [] 2 (.bin .mod 
  (.bi .int (.cons (.bin .fdv (.var 4) (.cst (.int 13))) .nil)) (.var 6))]], .rtv 2]
def g__law_draws : List D → R (Bool × D) := evDef G__law_cell 10000 7 2 b__law_draws
theorem h__law_draws : chkSs N__law_draws bs cs (defScope s__law_draws) b__law_draws (defBody s__law_draws) = true := by decide +kernel
theorem c__law_draws : FnScope N__law_draws p__law_draws (defScope s__law_draws) := ⟨rfl, rfl, rfl, by decide +kernel, rfl, by decide +kernel, by decide +kernel⟩
def G__law_draws : Gam := G__law_cell.add "_law_draws" g__law_draws
/-! ### _law_names -/
abbrev s__law_names : Stmt := at_ 6
def N__law_names : List Str := ["_law_cell_here", "_law_count", "_law_reserved", "_law_letters", "_law_signs", "_law_names_here", "_law_k", "_law_draws_here", "_law_size", 
  "_law_name", "_law_j"]
def p__law_names : List Str := ["_law_cell_here", "_law_count"]
def b__law_names : List Sx := [.asg [] 2 (.lst (.cons (.cst (.str "share")) (.cons (.cst (.str "lock")) (.cons (.cst (.str "bell")) (.cons (.cst (.str "kind")) (.cons (.cst (.str 
  "any")) (.cons (.cst (.str "local")) (.cons (.cst (.str "skip")) (.cons (.cst (.str "set")) (.cons (.cst (.str "acquire")) (.cons (.cst (.str "release")) (.cons (.cst (.str 
  "rest")) (.cons (.cst (.str "wake")) (.cons (.cst (.str "start")) .nil)))))))))))))), .asg [] 2 (.bin .add (.var 2) (.lst (.cons (.cst (.str "check")) (.cons (.cst (.str 
  "await")) (.cons (.cst (.str "mark")) (.cons (.cst (.str "if")) (.cons (.cst (.str "else")) (.cons (.cst (.str "loop")) (.cons (.cst (.str "choose")) (.cons (.cst (.str "or")) 
  (.cons (.cst (.str "end")) (.cons (.cst (.str "and")) (.cons (.cst (.str "not")) .nil))))))))))))), .asg [] 3 (.cst (.str "abcdefghijklmnopqrstuvwxyz")), .asg [] 4 (.bin .add 
  (.var 3) (.cst (.str "0123456789"))), .asg [] 5 (.lst .nil), .lop [] (.nm 6) (.rg1 (.var 1)) [.asg [] 7 (.call "_law_draws" (.cons (.bin .add (.bin .fdv (.bi .int (.cons (.var 0) 
  .nil)) (.cst (.int 7))) (.bin .mul (.cst (.int 31)) (.var 6))) (.cons (.bin .add (.lst (.cons (.cst (.int 8)) (.cons (.cst (.int 26)) .nil))) (.bin .mul (.lst (.cons (.cst (.int 
  36)) .nil)) (.cst (.int 19)))) .nil))), .asg [] 8 (.ix (.lst (.cons (.cst (.int 1)) (.cons (.cst (.int 1)) (.cons (.cst (.int 2)) (.cons (.cst (.int 2)) (.cons (.cst (.int 3)) 
  (.cons (.cst (.int 6)) (.cons (.cst (.int 4)) (.cons (.cst (.int 20)) .nil))))))))) (.ix (.var 7) (.cst (.int 0)))), .ifs (.and (.cons (.val (.cmp .lt (.var 6) (.cst (.int 16)))) 
  (.cons (.val (.cmp .gt (.var 1) (.cst (.int 16)))) .nil))) [.asg [] 8 (.bi .min (.cons (.var 8) (.cons (.cst (.int 6)) .nil)))] [], .asg [] 9 (.bin .add (.ix (.var 3) (.ix (.var 
  7) (.cst (.int 1)))) (.join (.cst (.str "")) (.cpr [("_law_j", 10)] (.nm 10) (.rg1 (.bin .sub (.var 8) (.cst (.int 1)))) .nil (.ix (.var 4) (.ix (.var 7) (.bin .add (.cst (.int 
  2)) (.var 10))))))), .ifs (.val (.cmp .eq (.ix (.var 7) (.cst (.int 0))) (.cst (.int 6)))) [.asg [] 9 (.ix (.lst (.cons (.cst (.str "true")) (.cons (.cst (.str "false")) (.cons 
  (.cst (.str "ends")) (.cons (.cst (.str "kinds")) .nil))))) (.bin .band (.bi .int (.cons (.ix (.var 7) (.cst (.int 1))) .nil)) (.cst (.int 3))))] [], .lop [] (.nm 10) (.rg1 (.cst 
  (.int 52))) [.ifs (.or (.cons (.val (.cmp .inn (.var 9) (.var 5))) (.cons (.val (.cmp .inn (.var 9) (.var 2))) .nil))) [.asg [] 9 (.bin .add (.bin .add (.ix (.var 3) (.bin .mod 
  (.bi .int (.cons (.var 10) .nil)) (.cst (.int 26)))) (.bi .str (.cons (.var 6) .nil))) (.sli (.cst (.str "x")) .no (.at (.bin .fdv (.var 10) (.cst (.int 26))))))] []], .app [9] 5 
  (.var 9)], .rtv 5]
def g__law_names : List D → R (Bool × D) := evDef G__law_draws 10000 11 2 b__law_names
theorem h__law_names : chkSs N__law_names bs cs (defScope s__law_names) b__law_names (defBody s__law_names) = true := by decide +kernel
theorem c__law_names : FnScope N__law_names p__law_names (defScope s__law_names) := ⟨rfl, rfl, rfl, by decide +kernel, rfl, by decide +kernel, by decide +kernel⟩
@[simp] theorem lk__law_names__law_draws : G__law_draws "_law_draws" = some g__law_draws := rfl
def G__law_names : Gam := G__law_draws.add "_law_names" g__law_names
/-! ### _law_value -/
abbrev s__law_value : Stmt := at_ 7
def N__law_value : List Str := ["_law_cell_here", "_law_names_here", "_law_depth", "_law_draws_here", "_law_sign"]
def p__law_value : List Str := ["_law_cell_here", "_law_names_here", "_law_depth"]
def b__law_value : List Sx := [.asg [0] 3 (.call "_law_draws" (.cons (.var 0) (.cons (.lst (.cons (.cst (.int 6)) (.cons (.cst (.int 199)) (.cons (.cst (.int 60)) (.cons (.cst 
  (.int 3)) (.cons (.bin .pow (.cst (.int 10)) (.cst (.int 9))) (.cons (.bin .pow (.cst (.int 10)) (.cst (.int 9))) .nil))))))) .nil))), .ifs (.and (.cons (.val (.cmp .gt (.var 2) 
  (.cst (.int 0)))) (.cons (.val (.cmp .gt (.ix (.var 3) (.cst (.int 0))) (.cst (.int 3)))) .nil))) [.asg [] 4 (.ix (.lst (.cons (.cst (.str "+")) (.cons (.cst (.str "-")) (.cons 
  (.cst (.str "*")) .nil)))) (.ix (.var 3) (.cst (.int 3)))), .ret [1, 4] (.tup (.cons (.var 4) (.cons (.call "_law_value" (.cons (.ix (.var 3) (.cst (.int 4))) (.cons (.var 1) 
  (.cons (.bin .sub (.var 2) (.cst (.int 1))) .nil)))) (.cons (.call "_law_value" (.cons (.ix (.var 3) (.cst (.int 5))) (.cons (.var 1) (.cons (.bin .sub (.var 2) (.cst (.int 1))) 
  .nil)))) .nil))))] [], .ifs (.and (.cons (.val (.cmp .gt (.bi .len (.cons (.var 1) .nil)) (.cst (.int 0)))) (.cons (.val (.cmp .eq (.bin .band (.ix (.var 3) (.cst (.int 0))) 
  (.cst (.int 1))) (.cst (.int 1)))) .nil))) [.ret [] (.ix (.var 1) (.bin .mod (.bi .int (.cons (.ix (.var 3) (.cst (.int 2))) .nil)) (.bi .len (.cons (.var 1) .nil))))] [], .ifs 
  (.val (.cmp .eq (.ix (.var 3) (.cst (.int 0))) (.cst (.int 0)))) [.ret [] (.bin .sub (.ix (.var 3) (.cst (.int 1))) (.cst (.int 99)))] [], .ret [] (.bin .sub (.bin .mod (.bi .int 
  (.cons (.ix (.var 3) (.cst (.int 1))) .nil)) (.cst (.int 7))) (.cst (.int 2)))]
def g__law_value : List D → R (Bool × D) := gRec G__law_names "_law_value" 10000 5 3 b__law_value 12
theorem h__law_value : chkSs N__law_value bs cs (defScope s__law_value) b__law_value (defBody s__law_value) = true := by decide +kernel
theorem c__law_value : FnScope N__law_value p__law_value (defScope s__law_value) := ⟨rfl, rfl, rfl, by decide +kernel, rfl, by decide +kernel, by decide +kernel⟩
@[simp] theorem lk__law_value__law_draws : G__law_names "_law_draws" = some g__law_draws := rfl
def G__law_value : Gam := G__law_names.add "_law_value" g__law_value
/-! ### _law_condition -/
abbrev s__law_condition : Stmt := at_ 8
def N__law_condition : List Str := ["_law_cell_here", "_law_names_here", "_law_depth", "_law_draws_here", "_law_sign"]
def p__law_condition : List Str := ["_law_cell_here", "_law_names_here", "_law_depth"]
def b__law_condition : List Sx := [.asg [0] 3 (.call "_law_draws" (.cons (.var 0) (.cons (.lst (.cons (.cst (.int 9)) (.cons (.cst (.int 3)) (.cons (.bin .pow (.cst (.int 10)) 
  (.cst (.int 9))) (.cons (.bin .pow (.cst (.int 10)) (.cst (.int 9))) .nil))))) .nil))), .ifs (.val (.cmp .lt (.ix (.var 3) (.cst (.int 0))) (.cst (.int 2)))) [.ret [] (.cmp .eq 
  (.ix (.var 3) (.cst (.int 0))) (.cst (.int 1)))] [], .ifs (.and (.cons (.val (.cmp .gt (.var 2) (.cst (.int 0)))) (.cons (.val (.cmp .eq (.ix (.var 3) (.cst (.int 0))) (.cst 
  (.int 2)))) .nil))) [.ret [1] (.tup (.cons (.cst (.str "not")) (.cons (.call "_law_condition" (.cons (.ix (.var 3) (.cst (.int 2))) (.cons (.var 1) (.cons (.bin .sub (.var 2) 
  (.cst (.int 1))) .nil)))) .nil)))] [], .ifs (.and (.cons (.val (.cmp .gt (.var 2) (.cst (.int 0)))) (.cons (.val (.cmp .lt (.ix (.var 3) (.cst (.int 0))) (.cst (.int 5)))) 
  .nil))) [.asg [] 4 (.ix (.lst (.cons (.cst (.str "and")) (.cons (.cst (.str "or")) .nil))) (.bin .sub (.ix (.var 3) (.cst (.int 0))) (.cst (.int 3)))), .ret [1, 4] (.tup (.cons 
  (.var 4) (.cons (.call "_law_condition" (.cons (.ix (.var 3) (.cst (.int 2))) (.cons (.var 1) (.cons (.bin .sub (.var 2) (.cst (.int 1))) .nil)))) (.cons (.call "_law_condition" 
  (.cons (.ix (.var 3) (.cst (.int 3))) (.cons (.var 1) (.cons (.bin .sub (.var 2) (.cst (.int 1))) .nil)))) .nil))))] [], .ret [1] (.tup (.cons (.ix (.lst (.cons (.cst (.str "=")) 
  (.cons (.cst (.str "<")) (.cons (.cst (.str "<=")) .nil)))) (.ix (.var 3) (.cst (.int 1)))) (.cons (.call "_law_value" (.cons (.ix (.var 3) (.cst (.int 2))) (.cons (.var 1) 
  (.cons (.cst (.int 1)) .nil)))) (.cons (.call "_law_value" (.cons (.ix (.var 3) (.cst (.int 3))) (.cons (.var 1) (.cons (.cst (.int 1)) .nil)))) .nil))))]
def g__law_condition : List D → R (Bool × D) := gRec G__law_value "_law_condition" 10000 5 3 b__law_condition 12
theorem h__law_condition : chkSs N__law_condition bs cs (defScope s__law_condition) b__law_condition (defBody s__law_condition) = true := by decide +kernel
theorem c__law_condition : FnScope N__law_condition p__law_condition (defScope s__law_condition) := ⟨rfl, rfl, rfl, by decide +kernel, rfl, by decide +kernel, by decide +kernel⟩
@[simp] theorem lk__law_condition__law_draws : G__law_value "_law_draws" = some g__law_draws := rfl
@[simp] theorem lk__law_condition__law_value : G__law_value "_law_value" = some g__law_value := rfl
def G__law_condition : Gam := G__law_value.add "_law_condition" g__law_condition
/-! ### _law_worth -/
abbrev s__law_worth : Stmt := at_ 9
def N__law_worth : List Str := ["_law_value_here", "_law_values", "_law_left", "_law_right"]
def p__law_worth : List Str := ["_law_value_here", "_law_values"]
def b__law_worth : List Sx := [.ifs (.tru (.isi (.var 0) .int)) [.rtv 0] [], .ifs (.tru (.isi (.var 0) .str)) [.ret [] (.dix (.var 1) (.var 0))] [], .asg [1] 2 (.call "_law_worth" 
  (.cons (.ix (.var 0) (.cst (.int 1))) (.cons (.var 1) .nil))), .asg [1] 3 (.call "_law_worth" (.cons (.ix (.var 0) (.cst (.int 2))) (.cons (.var 1) .nil))), .ifs (.val (.cmp .eq 
  (.ix (.var 0) (.cst (.int 0))) (.cst (.str "+")))) [.ret [] (.bin .add (.var 2) (.var 3))] [], .ifs (.val (.cmp .eq (.ix (.var 0) (.cst (.int 0))) (.cst (.str "-")))) [.ret [] 
  (.bin .sub (.var 2) (.var 3))] [], .ret [] (.bin .mul (.var 2) (.var 3))]
def g__law_worth : List D → R (Bool × D) := gRec G__law_condition "_law_worth" 10000 4 2 b__law_worth 12
theorem h__law_worth : chkSs N__law_worth bs cs (defScope s__law_worth) b__law_worth (defBody s__law_worth) = true := by decide +kernel
theorem c__law_worth : FnScope N__law_worth p__law_worth (defScope s__law_worth) := ⟨rfl, rfl, rfl, by decide +kernel, rfl, by decide +kernel, by decide +kernel⟩
def G__law_worth : Gam := G__law_condition.add "_law_worth" g__law_worth
/-! ### _law_holds -/
abbrev s__law_holds : Stmt := at_ 10
def N__law_holds : List Str := ["_law_condition_here", "_law_values", "_law_left", "_law_right"]
def p__law_holds : List Str := ["_law_condition_here", "_law_values"]
def b__law_holds : List Sx := [.ifs (.tru (.isi (.var 0) .bool)) [.rtv 0] [], .ifs (.val (.cmp .eq (.ix (.var 0) (.cst (.int 0))) (.cst (.str "not")))) [.ret [] (.lno (.call 
  "_law_holds" (.cons (.ix (.var 0) (.cst (.int 1))) (.cons (.var 1) .nil))))] [], .ifs (.val (.cmp .eq (.ix (.var 0) (.cst (.int 0))) (.cst (.str "and")))) [.ret [] (.lan (.cons 
  (.call "_law_holds" (.cons (.ix (.var 0) (.cst (.int 1))) (.cons (.var 1) .nil))) (.cons (.call "_law_holds" (.cons (.ix (.var 0) (.cst (.int 2))) (.cons (.var 1) .nil))) 
  .nil)))] [], .ifs (.val (.cmp .eq (.ix (.var 0) (.cst (.int 0))) (.cst (.str "or")))) [.ret [] (.lor (.cons (.call "_law_holds" (.cons (.ix (.var 0) (.cst (.int 1))) (.cons (.var 
  1) .nil))) (.cons (.call "_law_holds" (.cons (.ix (.var 0) (.cst (.int 2))) (.cons (.var 1) .nil))) .nil)))] [], .asg [1] 2 (.call "_law_worth" (.cons (.ix (.var 0) (.cst (.int 
  1))) (.cons (.var 1) .nil))), .asg [1] 3 (.call "_law_worth" (.cons (.ix (.var 0) (.cst (.int 2))) (.cons (.var 1) .nil))), .ifs (.val (.cmp .eq (.ix (.var 0) (.cst (.int 0))) 
  (.cst (.str "=")))) [.ret [] (.cmp .eq (.var 2) (.var 3))] [], .ifs (.val (.cmp .eq (.ix (.var 0) (.cst (.int 0))) (.cst (.str "<")))) [.ret [] (.cmp .lt (.var 2) (.var 3))] [], 
  .ret [] (.cmp .le (.var 2) (.var 3))]
def g__law_holds : List D → R (Bool × D) := gRec G__law_worth "_law_holds" 10000 4 2 b__law_holds 12
theorem h__law_holds : chkSs N__law_holds bs cs (defScope s__law_holds) b__law_holds (defBody s__law_holds) = true := by decide +kernel
theorem c__law_holds : FnScope N__law_holds p__law_holds (defScope s__law_holds) := ⟨rfl, rfl, rfl, by decide +kernel, rfl, by decide +kernel, by decide +kernel⟩
@[simp] theorem lk__law_holds__law_worth : G__law_worth "_law_worth" = some g__law_worth := rfl
def G__law_holds : Gam := G__law_worth.add "_law_holds" g__law_holds
/-! ### law -/
abbrev s_law : Stmt := at_ 11
def N_law : List Str := ["_law_script", "_law_draws_here", "_law_names_here", "_law_values", "_law_k", "_law_kept", "_law_cell_here", "_law_depth", "_law_value_here", 
  "_law_condition_here", "_law_actual"]
def p_law : List Str := ["_law_script"]
def b_law : List Sx := [.asg [] 1 (.call "_law_draws" (.cons (.call "_law_cell" (.cons (.var 0) (.cons (.cst (.int 0)) .nil))) (.cons (.bin .add (.lst (.cons (.cst (.int 6)) .nil)) 
  (.bin .mul (.lst (.cons (.cst (.int 199)) .nil)) (.cst (.int 6)))) .nil))), .asg [] 2 (.call "_law_names" (.cons (.call "_law_cell" (.cons (.var 0) (.cons (.cst (.int 1)) .nil))) 
  (.cons (.bin .add (.cst (.int 1)) (.ix (.var 1) (.cst (.int 0)))) .nil))), .asg [] 3 .dnew, .lop [] (.nm 4) (.rg1 (.bi .len (.cons (.var 2) .nil))) [.setD [] 3 (.ix (.var 2) 
  (.var 4)) (.bin .sub (.ix (.var 1) (.bin .add (.cst (.int 1)) (.var 4))) (.cst (.int 99)))], .asg [] 5 (.dcpy (.var 3)), .lop [] (.nm 6) (.lst (.bin .add (.lst (.cons (.cst (.int 
  0)) .nil)) (.sli (.var 0) (.at (.cst (.int 2))) .no))) [.asg [] 7 (.bin .mod (.bi .int (.cons (.var 6) .nil)) (.cst (.int 6))), .asg [2, 7] 8 (.call "_law_value" (.cons (.bin 
  .fdv (.bi .int (.cons (.var 6) .nil)) (.cst (.int 6))) (.cons (.var 2) (.cons (.var 7) .nil)))), .asg [2, 7] 9 (.call "_law_condition" (.cons (.bin .add (.bin .fdv (.bi .int 
  (.cons (.var 6) .nil)) (.cst (.int 6))) (.cst (.int 3))) (.cons (.var 2) (.cons (.var 7) .nil)))), .asg [3, 8] 10 (.call "value_of" (.cons (.var 8) (.cons (.var 3) .nil))), .ifs 
  (.or (.cons (.not (.tru (.isi (.var 10) .int))) (.cons (.tru (.isi (.var 10) .bool)) (.cons (.val (.cmp .ne (.var 10) (.call "_law_worth" (.cons (.var 8) (.cons (.var 5) 
  .nil))))) (.cons (.val (.cmp .ne (.var 3) (.var 5))) .nil))))) [.ret [] (.cst (.bool false))] [], .asg [3, 9] 10 (.call "holds" (.cons (.var 9) (.cons (.var 3) .nil))), .ifs (.or 
  (.cons (.not (.tru (.isi (.var 10) .bool))) (.cons (.val (.cmp .ne (.var 10) (.call "_law_holds" (.cons (.var 9) (.cons (.var 5) .nil))))) (.cons (.val (.cmp .ne (.var 3) (.var 
  5))) .nil)))) [.ret [] (.cst (.bool false))] []], .ret [] (.cst (.bool true))]
def g_law : List D → R (Bool × D) := evDef G__law_holds 10000 11 1 b_law
theorem h_law : chkSs N_law bs cs (defScope s_law) b_law (defBody s_law) = true := by decide +kernel
theorem c_law : FnScope N_law p_law (defScope s_law) := ⟨rfl, rfl, rfl, by decide +kernel, rfl, by decide +kernel, by decide +kernel⟩
@[simp] theorem lk_law__law_cell : G__law_holds "_law_cell" = some g__law_cell := rfl
@[simp] theorem lk_law__law_condition : G__law_holds "_law_condition" = some g__law_condition := rfl
@[simp] theorem lk_law__law_draws : G__law_holds "_law_draws" = some g__law_draws := rfl
@[simp] theorem lk_law__law_holds : G__law_holds "_law_holds" = some g__law_holds := rfl
@[simp] theorem lk_law__law_names : G__law_holds "_law_names" = some g__law_names := rfl
@[simp] theorem lk_law__law_value : G__law_holds "_law_value" = some g__law_value := rfl
@[simp] theorem lk_law__law_worth : G__law_holds "_law_worth" = some g__law_worth := rfl
@[simp] theorem lk_law_holds : G__law_holds "holds" = some g_holds := rfl
@[simp] theorem lk_law_value_of : G__law_holds "value_of" = some g_value_of := rfl
def G_law : Gam := G__law_holds.add "law" g_law
/-! ### the defs stand where the text says -/
theorem all_mk {l : PySem.W.OpenLaw} {w : World} {K : PySem.W.Frag} {h : Heap} {mg : Str → Option Value} {fa f1 f2 f3 f4 f5 f6 f7 f8 f9 f10 : Addr} (X : K.In h) (Gl : h.Ns mainGlobals mg) (hfa : mg "law" = some (.ref fa))
    {od1 an1 od2 an2 od3 an3 od4 an4 od5 an5 od6 an6 od7 an7 od8 an8 od9 an9 od10 an10 : Option Addr} {sl1 sl2 sl3 sl4 sl5 sl6 sl7 sl8 sl9 sl10 : Array (Option Value)} {oc1 kV1 dc1 pm1 cd1 ct1 oc2 kV2 dc2 pm2 cd2 ct2 oc3 kV3 dc3 pm3 cd3 ct3 oc4 kV4 dc4 pm4 cd4 ct4 oc5 kV5 dc5 pm5 cd5 ct5 oc6 kV6 dc6 pm6 cd6 ct6 oc7 kV7 dc7 pm7 cd7 ct7 oc8 kV8 dc8 pm8 cd8 ct8 oc9 kV9 dc9 pm9 cd9 ct9 oc10 kV10 dc10 pm10 cd10 ct10 : Value}
    (a1 : PySem.W.nsIn K mainGlobals "value_of" = some (some (.ref f1))) (l1 : K.lookup f1 = some ⟨oc1, od1, .func (PySem.W.fnOf "value_of" "value_of" (defArgs s_value_of) (defBody s_value_of) (defScope s_value_of) .none kV1 dc1 pm1 an1 cd1 ct1), sl1⟩) (c1 : PySem.W.codeIn K cd1 "value_of" = true) (k1 : PySem.W.keepIn K (.ref f1) = true)
    (a2 : PySem.W.nsIn K mainGlobals "holds" = some (some (.ref f2))) (l2 : K.lookup f2 = some ⟨oc2, od2, .func (PySem.W.fnOf "holds" "holds" (defArgs s_holds) (defBody s_holds) (defScope s_holds) .none kV2 dc2 pm2 an2 cd2 ct2), sl2⟩) (c2 : PySem.W.codeIn K cd2 "holds" = true) (k2 : PySem.W.keepIn K (.ref f2) = true)
    (a3 : PySem.W.nsIn K mainGlobals "_law_cell" = some (some (.ref f3))) (l3 : K.lookup f3 = some ⟨oc3, od3, .func (PySem.W.fnOf "_law_cell" "_law_cell" (defArgs s__law_cell) (defBody s__law_cell) (defScope s__law_cell) .none kV3 dc3 pm3 an3 cd3 ct3), sl3⟩) (c3 : PySem.W.codeIn K cd3 "_law_cell" = true) (k3 : PySem.W.keepIn K (.ref f3) = true)
    (a4 : PySem.W.nsIn K mainGlobals "_law_draws" = some (some (.ref f4))) (l4 : K.lookup f4 = some ⟨oc4, od4, .func (PySem.W.fnOf "_law_draws" "_law_draws" (defArgs s__law_draws) (defBody s__law_draws) (defScope s__law_draws) .none kV4 dc4 pm4 an4 cd4 ct4), sl4⟩) (c4 : PySem.W.codeIn K cd4 "_law_draws" = true) (k4 : PySem.W.keepIn K (.ref f4) = true)
    (a5 : PySem.W.nsIn K mainGlobals "_law_names" = some (some (.ref f5))) (l5 : K.lookup f5 = some ⟨oc5, od5, .func (PySem.W.fnOf "_law_names" "_law_names" (defArgs s__law_names) (defBody s__law_names) (defScope s__law_names) .none kV5 dc5 pm5 an5 cd5 ct5), sl5⟩) (c5 : PySem.W.codeIn K cd5 "_law_names" = true) (k5 : PySem.W.keepIn K (.ref f5) = true)
    (a6 : PySem.W.nsIn K mainGlobals "_law_value" = some (some (.ref f6))) (l6 : K.lookup f6 = some ⟨oc6, od6, .func (PySem.W.fnOf "_law_value" "_law_value" (defArgs s__law_value) (defBody s__law_value) (defScope s__law_value) .none kV6 dc6 pm6 an6 cd6 ct6), sl6⟩) (c6 : PySem.W.codeIn K cd6 "_law_value" = true) (k6 : PySem.W.keepIn K (.ref f6) = true)
    (a7 : PySem.W.nsIn K mainGlobals "_law_condition" = some (some (.ref f7))) (l7 : K.lookup f7 = some ⟨oc7, od7, .func (PySem.W.fnOf "_law_condition" "_law_condition" (defArgs s__law_condition) (defBody s__law_condition) (defScope s__law_condition) .none kV7 dc7 pm7 an7 cd7 ct7), sl7⟩) (c7 : PySem.W.codeIn K cd7 "_law_condition" = true) (k7 : PySem.W.keepIn K (.ref f7) = true)
    (a8 : PySem.W.nsIn K mainGlobals "_law_worth" = some (some (.ref f8))) (l8 : K.lookup f8 = some ⟨oc8, od8, .func (PySem.W.fnOf "_law_worth" "_law_worth" (defArgs s__law_worth) (defBody s__law_worth) (defScope s__law_worth) .none kV8 dc8 pm8 an8 cd8 ct8), sl8⟩) (c8 : PySem.W.codeIn K cd8 "_law_worth" = true) (k8 : PySem.W.keepIn K (.ref f8) = true)
    (a9 : PySem.W.nsIn K mainGlobals "_law_holds" = some (some (.ref f9))) (l9 : K.lookup f9 = some ⟨oc9, od9, .func (PySem.W.fnOf "_law_holds" "_law_holds" (defArgs s__law_holds) (defBody s__law_holds) (defScope s__law_holds) .none kV9 dc9 pm9 an9 cd9 ct9), sl9⟩) (c9 : PySem.W.codeIn K cd9 "_law_holds" = true) (k9 : PySem.W.keepIn K (.ref f9) = true)
    (a10 : PySem.W.nsIn K mainGlobals "law" = some (some (.ref f10))) (l10 : K.lookup f10 = some ⟨oc10, od10, .func (PySem.W.fnOf "law" "law" (defArgs s_law) (defBody s_law) (defScope s_law) .none kV10 dc10 pm10 an10 cd10 ct10), sl10⟩) (c10 : PySem.W.codeIn K cd10 "law" = true) (k10 : PySem.W.keepIn K (.ref f10) = true)
    (z_abs : PySem.W.nsIn K mainGlobals "abs" = some none)
    (z_bool : PySem.W.nsIn K mainGlobals "bool" = some none)
    (z_dict : PySem.W.nsIn K mainGlobals "dict" = some none)
    (z_int : PySem.W.nsIn K mainGlobals "int" = some none)
    (z_isinstance : PySem.W.nsIn K mainGlobals "isinstance" = some none)
    (z_len : PySem.W.nsIn K mainGlobals "len" = some none)
    (z_min : PySem.W.nsIn K mainGlobals "min" = some none)
    (z_range : PySem.W.nsIn K mainGlobals "range" = some none)
    (z_str : PySem.W.nsIn K mainGlobals "str" = some none)
    (z_tuple : PySem.W.nsIn K mainGlobals "tuple" = some none)
    : ∃ (fd : FuncData) (cref : Str → Value), (∀ (s : Shared) (u : Value), BindsTo s fd ⟨[u], []⟩ [("_law_script", u)]) ∧ ∀ base : Heap, K.In base → base.Ns mainGlobals mg → FnG l.prog w K mg base 76 fa fd ["_law_script"] (spD K cref 1 g_law) := by
  have e := hfa.symm.trans (PySem.W.mg_of X Gl a10)
  cases e
  have F1 := fun_mk (st := s_value_of) l1 c1 k1
  have b1 := F1.binds (ps := p_value_of) fun _ _ _ _ _ _ us hl => match us, hl with | [_, _], _ => rfl
  have F2 := fun_mk (st := s_holds) l2 c2 k2
  have b2 := F2.binds (ps := p_holds) fun _ _ _ _ _ _ us hl => match us, hl with | [_, _], _ => rfl
  have F3 := fun_mk (st := s__law_cell) l3 c3 k3
  have b3 := F3.binds (ps := p__law_cell) fun _ _ _ _ _ _ us hl => match us, hl with | [_, _], _ => rfl
  have F4 := fun_mk (st := s__law_draws) l4 c4 k4
  have b4 := F4.binds (ps := p__law_draws) fun _ _ _ _ _ _ us hl => match us, hl with | [_, _], _ => rfl
  have F5 := fun_mk (st := s__law_names) l5 c5 k5
  have b5 := F5.binds (ps := p__law_names) fun _ _ _ _ _ _ us hl => match us, hl with | [_, _], _ => rfl
  have F6 := fun_mk (st := s__law_value) l6 c6 k6
  have b6 := F6.binds (ps := p__law_value) fun _ _ _ _ _ _ us hl => match us, hl with | [_, _, _], _ => rfl
  have F7 := fun_mk (st := s__law_condition) l7 c7 k7
  have b7 := F7.binds (ps := p__law_condition) fun _ _ _ _ _ _ us hl => match us, hl with | [_, _, _], _ => rfl
  have F8 := fun_mk (st := s__law_worth) l8 c8 k8
  have b8 := F8.binds (ps := p__law_worth) fun _ _ _ _ _ _ us hl => match us, hl with | [_, _], _ => rfl
  have F9 := fun_mk (st := s__law_holds) l9 c9 k9
  have b9 := F9.binds (ps := p__law_holds) fun _ _ _ _ _ _ us hl => match us, hl with | [_, _], _ => rfl
  have F10 := fun_mk (st := s_law) l10 c10 k10
  have b10 := F10.binds (ps := p_law) fun _ _ _ _ _ _ us hl => match us, hl with | [_], _ => rfl
  refine ⟨PySem.W.fnOf "law" "law" (defArgs s_law) (defBody s_law) (defScope s_law) .none kV10 dc10 pm10 an10 cd10 ct10, fun _ => .none, fun s v => .of_eq rfl, fun base _ _ => ?_⟩
  have gc0 : GC l.prog w K mg base (fun _ => .none) 0 Gam.none bs cs := .nil (by
    intro x hx
    simp only [bs, List.mem_cons, List.not_mem_nil, or_false] at hx
    rcases hx with rfl | rfl | rfl | rfl | rfl | rfl | rfl | rfl | rfl | rfl
    · exact PySem.W.mg_none_of X Gl z_abs
    · exact PySem.W.mg_none_of X Gl z_bool
    · exact PySem.W.mg_none_of X Gl z_dict
    · exact PySem.W.mg_none_of X Gl z_int
    · exact PySem.W.mg_none_of X Gl z_isinstance
    · exact PySem.W.mg_none_of X Gl z_len
    · exact PySem.W.mg_none_of X Gl z_min
    · exact PySem.W.mg_none_of X Gl z_range
    · exact PySem.W.mg_none_of X Gl z_str
    · exact PySem.W.mg_none_of X Gl z_tuple
    ) (by
    intro x hx
    simp [cs] at hx)
  have R1 := rec_ok (P := l.prog) (w := w) (wn := 10000) F1 c_value_of gc0 h_value_of (PySem.W.mg_of X Gl a1) k1 b1 12
  have gc1 := (gc0.mono (Nat.le_add_right 0 12)).add (PySem.W.mg_of X Gl a1) k1 b1 R1 fun ds h => gRec_len ds h
  have R2 := rec_ok (P := l.prog) (w := w) (wn := 10000) F2 c_holds gc1 h_holds (PySem.W.mg_of X Gl a2) k2 b2 12
  have gc2 := (gc1.mono (Nat.le_add_right 12 12)).add (PySem.W.mg_of X Gl a2) k2 b2 R2 fun ds h => gRec_len ds h
  have R3 := def_ok (P := l.prog) (w := w) (wn := 10000) F3 c__law_cell gc2 h__law_cell
  have gc3 := (gc2.mono (Nat.le_succ 24)).add (PySem.W.mg_of X Gl a3) k3 b3 R3 fun ds h => evDef_len ds h
  have R4 := def_ok (P := l.prog) (w := w) (wn := 10000) F4 c__law_draws gc3 h__law_draws
  have gc4 := (gc3.mono (Nat.le_succ 25)).add (PySem.W.mg_of X Gl a4) k4 b4 R4 fun ds h => evDef_len ds h
  have R5 := def_ok (P := l.prog) (w := w) (wn := 10000) F5 c__law_names gc4 h__law_names
  have gc5 := (gc4.mono (Nat.le_succ 26)).add (PySem.W.mg_of X Gl a5) k5 b5 R5 fun ds h => evDef_len ds h
  have R6 := rec_ok (P := l.prog) (w := w) (wn := 10000) F6 c__law_value gc5 h__law_value (PySem.W.mg_of X Gl a6) k6 b6 12
  have gc6 := (gc5.mono (Nat.le_add_right 27 12)).add (PySem.W.mg_of X Gl a6) k6 b6 R6 fun ds h => gRec_len ds h
  have R7 := rec_ok (P := l.prog) (w := w) (wn := 10000) F7 c__law_condition gc6 h__law_condition (PySem.W.mg_of X Gl a7) k7 b7 12
  have gc7 := (gc6.mono (Nat.le_add_right 39 12)).add (PySem.W.mg_of X Gl a7) k7 b7 R7 fun ds h => gRec_len ds h
  have R8 := rec_ok (P := l.prog) (w := w) (wn := 10000) F8 c__law_worth gc7 h__law_worth (PySem.W.mg_of X Gl a8) k8 b8 12
  have gc8 := (gc7.mono (Nat.le_add_right 51 12)).add (PySem.W.mg_of X Gl a8) k8 b8 R8 fun ds h => gRec_len ds h
  have R9 := rec_ok (P := l.prog) (w := w) (wn := 10000) F9 c__law_holds gc8 h__law_holds (PySem.W.mg_of X Gl a9) k9 b9 12
  have gc9 := (gc8.mono (Nat.le_add_right 63 12)).add (PySem.W.mg_of X Gl a9) k9 b9 R9 fun ds h => gRec_len ds h
  have R10 := def_ok (P := l.prog) (w := w) (wn := 10000) F10 c_law gc9 h_law
  exact R10
end K01
namespace K01
open PySem L2 PV
/-! numbers drawn -/
def cell (ns : List Int) (k : Int) : Int := if k < ns.length then gi ns k.toNat else 0
theorem cell_ok (ns : List Int) (k : Int) (h : 0 ≤ k) : g__law_cell [il ns, .int k] = .ok (false, .int (cell ns k)) := by
  refine def_is rfl (s_if (t := decide (k < ns.length)) (by simp) (fun c => ?_) fun c => ?_)
  · have c : k < ns.length := of_decide_eq_true c
    simp [ss_cons, ss_nil, ixi h c, cell, c]
  · have c : ¬ k < ns.length := of_decide_eq_false c
    simp [ss_cons, ss_nil, cell, c]
theorem pow18 : evBin .pow (.sh, .int 10) (.sh, .int 18) = .ok (.sh, .int 1000000000000000000) := by
  rw [pow_int (by decide +kernel)]
  rfl
def dInv (c : Int) (ls : List Int) (i : Nat) (e : PV.Env) : Prop := ∃ (rest st : Int) (b : Bool) (L : List Int) (z : Slot), e = [.sh (.int c), .sh (il ls), .ow (il L), .sh (.int rest), .sh (.int st), .sh (.bool b), z] ∧ 0 ≤ rest ∧ L.length = i ∧ ∀ j < i, 0 ≤ gi L j ∧ gi L j < gi ls j
theorem gi_app1 {L : List Int} {y : Int} {j : Nat} (h : j < L.length) : gi (L ++ [y]) j = gi L j := by
  unfold gi
  rw [List.getD_eq_getElem?_getD, List.getD_eq_getElem?_getD, List.getElem?_append_left h]
theorem gi_app2 {L : List Int} {y : Int} : gi (L ++ [y]) L.length = y := by
  unfold gi
  rw [List.getD_eq_getElem?_getD, List.getElem?_append_right (Nat.le_refl _)]
  simp
theorem gi_mem {ls : List Int} {i : Nat} (h : i < ls.length) : gi ls i ∈ ls := List.mem_of_getElem? (gi_some h)
theorem draws_ok (c : Int) (ls : List Int) (hl : ∀ l ∈ ls, 0 < l ∧ l < 1073741824) (hn : ls.length ≤ 1000000) : ∃ L : List Int, L.length = ls.length ∧ (∀ j < ls.length, 0 ≤ gi L j ∧ gi L j < gi ls j) ∧ g__law_draws [.int c, il ls] = .ok (true, il L) := by
  suffices hh : ∃ o d, g__law_draws [.int c, il ls] = .ok (o, d) ∧ o = true ∧ ∃ L : List Int, d = il L ∧ L.length = ls.length ∧ (∀ j < ls.length, 0 ≤ gi L j ∧ gi L j < gi ls j) by
    obtain ⟨_, _, e, rfl, L, rfl, q1, q2⟩ := hh
    exact ⟨L, q1, q2, e⟩
  refine def_ret rfl ?_
  unfold b__law_draws
  rw [ss_cons]; simp -implicitDefEqProofs
  rw [ss_cons]; simp -implicitDefEqProofs
  have hr : 0 ≤ (if c < 0 then -c else c) := by split <;> omega
  generalize (if c < 0 then -c else c) = rest at hr
  rw [ss_cons]; simp -implicitDefEqProofs (disch := omega) [mod_int]
  generalize rest % 2147483647 = st
  refine s_step (J := fun e => ∃ b : Bool, e = [.sh (.int c), .sh (il ls), .ow (il []), .sh (.int rest), .sh (.int st), .sh (.bool b), .no]) ?_ ?_
  · simp -implicitDefEqProofs [pow18]
    by_cases q : c < 0
    · rw [decide_eq_true q]; simp -implicitDefEqProofs
    · rw [decide_eq_false q]; simp -implicitDefEqProofs
      omega
  rintro _ ⟨b, rfl⟩
  refine s_for (t := .sh) (ds := ls.map .int) (I := dInv c ls) (by simp -implicitDefEqProofs [frz_cons]) (by simp -implicitDefEqProofs) rfl ⟨rest, st, b, [], .no, rfl, hr, rfl, fun j hj => absurd hj (Nat.not_lt_zero j)⟩ ?_ ?_
  · rintro i d e hd ⟨rest, st, b, L, z, rfl, k1, k2, k3⟩
    have hi : i < ls.length := by have := (List.getElem?_eq_some_iff.mp hd).1; rwa [List.length_map] at this
    rw [List.getElem?_map, gi_some hi] at hd
    obtain rfl := Option.some.inj hd
    have hm := hl _ (gi_mem hi)
    have ext : ∀ y : Int, ∀ j < i + 1, 0 ≤ gi (L ++ [y % gi ls i]) j ∧ gi (L ++ [y % gi ls i]) j < gi ls j := fun y j hj => by
      by_cases q : j < i
      · rw [gi_app1 (by omega)]; exact k3 j q
      · have : j = L.length := by omega
        rw [this, gi_app2, k2]
        exact ⟨Int.emod_nonneg y (by omega), Int.emod_lt_of_pos y hm.1⟩
    generalize gi ls i = l at hm ext
    have hL : L.length < lim := by rw [k2]; show i < 16000000; omega
    refine ⟨_, by simp -implicitDefEqProofs; rfl, s_if (t := b && decide (1 < rest)) (by cases b <;> simp -implicitDefEqProofs <;> split <;> simp_all) (fun _ => ?_) fun _ => ?_⟩
    · simp -implicitDefEqProofs
      rw [ss_cons]; simp -implicitDefEqProofs (disch := omega) [mod_int, hL]
      rw [ss_cons]; simp -implicitDefEqProofs (disch := omega) [fdv_int]
      exact ⟨_, _, _, _, _, by rw [il_snoc], Int.ediv_nonneg k1 (by omega), by simp [k2], ext _⟩
    · simp -implicitDefEqProofs
      rw [ss_cons]; simp -implicitDefEqProofs (disch := omega) [mod_int, mul_r]
      rw [ss_cons]; simp -implicitDefEqProofs (disch := omega) [mod_int, mul_r]
      rw [ss_cons]; simp -implicitDefEqProofs (disch := omega) [mod_int, fdv_int, hL]
      exact ⟨_, _, _, _, _, by rw [il_snoc], k1, by simp [k2], ext _⟩
  · rintro e ⟨rest, st, b, L, z, rfl, k1, k2, k3⟩
    rw [List.length_map] at k2 k3
    rw [ss_cons]
    simp -implicitDefEqProofs
    exact ⟨L, rfl, k2, k3⟩

/-! names drawn -/
def limN : List Int := [8, 26, 36, 36, 36, 36, 36, 36, 36, 36, 36, 36, 36, 36, 36, 36, 36, 36, 36, 36, 36]
def resN : List Str := ["share", "lock", "bell", "kind", "any", "local", "skip", "set", "acquire", "release", "rest", "wake", "start", "check", "await", "mark", "if", "else", "loop", "choose", "or", "end", "and", "not"]
theorem res_ok : ∀ s ∈ resN, PyData.strOk s = true := by decide +kernel
theorem lim_36 : ∀ n : Nat, n < 21 → 2 ≤ n → gi limN n = 36 := by decide +kernel
theorem and_3 : ∀ n : Nat, n < 26 → 0 ≤ Builtin.bitAnd (n : Int) 3 ∧ Builtin.bitAnd (n : Int) 3 < 4 := by decide +kernel
def nInv (c k : Int) (A B : Str) (i : Nat) (e : PV.Env) : Prop := ∃ (ss : List Str) (a6 a7 a8 a9 a10 : Slot), e = [.sh (.int c), .sh (.int k), .ow (sl resN), .sh (.str A), .sh (.str B), .ow (sl ss), a6, a7, a8, a9, a10] ∧ ss.length = i ∧ ∀ s ∈ ss, Fine 2000 s
def kInv (q : Str → Slot → PV.Env) (_ : Nat) (e : PV.Env) : Prop := ∃ (nm : Str) (z : Slot), e = q nm z ∧ Fine 2000 nm
def nJ1 (q : Int → PV.Env) (e : PV.Env) : Prop := ∃ s : Int, 1 ≤ s ∧ s ≤ 20 ∧ e = q s
def nJ2 (q : Str → PV.Env) (e : PV.Env) : Prop := ∃ nm : Str, Fine 2000 nm ∧ e = q nm
theorem names_ok (c k : Int) (h0 : 0 ≤ k) (h1 : k ≤ 1000) : ∃ ss : List Str, ss.length = k.toNat ∧ (∀ s ∈ ss, Fine 2000 s) ∧ g__law_names [.int c, .int k] = .ok (true, sl ss) := by
  suffices hh : ∃ o d, g__law_names [.int c, .int k] = .ok (o, d) ∧ o = true ∧ ∃ ss : List Str, d = sl ss ∧ ss.length = k.toNat ∧ ∀ s ∈ ss, Fine 2000 s by
    obtain ⟨_, _, e, rfl, L, rfl, q1, q2⟩ := hh
    exact ⟨L, q1, q2, e⟩
  refine def_ret rfl ?_
  unfold b__law_names
  refine s_step (J := fun e => e = [.sh (.int c), .sh (.int k), .ow (sl (resN.take 13)), .no, .no, .no, .no, .no, .no, .no, .no]) ?_ ?_
  · exact ⟨rfl⟩
  rintro _ rfl
  refine s_step (J := fun e => e = [.sh (.int c), .sh (.int k), .ow (sl resN), .no, .no, .no, .no, .no, .no, .no, .no]) ?_ ?_
  · exact ⟨rfl⟩
  rintro _ rfl
  have fA : Fine 26 "abcdefghijklmnopqrstuvwxyz" := Fine.of _ (by decide)
  have lA : (Str.ofString "abcdefghijklmnopqrstuvwxyz").length = 26 := by decide +kernel
  have fD : Fine 10 "0123456789" := Fine.of _ (by decide)
  have lD : (Str.ofString "0123456789").length = 10 := by decide +kernel
  rw [ss_cons]; simp -implicitDefEqProofs
  rw [ss_cons]; simp -implicitDefEqProofs [cat_str (a := "abcdefghijklmnopqrstuvwxyz") (b := "0123456789") (by rw [lA, lD]; decide)]
  have fB := fA.add fD
  have lB : (Str.ofString "abcdefghijklmnopqrstuvwxyz" ++ Str.ofString "0123456789").length = 36 := by rw [Str.length_append, lA, lD]
  generalize Str.ofString "abcdefghijklmnopqrstuvwxyz" ++ Str.ofString "0123456789" = B at fB lB
  generalize Str.ofString "abcdefghijklmnopqrstuvwxyz" = A at fA lA
  rw [ss_cons]; simp -implicitDefEqProofs
  refine s_for (t := .sh) (ds := ranged 0 k) (I := nInv c k A B) rfl (by simp -implicitDefEqProofs (disch := omega) [small_nat]) rfl ⟨[], _, _, _, _, _, rfl, rfl, fun s hs => nomatch hs⟩ ?_ ?_
  · rintro i d e hd ⟨ss, a6, a7, a8, a9, a10, rfl, k1, k2⟩
    have hi : i < k.toNat := by have := (List.getElem?_eq_some_iff.mp hd).1; rwa [ranged_len, Int.sub_zero] at this
    rw [ranged_get (by omega)] at hd
    obtain rfl := Option.some.inj hd
    refine ⟨_, by simp -implicitDefEqProofs; rfl, ?_⟩
    obtain ⟨L, lL, bL, eL⟩ := draws_ok (c / 7 + 31 * i) limN (by decide +kernel) (by decide)
    have lL : L.length = 21 := lL
    have bL : ∀ j < 21, 0 ≤ gi L j ∧ gi L j < gi limN j := bL
    have b0 : 0 ≤ gi L 0 ∧ gi L 0 < 8 := bL 0 (by decide)
    have b1 : 0 ≤ gi L 1 ∧ gi L 1 < 26 := bL 1 (by decide)
    simp only [limN, il, List.map_cons, List.map_nil] at eL
    rw [ss_cons]; simp -implicitDefEqProofs (disch := first | omega | decide) [fdv_int, mul_l, rep_list, cat_list, eL]
    have e8 : evIx (.ow, .list [.int 1, .int 1, .int 2, .int 2, .int 3, .int 6, .int 4, .int 20]) (.int (gi L 0)) = .ok (.sh, .int (gi [1, 1, 2, 2, 3, 6, 4, 20] (gi L 0).toNat)) := ixi (ns := [1, 1, 2, 2, 3, 6, 4, 20]) b0.1 b0.2
    have s8 : 1 ≤ gi [1, 1, 2, 2, 3, 6, 4, 20] (gi L 0).toNat ∧ gi [1, 1, 2, 2, 3, 6, 4, 20] (gi L 0).toNat ≤ 20 := by
      have : ∀ n : Nat, n < 8 → 1 ≤ gi [1, 1, 2, 2, 3, 6, 4, 20] n ∧ gi [1, 1, 2, 2, 3, 6, 4, 20] n ≤ 20 := by decide +kernel
      exact this _ (by omega)
    rw [ss_cons]; simp -implicitDefEqProofs (disch := omega) [ixi, e8]
    generalize gi [1, 1, 2, 2, 3, 6, 4, 20] (gi L 0).toNat = sz at s8
    refine s_if1 (t := decide ((i : Int) < 16) && decide (16 < k)) (J := nJ1 fun sz => [.sh (.int c), .sh (.int k), .ow (sl resN), .sh (.str A), .sh (.str B), .ow (sl ss), .sh (.int i), .ow (il L), .sh (.int sz), a9, a10]) (by by_cases q : (i : Int) < 16 <;> by_cases q2 : (16 : Int) < k <;> simp -implicitDefEqProofs [q, q2]) (fun _ => ?_) (fun _ => ?_) ?_
    · rw [ss_cons]; simp -implicitDefEqProofs
      exact ⟨_, by split <;> omega, by split <;> omega, rfl⟩
    · simp -implicitDefEqProofs
      exact ⟨_, s8.1, s8.2, rfl⟩
    rintro _ ⟨sz, z1, z2, rfl⟩
    refine s_step (J := nJ2 fun nm => [.sh (.int c), .sh (.int k), .ow (sl resN), .sh (.str A), .sh (.str B), .ow (sl ss), .sh (.int i), .ow (il L), .sh (.int sz), .sh (.str nm), a10]) ?_ ?_
    · rw [y_asg, frz_nil, x_bin, x_join, e_rng (j := sz - 1) (u := .sh) (h := fun x => .str (chr B (gi L (2 + x)).toNat)) (by simp) (by omega) (by omega) (fun x hx => by
        have q := bL (2 + x) (by omega)
        rw [lim_36 (2 + x) (by omega) (by omega)] at q
        have q2 : ((2 : Int) + (x : Int)).toNat = 2 + x := by omega
        simp -implicitDefEqProofs (disch := omega) [cprItem, wipeE, ixi, q2, ixs]), sl_rng]
      have hY : ∀ y ∈ (List.range (sz - 1).toNat).map fun x => chr B (gi L (2 + x)).toNat, Fine 1 y := fun y hy => by obtain ⟨x, _, rfl⟩ := List.mem_map.mp hy; exact fB.chr
      have lY : ((List.range (sz - 1).toNat).map fun x => chr B (gi L (2 + x)).toNat).length ≤ 19 := by rw [List.length_map, List.length_range]; omega
      generalize ((List.range (sz - 1).toNat).map fun x => chr B (gi L (2 + x)).toNat) = ys at hY lY ⊢
      obtain ⟨s, e1, f1⟩ := join_fine hY (by omega)
      have f2 := (Fine.add (fA.chr (n := (gi L 1).toNat)) f1).le (m := 2000) (by omega)
      have l1 := f1.2
      have l2 := (fA.chr (n := (gi L 1).toNat)).2
      simp -implicitDefEqProofs (disch := omega) [ixi, ixs, e1, cat_str]
      exact ⟨_, f2, rfl⟩
    rintro _ ⟨nm, fn, rfl⟩
    refine s_if1 (t := decide (gi L 0 = 6)) (J := nJ2 fun nm => [.sh (.int c), .sh (.int k), .ow (sl resN), .sh (.str A), .sh (.str B), .ow (sl ss), .sh (.int i), .ow (il L), .sh (.int sz), .sh (.str nm), a10]) (by simp -implicitDefEqProofs (disch := omega) [ixi]) (fun _ => ?_) (fun _ => ?_) ?_
    · have q : 0 ≤ Builtin.bitAnd (gi L 1) 3 ∧ Builtin.bitAnd (gi L 1) 3 < 4 := by
        have := and_3 (gi L 1).toNat (by omega)
        rwa [Int.toNat_of_nonneg b1.1] at this
      have e4 : ∀ z : Int, 0 ≤ z → z < 4 → evIx (.ow, .list [.str "true", .str "false", .str "ends", .str "kinds"]) (.int z) = .ok (.sh, .str (gs ["true", "false", "ends", "kinds"] z.toNat)) := fun z h1 h2 => ixz (ns := ["true", "false", "ends", "kinds"]) h1 h2
      have eb : evBin .band (.sh, .int (gi L 1)) (.sh, .int 3) = .ok (.sh, .int (Builtin.bitAnd (gi L 1) 3)) := rfl
      rw [ss_cons]; simp -implicitDefEqProofs (disch := omega) [ixi, eb, e4 _ q.1 q.2]
      refine ⟨_, ?_, rfl⟩
      have : ∀ s ∈ (["true", "false", "ends", "kinds"] : List Str), PyData.strOk s = true ∧ s.length ≤ 2000 := by decide +kernel
      exact this _ (gs_mem (by show _ < 4; omega))
    · simp -implicitDefEqProofs
      exact ⟨_, fn, rfl⟩
    rintro _ ⟨nm, fn, rfl⟩
    refine s_for (t := .sh) (ds := ranged 0 52) (I := kInv fun nm z => [.sh (.int c), .sh (.int k), .ow (sl resN), .sh (.str A), .sh (.str B), .ow (sl ss), .sh (.int i), .ow (il L), .sh (.int sz), .sh (.str nm), z]) rfl (by simp -implicitDefEqProofs (disch := omega) [small_nat]) rfl ⟨_, _, rfl, fn⟩ ?_ ?_
    · rintro j d e hd ⟨nm, z, rfl, fn⟩
      have hj : j < 52 := by have := (List.getElem?_eq_some_iff.mp hd).1; rwa [ranged_len] at this
      rw [ranged_get (by rw [Int.sub_zero]; exact hj)] at hd
      obtain rfl := Option.some.inj hd
      refine ⟨_, by simp -implicitDefEqProofs; rfl, s_if (t := (ss.any fun t => decide (t = nm)) || (resN.any fun t => decide (t = nm))) ?_ (fun _ => ?_) fun _ => ?_⟩
      · simp -implicitDefEqProofs only [x_tor, x_to, x_to0, x_val, x_cmp, x_var, at_0, at_s, b_ok, in_strs fn fun s hs => (k2 s hs).1, in_strs fn res_ok, isBool_bool]
        cases (ss.any fun t => decide (t = nm)) <;> cases (resN.any fun t => decide (t = nm)) <;> rfl
      · obtain ⟨s, e1, f1⟩ := str_int (t := .sh) (i := (i : Int)) (by omega) (by omega)
        have f2 := fA.chr (n := ((j : Int) % 26).toNat)
        have fX : Fine 1 "x" := Fine.of _ (by decide)
        have f3 := fX.cut (lo := none) (hi := some ((j : Int) / 26))
        have l1 := f1.2
        have l2 := f2.2
        have l3 := f3.2
        have l12 : (chr A ((j : Int) % 26).toNat ++ s).length = (chr A ((j : Int) % 26).toNat).length + s.length := Str.length_append _ _
        simp -implicitDefEqProofs
        rw [ss_cons]; simp -implicitDefEqProofs (disch := omega) [mod_int, fdv_int, ixs, e1, cat_str, sl_str (t := .sh) (z := Str.ofString "x") (lo := none) (hi := some ((j : Int) / 26)) (by decide)]
        exact ⟨_, _, rfl, ((f2.add f1).add f3).le (by omega)⟩
      · simp -implicitDefEqProofs
        exact ⟨_, _, rfl, fn⟩
    · rintro _ ⟨nm, z, rfl, fn⟩
      have hl : ss.length < lim := by rw [k1]; show i < 16000000; omega
      rw [ss_cons]; simp -implicitDefEqProofs [frz_cons, hl]
      exact ⟨_, _, _, _, _, _, by rw [sl_snoc], by simp [k1], fun s hs => by
        rcases List.mem_append.mp hs with h | h
        · exact k2 s h
        · rw [List.mem_singleton.mp h]; exact fn⟩
  · rintro _ ⟨ss, a6, a7, a8, a9, a10, rfl, k1, k2⟩
    rw [ss_cons]; simp -implicitDefEqProofs
    exact ⟨ss, rfl, by rw [k1, ranged_len, Int.sub_zero], k2⟩

/-! values and conditions as trees -/
inductive Va where | nm (s : Str) | num (i : Int) | nd (g : Nat) (a b : Va)
def sgn : Nat → Str | 0 => "+" | 1 => "-" | _ => "*"
def Va.d : Va → D | .nm s => .str s | .num i => .int i | .nd g a b => .tuple [.str (sgn g), a.d, b.d]
def Va.dep : Va → Nat | .nm _ => 0 | .num _ => 0 | .nd _ a b => max a.dep b.dep + 1
def look (kvs : List (D × D)) (s : Str) : Int := match dGetK kvs (Sum.inr s) with | some (.int i) => i | _ => 0
def ari : Nat → Int → Int → Int | 0, a, b => a + b | 1, a, b => a - b | _, a, b => a * b
def Va.val (kvs : List (D × D)) : Va → Int | .nm s => look kvs s | .num i => i | .nd g a b => ari g (a.val kvs) (b.val kvs)
def Va.ok (kvs : List (D × D)) : Va → Prop
  | .nm s => dGetK kvs (Sum.inr s) = some (.int (look kvs s)) ∧ (look kvs s).natAbs ≤ 100
  | .num i => i.natAbs ≤ 100
  | .nd _ a b => a.ok kvs ∧ b.ok kvs
theorem ari_le {g : Nat} {a b : Int} {m : Nat} (h1 : a.natAbs ≤ 2 ^ m) (h2 : b.natAbs ≤ 2 ^ m) (hm : 1 ≤ m) : (ari g a b).natAbs ≤ 2 ^ (2 * m) := by
  have e : 2 ^ (2 * m) = 2 ^ m * 2 ^ m := by rw [← Nat.pow_add]; congr 1; omega
  have two : 2 ≤ 2 ^ m := by
    calc 2 = 2 ^ 1 := rfl
      _ ≤ 2 ^ m := Nat.pow_le_pow_right (by decide) hm
  have q : 2 ^ m + 2 ^ m ≤ 2 ^ m * 2 ^ m := by
    calc 2 ^ m + 2 ^ m = 2 * 2 ^ m := by omega
      _ ≤ 2 ^ m * 2 ^ m := Nat.mul_le_mul_right _ two
  rw [e]
  match g with
  | 0 => show (a + b).natAbs ≤ _; omega
  | 1 => show (a - b).natAbs ≤ _; omega
  | n + 2 => show (a * b).natAbs ≤ _; rw [Int.natAbs_mul]; exact Nat.mul_le_mul h1 h2
theorem Va.bound {kvs : List (D × D)} : ∀ (t : Va), t.ok kvs → (t.val kvs).natAbs ≤ 2 ^ (7 * 2 ^ t.dep)
  | .nm s, h => Nat.le_trans h.2 (by show 100 ≤ 2 ^ (7 * 2 ^ 0); decide)
  | .num i, h => Nat.le_trans h (by show 100 ≤ 2 ^ (7 * 2 ^ 0); decide)
  | .nd g a b, h => by
    have h1 := Va.bound a h.1
    have h2 := Va.bound b h.2
    have up : ∀ {x y : Nat}, x ≤ y → 2 ^ (7 * 2 ^ x) ≤ 2 ^ (7 * 2 ^ y) := fun hx => Nat.pow_le_pow_right (by decide) (Nat.mul_le_mul_left _ (Nat.pow_le_pow_right (by decide) hx))
    have p : 1 ≤ 7 * 2 ^ max a.dep b.dep := by
      have := Nat.pos_of_ne_zero (Nat.pos_iff_ne_zero.mp (Nat.two_pow_pos (max a.dep b.dep)))
      omega
    have := ari_le (g := g) (Nat.le_trans h1 (up (Nat.le_max_left _ b.dep))) (Nat.le_trans h2 (up (Nat.le_max_right a.dep _))) p
    show (ari g (a.val kvs) (b.val kvs)).natAbs ≤ 2 ^ (7 * 2 ^ (max a.dep b.dep + 1))
    rw [show 7 * 2 ^ (max a.dep b.dep + 1) = 2 * (7 * 2 ^ max a.dep b.dep) by rw [Nat.pow_succ]; omega]
    exact this
theorem big {kvs : List (D × D)} {t : Va} (h : t.ok kvs) (hd : t.dep ≤ 8) : (t.val kvs).natAbs < 2 ^ 4000 := by
  refine Nat.lt_of_le_of_lt (t.bound h) ?_
  have : 7 * 2 ^ t.dep ≤ 7 * 2 ^ 8 := Nat.mul_le_mul_left _ (Nat.pow_le_pow_right (by decide) hd)
  exact Nat.pow_lt_pow_right (by decide) (by omega)
theorem mul_big {s t : Tag} {i j : Int} (h1 : i.natAbs < 2 ^ 4000) (h2 : j.natAbs < 2 ^ 4000) : evBin .mul (s, .int i) (t, .int j) = .ok (.sh, .int (i * j)) := mul_int (by unfold mulOk; rw [decide_eq_true h1, decide_eq_true h2]; rfl)
theorem dix_at {t : Tag} {kvs : List (D × D)} {s : Str} {i : Int} (h : dGetK kvs (Sum.inr s) = some (.int i)) : evDix (t, .dict kvs) (.str s) = .ok (.sh, .int i) := by
  show (match dGetK kvs (Sum.inr s) with | some d => R.ok (nt t.kid d, d) | none => .stuck) = _
  rw [h]
  rfl
theorem sg0 (g : Nat) : decide (sgn g = "+") = decide (g = 0) := by
  match g with
  | 0 => decide +kernel
  | 1 => decide +kernel
  | n + 2 => exact (by decide +kernel : decide (("*" : Str) = "+") = false).trans (decide_eq_false (by omega)).symm
theorem sg1 (g : Nat) : decide (sgn g = "-") = decide (g = 1) := by
  match g with
  | 0 => decide +kernel
  | 1 => decide +kernel
  | n + 2 => exact (by decide +kernel : decide (("*" : Str) = "-") = false).trans (decide_eq_false (by omega)).symm
theorem worth_ok (kvs : List (D × D)) : ∀ (t : Va) (n : Nat), t.dep < n → t.ok kvs → t.dep ≤ 8 → gRec G__law_condition "_law_worth" 10000 4 2 b__law_worth n [t.d, .dict kvs] = .ok (false, .int (t.val kvs))
  | t, 0, h, _, _ => absurd h (by omega)
  | .nm s, n + 1, _, h, _ => by
    refine def_is rfl (s_if (t := false) (by simp -implicitDefEqProofs [Va.d, isT]) (fun z => by cases z) fun _ => s_if (t := true) (by simp -implicitDefEqProofs [Va.d, isT]) (fun _ => ?_) fun z => by cases z)
    simp -implicitDefEqProofs only [List.cons_append, List.nil_append]
    rw [ss_cons]
    simp -implicitDefEqProofs [Va.d, dix_at h.1, Va.val]
  | .num i, n + 1, _, h, _ => by
    refine def_is rfl (s_if (t := true) (by simp -implicitDefEqProofs [Va.d, isT]) (fun _ => ?_) fun z => by cases z)
    simp -implicitDefEqProofs only [List.cons_append, List.nil_append]
    rw [ss_cons]
    simp -implicitDefEqProofs [Va.d, Va.val]
  | .nd g a b, n + 1, hn, h, hd => by
    have da : a.dep < n ∧ a.dep ≤ 8 := by
      have : max a.dep b.dep + 1 < n + 1 := hn
      have : max a.dep b.dep + 1 ≤ 8 := hd
      omega
    have db : b.dep < n ∧ b.dep ≤ 8 := by
      have : max a.dep b.dep + 1 < n + 1 := hn
      have : max a.dep b.dep + 1 ≤ 8 := hd
      omega
    have ea := worth_ok kvs a n da.1 h.1 da.2
    have eb := worth_ok kvs b n db.1 h.2 db.2
    refine def_is rfl (s_if (t := false) (by simp -implicitDefEqProofs [Va.d, isT]) (fun z => by cases z) fun _ => s_if (t := false) (by simp -implicitDefEqProofs [Va.d, isT]) (fun z => by cases z) fun _ => ?_)
    simp -implicitDefEqProofs only [List.nil_append]
    rw [ss_cons]; simp -implicitDefEqProofs [frz_cons, Va.d, ea]
    rw [ss_cons]; simp -implicitDefEqProofs [frz_cons, eb]
    refine s_if (t := decide (g = 0)) (by simp -implicitDefEqProofs; exact decide_eq_decide.mp (sg0 g)) (fun c => ?_) fun c => s_if (t := decide (g = 1)) (by simp -implicitDefEqProofs; exact decide_eq_decide.mp (sg1 g)) (fun c1 => ?_) fun c1 => ?_
    · obtain rfl : g = 0 := of_decide_eq_true c
      simp -implicitDefEqProofs only [List.cons_append, List.nil_append]
      rw [ss_cons]; simp -implicitDefEqProofs [Va.val, ari]
    · obtain rfl : g = 1 := of_decide_eq_true c1
      simp -implicitDefEqProofs only [List.cons_append, List.nil_append]
      rw [ss_cons]; simp -implicitDefEqProofs [Va.val, ari]
    · have c : g ≠ 0 := of_decide_eq_false c
      have c1 : g ≠ 1 := of_decide_eq_false c1
      have em : ari g (a.val kvs) (b.val kvs) = a.val kvs * b.val kvs := by
        match g, c, c1 with
        | 0, c, _ => exact absurd rfl c
        | 1, _, c => exact absurd rfl c
        | n + 2, _, _ => rfl
      simp -implicitDefEqProofs only [List.nil_append]
      rw [ss_cons]; simp -implicitDefEqProofs [Va.val, em, mul_big (big h.1 da.2) (big h.2 db.2)]
theorem value_ok (kvs : List (D × D)) : ∀ (t : Va) (n : Nat), t.dep < n → t.ok kvs → t.dep ≤ 8 → gRec Gam.none "value_of" 10000 7 2 b_value_of n [t.d, .dict kvs] = .ok (false, .int (t.val kvs))
  | t, 0, h, _, _ => absurd h (by omega)
  | .nm s, n + 1, _, h, _ => by
    refine def_is rfl (s_if (t := true) (by simp -implicitDefEqProofs [Va.d, isT]) (fun _ => ?_) fun z => by cases z)
    simp -implicitDefEqProofs only [List.cons_append, List.nil_append]
    rw [ss_cons]
    simp -implicitDefEqProofs [Va.d, dix_at h.1, Va.val]
  | .num i, n + 1, _, h, _ => by
    refine def_is rfl (s_if (t := false) (by simp -implicitDefEqProofs [Va.d, isT]) (fun z => by cases z) fun _ => s_if (t := true) (by simp -implicitDefEqProofs [Va.d, isT]) (fun _ => ?_) fun z => by cases z)
    simp -implicitDefEqProofs only [List.cons_append, List.nil_append]
    rw [ss_cons]
    simp -implicitDefEqProofs [Va.d, Va.val]
  | .nd g a b, n + 1, hn, h, hd => by
    have da : a.dep < n ∧ a.dep ≤ 8 := by
      have : max a.dep b.dep + 1 < n + 1 := hn
      have : max a.dep b.dep + 1 ≤ 8 := hd
      omega
    have db : b.dep < n ∧ b.dep ≤ 8 := by
      have : max a.dep b.dep + 1 < n + 1 := hn
      have : max a.dep b.dep + 1 ≤ 8 := hd
      omega
    have ea := value_ok kvs a n da.1 h.1 da.2
    have eb := value_ok kvs b n db.1 h.2 db.2
    refine def_is rfl (s_if (t := false) (by simp -implicitDefEqProofs [Va.d, isT]) (fun z => by cases z) fun _ => s_if (t := false) (by simp -implicitDefEqProofs [Va.d, isT]) (fun z => by cases z) fun _ => ?_)
    simp -implicitDefEqProofs only [List.nil_append]
    rw [ss_cons]; simp -implicitDefEqProofs [frz_cons, Va.d]
    rw [ss_cons]; simp -implicitDefEqProofs [frz_cons, ea]
    rw [ss_cons]; simp -implicitDefEqProofs [frz_cons, eb]
    refine s_if (t := decide (g = 0)) (by simp -implicitDefEqProofs; exact decide_eq_decide.mp (sg0 g)) (fun c => ?_) fun c => s_if (t := decide (g = 1)) (by simp -implicitDefEqProofs; exact decide_eq_decide.mp (sg1 g)) (fun c1 => ?_) fun c1 => ?_
    · obtain rfl : g = 0 := of_decide_eq_true c
      simp -implicitDefEqProofs only [List.cons_append, List.nil_append]
      rw [ss_cons]; simp -implicitDefEqProofs [Va.val, ari]
    · obtain rfl : g = 1 := of_decide_eq_true c1
      simp -implicitDefEqProofs only [List.cons_append, List.nil_append]
      rw [ss_cons]; simp -implicitDefEqProofs [Va.val, ari]
    · have c : g ≠ 0 := of_decide_eq_false c
      have c1 : g ≠ 1 := of_decide_eq_false c1
      have em : ari g (a.val kvs) (b.val kvs) = a.val kvs * b.val kvs := by
        match g, c, c1 with
        | 0, c, _ => exact absurd rfl c
        | 1, _, c => exact absurd rfl c
        | n + 2, _, _ => rfl
      simp -implicitDefEqProofs only [List.nil_append]
      rw [ss_cons]; simp -implicitDefEqProofs [Va.val, em, mul_big (big h.1 da.2) (big h.2 db.2)]

inductive Co where | b (x : Bool) | no (c : Co) | an (x y : Co) | orr (x y : Co) | cm (g : Nat) (v w : Va)
def csg : Nat → Str | 0 => "=" | 1 => "<" | _ => "<="
def Co.d : Co → D | .b x => .bool x | .no c => .tuple [.str "not", c.d] | .an x y => .tuple [.str "and", x.d, y.d] | .orr x y => .tuple [.str "or", x.d, y.d] | .cm g v w => .tuple [.str (csg g), v.d, w.d]
def Co.dep : Co → Nat | .b _ => 0 | .no c => c.dep + 1 | .an x y => max x.dep y.dep + 1 | .orr x y => max x.dep y.dep + 1 | .cm _ _ _ => 0
def cmv : Nat → Int → Int → Bool | 0, a, b => decide (a = b) | 1, a, b => decide (a < b) | _, a, b => decide (a ≤ b)
def Co.val (kvs : List (D × D)) : Co → Bool | .b x => x | .no c => !c.val kvs | .an x y => x.val kvs && y.val kvs | .orr x y => x.val kvs || y.val kvs | .cm g v w => cmv g (v.val kvs) (w.val kvs)
def Co.ok (kvs : List (D × D)) : Co → Prop | .b _ => True | .no c => c.ok kvs | .an x y => x.ok kvs ∧ y.ok kvs | .orr x y => x.ok kvs ∧ y.ok kvs | .cm _ v w => v.ok kvs ∧ w.ok kvs ∧ v.dep ≤ 8 ∧ w.dep ≤ 8
theorem csg_ne (g : Nat) : csg g ≠ "not" ∧ csg g ≠ "and" ∧ csg g ≠ "or" := by
  match g with
  | 0 => decide +kernel
  | 1 => decide +kernel
  | n + 2 => exact (by decide +kernel : (("<=" : Str) ≠ "not" ∧ ("<=" : Str) ≠ "and" ∧ ("<=" : Str) ≠ "or"))
theorem csg0 (g : Nat) : decide (csg g = "=") = decide (g = 0) := by
  match g with
  | 0 => decide +kernel
  | 1 => decide +kernel
  | n + 2 => exact (by decide +kernel : decide (("<=" : Str) = "=") = false).trans (decide_eq_false (by omega)).symm
theorem csg1 (g : Nat) : decide (csg g = "<") = decide (g = 1) := by
  match g with
  | 0 => decide +kernel
  | 1 => decide +kernel
  | n + 2 => exact (by decide +kernel : decide (("<=" : Str) = "<") = false).trans (decide_eq_false (by omega)).symm
theorem holds_ok (kvs : List (D × D)) : ∀ (t : Co) (n : Nat), t.dep < n → t.ok kvs → gRec G_value_of "holds" 10000 4 2 b_holds n [t.d, .dict kvs] = .ok (false, .bool (t.val kvs))
  | t, 0, h, _ => absurd h (by omega)
  | .b x, n + 1, _, h => by
    refine def_is rfl (s_if (t := true) (by simp -implicitDefEqProofs [Co.d, isT]) (fun _ => ?_) fun z => by cases z)
    simp -implicitDefEqProofs only [List.cons_append, List.nil_append]
    rw [ss_cons]
    simp -implicitDefEqProofs [Co.d, Co.val]
  | .no c, n + 1, hn, h => by
    have ea := holds_ok kvs c n (by have : c.dep + 1 < n + 1 := hn; omega) h
    refine def_is rfl (s_if (t := false) (by simp -implicitDefEqProofs [Co.d, isT]) (fun z => by cases z) fun _ => s_if (t := true) (by simp -implicitDefEqProofs [Co.d]) (fun _ => ?_) fun z => by cases z)
    simp -implicitDefEqProofs only [List.cons_append, List.nil_append]
    rw [ss_cons]
    simp -implicitDefEqProofs [Co.d, Co.val, ea]
  | .an a b, n + 1, hn, h => by
    have hn : max a.dep b.dep + 1 < n + 1 := hn
    have ea := holds_ok kvs a n (by omega) h.1
    have eb := holds_ok kvs b n (by omega) h.2
    refine def_is rfl (s_if (t := false) (by simp -implicitDefEqProofs [Co.d, isT]) (fun z => by cases z) fun _ => s_if (t := false) (by simp -implicitDefEqProofs [Co.d]; decide +kernel) (fun z => by cases z) fun _ => s_if (t := true) (by simp -implicitDefEqProofs [Co.d]) (fun _ => ?_) fun z => by cases z)
    simp -implicitDefEqProofs only [List.cons_append, List.nil_append]
    rw [ss_cons]
    simp -implicitDefEqProofs [Co.d, Co.val, ea, eb]
    cases a.val kvs <;> simp -implicitDefEqProofs
  | .orr a b, n + 1, hn, h => by
    have hn : max a.dep b.dep + 1 < n + 1 := hn
    have ea := holds_ok kvs a n (by omega) h.1
    have eb := holds_ok kvs b n (by omega) h.2
    refine def_is rfl (s_if (t := false) (by simp -implicitDefEqProofs [Co.d, isT]) (fun z => by cases z) fun _ => s_if (t := false) (by simp -implicitDefEqProofs [Co.d]; decide +kernel) (fun z => by cases z) fun _ => s_if (t := false) (by simp -implicitDefEqProofs [Co.d]; decide +kernel) (fun z => by cases z) fun _ => s_if (t := true) (by simp -implicitDefEqProofs [Co.d]) (fun _ => ?_) fun z => by cases z)
    simp -implicitDefEqProofs only [List.cons_append, List.nil_append]
    rw [ss_cons]
    simp -implicitDefEqProofs [Co.d, Co.val, ea, eb]
    cases a.val kvs <;> simp -implicitDefEqProofs
  | .cm g v w, n + 1, _, h => by
    obtain ⟨h1, h2, h3, h4⟩ := h
    have ea : g_value_of [v.d, .dict kvs] = .ok (false, .int (v.val kvs)) := value_ok kvs v 12 (by omega) h1 h3
    have eb : g_value_of [w.d, .dict kvs] = .ok (false, .int (w.val kvs)) := value_ok kvs w 12 (by omega) h2 h4
    have lk : ∀ g, (Gam.add G_value_of "holds" g) "value_of" = some g_value_of := fun g => rfl
    refine def_is rfl (s_if (t := false) (by simp -implicitDefEqProofs [Co.d, isT]) (fun z => by cases z) fun _ => s_if (t := false) (by simp -implicitDefEqProofs [Co.d]; exact (csg_ne g).1) (fun z => by cases z) fun _ => s_if (t := false) (by simp -implicitDefEqProofs [Co.d]; exact (csg_ne g).2.1) (fun z => by cases z) fun _ => s_if (t := false) (by simp -implicitDefEqProofs [Co.d]; exact (csg_ne g).2.2) (fun z => by cases z) fun _ => ?_)
    simp -implicitDefEqProofs only [List.nil_append]
    rw [ss_cons]; simp -implicitDefEqProofs [frz_cons, Co.d, lk, ea]
    rw [ss_cons]; simp -implicitDefEqProofs [frz_cons, lk, eb]
    refine s_if (t := decide (g = 0)) (by simp -implicitDefEqProofs; exact decide_eq_decide.mp (csg0 g)) (fun c => ?_) fun c => s_if (t := decide (g = 1)) (by simp -implicitDefEqProofs; exact decide_eq_decide.mp (csg1 g)) (fun c1 => ?_) fun c1 => ?_
    · obtain rfl : g = 0 := of_decide_eq_true c
      simp -implicitDefEqProofs only [List.cons_append, List.nil_append]
      rw [ss_cons]; simp -implicitDefEqProofs [Co.val, cmv]
    · obtain rfl : g = 1 := of_decide_eq_true c1
      simp -implicitDefEqProofs only [List.cons_append, List.nil_append]
      rw [ss_cons]; simp -implicitDefEqProofs [Co.val, cmv]
    · have c : g ≠ 0 := of_decide_eq_false c
      have c1 : g ≠ 1 := of_decide_eq_false c1
      have em : cmv g (v.val kvs) (w.val kvs) = decide (v.val kvs ≤ w.val kvs) := by
        match g, c, c1 with
        | 0, c, _ => exact absurd rfl c
        | 1, _, c => exact absurd rfl c
        | n + 2, _, _ => rfl
      simp -implicitDefEqProofs only [List.nil_append]
      rw [ss_cons]; simp -implicitDefEqProofs [Co.val, em]
theorem lholds_ok (kvs : List (D × D)) : ∀ (t : Co) (n : Nat), t.dep < n → t.ok kvs → gRec G__law_worth "_law_holds" 10000 4 2 b__law_holds n [t.d, .dict kvs] = .ok (false, .bool (t.val kvs))
  | t, 0, h, _ => absurd h (by omega)
  | .b x, n + 1, _, h => by
    refine def_is rfl (s_if (t := true) (by simp -implicitDefEqProofs [Co.d, isT]) (fun _ => ?_) fun z => by cases z)
    simp -implicitDefEqProofs only [List.cons_append, List.nil_append]
    rw [ss_cons]
    simp -implicitDefEqProofs [Co.d, Co.val]
  | .no c, n + 1, hn, h => by
    have ea := lholds_ok kvs c n (by have : c.dep + 1 < n + 1 := hn; omega) h
    refine def_is rfl (s_if (t := false) (by simp -implicitDefEqProofs [Co.d, isT]) (fun z => by cases z) fun _ => s_if (t := true) (by simp -implicitDefEqProofs [Co.d]) (fun _ => ?_) fun z => by cases z)
    simp -implicitDefEqProofs only [List.cons_append, List.nil_append]
    rw [ss_cons]
    simp -implicitDefEqProofs [Co.d, Co.val, ea]
  | .an a b, n + 1, hn, h => by
    have hn : max a.dep b.dep + 1 < n + 1 := hn
    have ea := lholds_ok kvs a n (by omega) h.1
    have eb := lholds_ok kvs b n (by omega) h.2
    refine def_is rfl (s_if (t := false) (by simp -implicitDefEqProofs [Co.d, isT]) (fun z => by cases z) fun _ => s_if (t := false) (by simp -implicitDefEqProofs [Co.d]; decide +kernel) (fun z => by cases z) fun _ => s_if (t := true) (by simp -implicitDefEqProofs [Co.d]) (fun _ => ?_) fun z => by cases z)
    simp -implicitDefEqProofs only [List.cons_append, List.nil_append]
    rw [ss_cons]
    simp -implicitDefEqProofs [Co.d, Co.val, ea, eb]
    cases a.val kvs <;> simp -implicitDefEqProofs
  | .orr a b, n + 1, hn, h => by
    have hn : max a.dep b.dep + 1 < n + 1 := hn
    have ea := lholds_ok kvs a n (by omega) h.1
    have eb := lholds_ok kvs b n (by omega) h.2
    refine def_is rfl (s_if (t := false) (by simp -implicitDefEqProofs [Co.d, isT]) (fun z => by cases z) fun _ => s_if (t := false) (by simp -implicitDefEqProofs [Co.d]; decide +kernel) (fun z => by cases z) fun _ => s_if (t := false) (by simp -implicitDefEqProofs [Co.d]; decide +kernel) (fun z => by cases z) fun _ => s_if (t := true) (by simp -implicitDefEqProofs [Co.d]) (fun _ => ?_) fun z => by cases z)
    simp -implicitDefEqProofs only [List.cons_append, List.nil_append]
    rw [ss_cons]
    simp -implicitDefEqProofs [Co.d, Co.val, ea, eb]
    cases a.val kvs <;> simp -implicitDefEqProofs
  | .cm g v w, n + 1, _, h => by
    obtain ⟨h1, h2, h3, h4⟩ := h
    have ea : g__law_worth [v.d, .dict kvs] = .ok (false, .int (v.val kvs)) := worth_ok kvs v 12 (by omega) h1 h3
    have eb : g__law_worth [w.d, .dict kvs] = .ok (false, .int (w.val kvs)) := worth_ok kvs w 12 (by omega) h2 h4
    have lk : ∀ g, (Gam.add G__law_worth "_law_holds" g) "_law_worth" = some g__law_worth := fun g => rfl
    refine def_is rfl (s_if (t := false) (by simp -implicitDefEqProofs [Co.d, isT]) (fun z => by cases z) fun _ => s_if (t := false) (by simp -implicitDefEqProofs [Co.d]; exact (csg_ne g).1) (fun z => by cases z) fun _ => s_if (t := false) (by simp -implicitDefEqProofs [Co.d]; exact (csg_ne g).2.1) (fun z => by cases z) fun _ => s_if (t := false) (by simp -implicitDefEqProofs [Co.d]; exact (csg_ne g).2.2) (fun z => by cases z) fun _ => ?_)
    simp -implicitDefEqProofs only [List.nil_append]
    rw [ss_cons]; simp -implicitDefEqProofs [frz_cons, Co.d, lk, ea]
    rw [ss_cons]; simp -implicitDefEqProofs [frz_cons, lk, eb]
    refine s_if (t := decide (g = 0)) (by simp -implicitDefEqProofs; exact decide_eq_decide.mp (csg0 g)) (fun c => ?_) fun c => s_if (t := decide (g = 1)) (by simp -implicitDefEqProofs; exact decide_eq_decide.mp (csg1 g)) (fun c1 => ?_) fun c1 => ?_
    · obtain rfl : g = 0 := of_decide_eq_true c
      simp -implicitDefEqProofs only [List.cons_append, List.nil_append]
      rw [ss_cons]; simp -implicitDefEqProofs [Co.val, cmv]
    · obtain rfl : g = 1 := of_decide_eq_true c1
      simp -implicitDefEqProofs only [List.cons_append, List.nil_append]
      rw [ss_cons]; simp -implicitDefEqProofs [Co.val, cmv]
    · have c : g ≠ 0 := of_decide_eq_false c
      have c1 : g ≠ 1 := of_decide_eq_false c1
      have em : cmv g (v.val kvs) (w.val kvs) = decide (v.val kvs ≤ w.val kvs) := by
        match g, c, c1 with
        | 0, c, _ => exact absurd rfl c
        | 1, _, c => exact absurd rfl c
        | n + 2, _, _ => rfl
      simp -implicitDefEqProofs only [List.nil_append]
      rw [ss_cons]; simp -implicitDefEqProofs [Co.val, em]


def Va.inn (ss : List Str) : Va → Prop | .nm s => s ∈ ss | .num i => i.natAbs ≤ 100 | .nd _ a b => a.inn ss ∧ b.inn ss
def Co.inn (ss : List Str) : Co → Prop | .b _ => True | .no c => c.inn ss | .an x y => x.inn ss ∧ y.inn ss | .orr x y => x.inn ss ∧ y.inn ss | .cm _ v w => v.inn ss ∧ w.inn ss ∧ v.dep ≤ 8 ∧ w.dep ≤ 8
theorem pow9 : evBin .pow (.sh, .int 10) (.sh, .int 9) = .ok (.sh, .int 1000000000) := by
  rw [pow_int (by decide +kernel)]
  rfl
theorem gs3 : ∀ n : Nat, n < 3 → gs ["+", "-", "*"] n = sgn n := by decide +kernel
theorem band_ok {s t : Tag} {i j : Int} : evBin .band (s, .int i) (t, .int j) = .ok (.sh, .int (Builtin.bitAnd i j)) := rfl
theorem value_gen (ss : List Str) (h0 : 0 < ss.length) (hl : ss.length ≤ 1000) : ∀ (n : Nat) (c d : Int), 0 ≤ d → d < n → ∃ t : Va, (t.dep : Int) ≤ d ∧ t.inn ss ∧ gRec G__law_names "_law_value" 10000 5 3 b__law_value n [.int c, sl ss, .int d] = .ok (false, t.d)
  | 0, c, d, h1, h2 => absurd h2 (by omega)
  | n + 1, c, d, h1, h2 => by
    suffices hh : ∃ o e, gRec G__law_names "_law_value" 10000 5 3 b__law_value (n + 1) [.int c, sl ss, .int d] = .ok (o, e) ∧ o = false ∧ ∃ t : Va, e = t.d ∧ (t.dep : Int) ≤ d ∧ t.inn ss by
      obtain ⟨_, _, e, rfl, t, rfl, q1, q2⟩ := hh
      exact ⟨t, q1, q2, e⟩
    refine def_ret rfl ?_
    unfold b__law_value
    obtain ⟨L, lL, bL, eL⟩ := draws_ok c [6, 199, 60, 3, 1000000000, 1000000000] (by decide) (by decide)
    have lL : L.length = 6 := lL
    have b0 : 0 ≤ gi L 0 ∧ gi L 0 < 6 := bL 0 (by decide)
    have b1 : 0 ≤ gi L 1 ∧ gi L 1 < 199 := bL 1 (by decide)
    have b2 : 0 ≤ gi L 2 ∧ gi L 2 < 60 := bL 2 (by decide)
    have b3 : 0 ≤ gi L 3 ∧ gi L 3 < 3 := bL 3 (by decide)
    simp only [il, List.map_cons, List.map_nil] at eL
    have lk : ∀ g, (Gam.add G__law_names "_law_value" g) "_law_draws" = some g__law_draws := fun g => rfl
    rw [ss_cons]; simp -implicitDefEqProofs [pow9, frz_cons, lk, eL]
    refine s_if (t := decide (0 < d) && decide (3 < gi L 0)) (by by_cases q : 0 < d <;> by_cases q2 : 3 < gi L 0 <;> simp -implicitDefEqProofs (disch := omega) [q, q2, ixi]) (fun c1 => ?_) fun _ => ?_
    · simp only [Bool.and_eq_true, decide_eq_true_eq] at c1
      obtain ⟨ta, a1, a2, a3⟩ := value_gen ss h0 hl n (gi L 4) (d - 1) (by omega) (by omega)
      obtain ⟨tb, b1', b2', b3'⟩ := value_gen ss h0 hl n (gi L 5) (d - 1) (by omega) (by omega)
      unfold b__law_value at a3 b3'
      have e3 : evIx (.ow, .list [.str "+", .str "-", .str "*"]) (.int (gi L 3)) = .ok (.sh, .str (sgn (gi L 3).toNat)) := by
        rw [← gs3 _ (by omega)]
        exact ixz (ns := ["+", "-", "*"]) b3.1 b3.2
      simp -implicitDefEqProofs only [List.cons_append, List.nil_append]
      rw [ss_cons]; simp -implicitDefEqProofs (disch := omega) [ixi, e3]
      rw [ss_cons]; simp -implicitDefEqProofs (disch := omega) [frz_cons, ixi, a3, b3']
      refine ⟨.nd (gi L 3).toNat ta tb, rfl, ?_, a2, b2'⟩
      show ((max ta.dep tb.dep + 1 : Nat) : Int) ≤ d
      omega
    simp -implicitDefEqProofs only [List.nil_append]
    refine s_if (t := decide (0 < (ss.length : Int)) && decide (Builtin.bitAnd (gi L 0) 1 = 1)) (by
      by_cases q2 : Builtin.bitAnd (gi L 0) 1 = 1 <;> simp -implicitDefEqProofs (disch := omega) [q2, ixi, band_ok] <;> (have := h0; simp_all)) (fun _ => ?_) fun _ => ?_
    · simp -implicitDefEqProofs only [List.cons_append, List.nil_append]
      have m1 : 0 ≤ gi L 2 % (ss.length : Int) ∧ gi L 2 % (ss.length : Int) < ss.length := ⟨Int.emod_nonneg _ (by omega), Int.emod_lt_of_pos _ (by omega)⟩
      rw [ss_cons]; simp -implicitDefEqProofs (disch := omega) [ixi, mod_int, ixz]
      refine ⟨.nm _, rfl, h1, gs_mem (by omega)⟩
    simp -implicitDefEqProofs only [List.nil_append]
    refine s_if (t := decide (gi L 0 = 0)) (by simp -implicitDefEqProofs (disch := omega) [ixi]) (fun _ => ?_) fun _ => ?_
    · simp -implicitDefEqProofs only [List.cons_append, List.nil_append]
      rw [ss_cons]; simp -implicitDefEqProofs (disch := omega) [ixi]
      exact ⟨.num _, rfl, h1, by show (gi L 1 - 99).natAbs ≤ 100; omega⟩
    · simp -implicitDefEqProofs only [List.nil_append]
      rw [ss_cons]; simp -implicitDefEqProofs (disch := omega) [ixi, mod_int]
      exact ⟨.num _, rfl, h1, by show (gi L 1 % 7 - 2).natAbs ≤ 100; omega⟩
theorem gs2 : ∀ n : Nat, n < 2 → gs ["and", "or"] n = if n = 0 then "and" else "or" := by decide +kernel
theorem gsc : ∀ n : Nat, n < 3 → gs ["=", "<", "<="] n = csg n := by decide +kernel
theorem cond_gen (ss : List Str) (h0 : 0 < ss.length) (hl : ss.length ≤ 1000) : ∀ (n : Nat) (c d : Int), 0 ≤ d → d < n → ∃ t : Co, (t.dep : Int) ≤ d ∧ t.inn ss ∧ gRec G__law_value "_law_condition" 10000 5 3 b__law_condition n [.int c, sl ss, .int d] = .ok (false, t.d)
  | 0, c, d, h1, h2 => absurd h2 (by omega)
  | n + 1, c, d, h1, h2 => by
    suffices hh : ∃ o e, gRec G__law_value "_law_condition" 10000 5 3 b__law_condition (n + 1) [.int c, sl ss, .int d] = .ok (o, e) ∧ o = false ∧ ∃ t : Co, e = t.d ∧ (t.dep : Int) ≤ d ∧ t.inn ss by
      obtain ⟨_, _, e, rfl, t, rfl, q1, q2⟩ := hh
      exact ⟨t, q1, q2, e⟩
    refine def_ret rfl ?_
    unfold b__law_condition
    obtain ⟨L, lL, bL, eL⟩ := draws_ok c [9, 3, 1000000000, 1000000000] (by decide) (by decide)
    have lL : L.length = 4 := lL
    have b0 : 0 ≤ gi L 0 ∧ gi L 0 < 9 := bL 0 (by decide)
    have b1 : 0 ≤ gi L 1 ∧ gi L 1 < 3 := bL 1 (by decide)
    simp only [il, List.map_cons, List.map_nil] at eL
    have lk : ∀ g, (Gam.add G__law_value "_law_condition" g) "_law_draws" = some g__law_draws := fun g => rfl
    have lk2 : ∀ g, (Gam.add G__law_value "_law_condition" g) "_law_value" = some g__law_value := fun g => rfl
    rw [ss_cons]; simp -implicitDefEqProofs [pow9, frz_cons, lk, eL]
    refine s_if (t := decide (gi L 0 < 2)) (by simp -implicitDefEqProofs (disch := omega) [ixi]) (fun _ => ?_) fun c0 => ?_
    · simp -implicitDefEqProofs only [List.cons_append, List.nil_append]
      rw [ss_cons]; simp -implicitDefEqProofs (disch := omega) [ixi]
      exact ⟨.b _, rfl, h1, trivial⟩
    have c0 : ¬ gi L 0 < 2 := of_decide_eq_false c0
    simp -implicitDefEqProofs only [List.nil_append]
    refine s_if (t := decide (0 < d) && decide (gi L 0 = 2)) (by by_cases q : 0 < d <;> by_cases q2 : gi L 0 = 2 <;> simp -implicitDefEqProofs (disch := omega) [q, q2, ixi]) (fun c1 => ?_) fun c2 => ?_
    · simp only [Bool.and_eq_true, decide_eq_true_eq] at c1
      obtain ⟨ta, a1, a2, a3⟩ := cond_gen ss h0 hl n (gi L 2) (d - 1) (by omega) (by omega)
      unfold b__law_condition at a3
      simp -implicitDefEqProofs only [List.cons_append, List.nil_append]
      rw [ss_cons]; simp -implicitDefEqProofs (disch := omega) [frz_cons, ixi, a3]
      refine ⟨.no ta, rfl, ?_, a2⟩
      show ((ta.dep + 1 : Nat) : Int) ≤ d
      omega
    simp -implicitDefEqProofs only [List.nil_append]
    refine s_if (t := decide (0 < d) && decide (gi L 0 < 5)) (by by_cases q : 0 < d <;> by_cases q2 : gi L 0 < 5 <;> simp -implicitDefEqProofs (disch := omega) [q, q2, ixi]) (fun c1 => ?_) fun _ => ?_
    · simp only [Bool.and_eq_true, decide_eq_true_eq] at c1
      have c3 : gi L 0 ≠ 2 := fun z => by rw [decide_eq_true c1.1, decide_eq_true z] at c2; cases c2
      obtain ⟨ta, a1, a2, a3⟩ := cond_gen ss h0 hl n (gi L 2) (d - 1) (by omega) (by omega)
      obtain ⟨tb, b1', b2', b3'⟩ := cond_gen ss h0 hl n (gi L 3) (d - 1) (by omega) (by omega)
      unfold b__law_condition at a3 b3'
      have e3 : evIx (.ow, .list [.str "and", .str "or"]) (.int (gi L 0 - 3)) = .ok (.sh, .str (gs ["and", "or"] (gi L 0 - 3).toNat)) := ixz (ns := ["and", "or"]) (by omega) (by show gi L 0 - 3 < 2; omega)
      have d1 : ((max ta.dep tb.dep + 1 : Nat) : Int) ≤ d := by omega
      simp -implicitDefEqProofs only [List.cons_append, List.nil_append]
      rw [ss_cons]; simp -implicitDefEqProofs (disch := omega) [ixi, e3]
      rw [ss_cons]; simp -implicitDefEqProofs (disch := omega) [frz_cons, ixi, a3, b3']
      rw [gs2 _ (by omega)]
      by_cases q : gi L 0 - 3 = 0
      · exact ⟨.an ta tb, by rw [q]; rfl, d1, a2, b2'⟩
      · exact ⟨.orr ta tb, by rw [if_neg (by omega)]; rfl, d1, a2, b2'⟩
    simp -implicitDefEqProofs only [List.nil_append]
    obtain ⟨va, a1, a2, a3⟩ := value_gen ss h0 hl 12 (gi L 2) 1 (by omega) (by omega)
    obtain ⟨vb, b1', b2', b3'⟩ := value_gen ss h0 hl 12 (gi L 3) 1 (by omega) (by omega)
    have a3 : g__law_value [.int (gi L 2), sl ss, .int 1] = .ok (false, va.d) := a3
    have b3' : g__law_value [.int (gi L 3), sl ss, .int 1] = .ok (false, vb.d) := b3'
    have e3 : evIx (.ow, .list [.str "=", .str "<", .str "<="]) (.int (gi L 1)) = .ok (.sh, .str (csg (gi L 1).toNat)) := by
      rw [← gsc _ (by omega)]
      exact ixz (ns := ["=", "<", "<="]) b1.1 b1.2
    rw [ss_cons]; simp -implicitDefEqProofs (disch := omega) [frz_cons, ixi, e3, lk2, a3, b3']
    exact ⟨.cm (gi L 1).toNat va vb, rfl, h1, a2, b2', by omega, by omega⟩

/-! the names' values -/
def dl (l : List (Str × Int)) : List (D × D) := l.map fun p => (.str p.1, .int p.2)
def putL (l : List (Str × Int)) (s : Str) (v : Int) : List (Str × Int) := if (l.any fun p => decide (p.1 = s)) = true then l.map (fun p => if p.1 = s then (p.1, v) else p) else l ++ [(s, v)]
theorem key_eq (a b : Str) : (dkey (.str a) = some (Sum.inr b)) ↔ a = b := by
  constructor
  · intro h; cases h; rfl
  · rintro rfl; rfl
theorem put_dl (l : List (Str × Int)) (s : Str) (v : Int) : dPutK (dl l) (Sum.inr s) (.int v) = dl (putL l s v) := by
  have h1 : ((dl l).any fun kv => decide (dkey kv.1 = some (Sum.inr s))) = l.any fun p => decide (p.1 = s) := by
    unfold dl
    rw [List.any_map]
    congr 1
    funext p
    exact decide_eq_decide.mpr (key_eq p.1 s)
  unfold dPutK putL
  rw [h1]
  split
  · unfold dl
    rw [List.map_map, List.map_map]
    congr 1
    funext p
    show (if dkey (.str p.1) = some (Sum.inr s) then (PyData.str p.1, PyData.int v) else (PyData.str p.1, PyData.int p.2)) = _
    by_cases c : p.1 = s
    · rw [if_pos ((key_eq p.1 s).mpr c)]
      show _ = (PyData.str (if p.1 = s then (p.1, v) else p).1, PyData.int (if p.1 = s then (p.1, v) else p).2)
      rw [if_pos c]
    · rw [if_neg fun z => c ((key_eq p.1 s).mp z)]
      show _ = (PyData.str (if p.1 = s then (p.1, v) else p).1, PyData.int (if p.1 = s then (p.1, v) else p).2)
      rw [if_neg c]
  · unfold dl
    rw [List.map_append]
    rfl
structure Well (l : List (Str × Int)) : Prop where
  nd : (l.map (·.1)).Nodup
  le : ∀ p ∈ l, p.2.natAbs ≤ 100
theorem putL_keys (l : List (Str × Int)) (s : Str) (v : Int) : (putL l s v).map (·.1) = if s ∈ l.map (·.1) then l.map (·.1) else l.map (·.1) ++ [s] := by
  unfold putL
  have e : (l.any fun p => decide (p.1 = s)) = decide (s ∈ l.map (·.1)) := by
    rw [Bool.eq_iff_iff]
    simp [List.any_eq_true]
  rw [e]
  by_cases c : s ∈ l.map (·.1)
  · rw [decide_eq_true c, if_pos rfl, if_pos c, List.map_map]
    congr 1
    funext p
    show (if p.1 = s then (p.1, v) else p).1 = p.1
    split <;> rfl
  · rw [decide_eq_false c, if_neg Bool.false_ne_true, if_neg c, List.map_append]
    rfl
theorem Well.put {l : List (Str × Int)} (h : Well l) (s : Str) {v : Int} (hv : v.natAbs ≤ 100) : Well (putL l s v) := by
  refine ⟨?_, fun p hp => ?_⟩
  · rw [putL_keys]
    split
    · exact h.nd
    · rename_i c
      rw [List.nodup_append]
      refine ⟨h.nd, by simp, fun a ha b hb => ?_⟩
      rw [List.mem_singleton.mp hb]
      exact fun z => c (z ▸ ha)
  · unfold putL at hp
    split at hp
    · obtain ⟨q, hq, rfl⟩ := List.mem_map.mp hp
      split
      · exact hv
      · exact h.le q hq
    · rcases List.mem_append.mp hp with hp | hp
      · exact h.le p hp
      · rw [List.mem_singleton.mp hp]; exact hv
theorem putL_len (l : List (Str × Int)) (s : Str) (v : Int) : (putL l s v).length ≤ l.length + 1 := by
  unfold putL
  split
  · rw [List.length_map]; omega
  · rw [List.length_append]; exact Nat.le_refl _
theorem look_ok {l : List (Str × Int)} (h : ∀ p ∈ l, p.2.natAbs ≤ 100) {s : Str} (hs : s ∈ l.map (·.1)) : dGetK (dl l) (Sum.inr s) = some (.int (look (dl l) s)) ∧ (look (dl l) s).natAbs ≤ 100 := by
  have key : ∃ i : Int, dGetK (dl l) (Sum.inr s) = some (.int i) ∧ i.natAbs ≤ 100 := by
    induction l with
    | nil => cases hs
    | cons p r ih =>
      have e : dGetK (dl (p :: r)) (Sum.inr s) = if p.1 = s then some (.int p.2) else dGetK (dl r) (Sum.inr s) := by
        unfold dGetK dl
        rw [List.map_cons, List.find?_cons]
        by_cases c : p.1 = s
        · rw [if_pos c]
          show Option.map _ (match decide (dkey (.str p.1) = some (Sum.inr s)) with | true => _ | false => _) = _
          rw [decide_eq_true ((key_eq p.1 s).mpr c)]
          rfl
        · rw [if_neg c]
          show Option.map _ (match decide (dkey (.str p.1) = some (Sum.inr s)) with | true => _ | false => _) = _
          rw [decide_eq_false fun z => c ((key_eq p.1 s).mp z)]
      rw [e]
      by_cases c : p.1 = s
      · rw [if_pos c]; exact ⟨_, rfl, h p List.mem_cons_self⟩
      · rw [if_neg c]
        refine ih (fun q hq => h q (List.mem_cons_of_mem _ hq)) ?_
        rw [List.map_cons] at hs
        rcases List.mem_cons.mp hs with z | z
        · exact absurd z.symm c
        · exact z
  obtain ⟨i, h1, h2⟩ := key
  have : look (dl l) s = i := by unfold look; rw [h1]
  rw [this]
  exact ⟨h1, h2⟩
theorem intKV_dl : ∀ l : List (Str × Int), intKV (dl l) = some (l.map fun p => (Sum.inr p.1, p.2))
  | [] => rfl
  | p :: r => by
    show (match dkey (.str p.1), intKV (dl r) with | some k, some l => some ((k, p.2) :: l) | _, _ => none) = _
    rw [intKV_dl r]
    rfl
theorem same_dl {l : List (Str × Int)} (h : (l.map (·.1)).Nodup) : dSame (dl l) (dl l) = true := by
  unfold dSame
  rw [intKV_dl]
  simp only [decide_true, Bool.true_and]
  refine decide_eq_true ?_
  rw [List.map_map]
  have : ((fun x : L2.Key × Int => x.1) ∘ fun p : Str × Int => ((Sum.inr p.1 : L2.Key), p.2)) = (fun s : Str => (Sum.inr s : L2.Key)) ∘ (fun p : Str × Int => p.1) := rfl
  rw [this, ← List.map_map]
  exact h.map (f := fun s : Str => (Sum.inr s : L2.Key)) fun a b hab z => hab (by cases z; rfl)
theorem ne_dl {l : List (Str × Int)} (h : (l.map (·.1)).Nodup) : evCmp .ne (.dict (dl l)) (.dict (dl l)) = .ok false := by
  show (if dSame (dl l) (dl l) then R.ok false else .stuck) = _
  rw [same_dl h]
  rfl
theorem Va.okk {l : List (Str × Int)} {ss : List Str} (h : ∀ p ∈ l, p.2.natAbs ≤ 100) (hs : ∀ s ∈ ss, s ∈ l.map (·.1)) : ∀ t : Va, t.inn ss → t.ok (dl l)
  | .nm s, q => look_ok h (hs s q)
  | .num i, q => q
  | .nd _ a b, q => ⟨Va.okk h hs a q.1, Va.okk h hs b q.2⟩
theorem Co.okk {l : List (Str × Int)} {ss : List Str} (h : ∀ p ∈ l, p.2.natAbs ≤ 100) (hs : ∀ s ∈ ss, s ∈ l.map (·.1)) : ∀ t : Co, t.inn ss → t.ok (dl l)
  | .b _, _ => trivial
  | .no c, q => Co.okk h hs c q
  | .an u w, q => ⟨Co.okk h hs u q.1, Co.okk h hs w q.2⟩
  | .orr u w, q => ⟨Co.okk h hs u q.1, Co.okk h hs w q.2⟩
  | .cm _ v w, q => ⟨Va.okk h hs v q.1, Va.okk h hs w q.2.1, q.2.2.1, q.2.2.2⟩
def aInv (ns : List Int) (L : List Int) (ss : List Str) (i : Nat) (e : PV.Env) : Prop := ∃ (l : List (Str × Int)) (z : Slot), e = [.sh (il ns), .ow (il L), .ow (sl ss), .ow (.dict (dl l)), z, .no, .no, .no, .no, .no, .no] ∧ Well l ∧ l.length ≤ i ∧ ∀ s ∈ ss.take i, s ∈ l.map (·.1)
def pick (b : Bool) (d : D) : Slot := if b then .sh d else .ow d
def bInv (ns : List Int) (L : List Int) (ss : List Str) (l : List (Str × Int)) (_ : Nat) (e : PV.Env) : Prop := ∃ (b c : Bool) (z4 z6 z7 z8 z9 z10 : Slot), e = [.sh (il ns), .ow (il L), pick b (sl ss), pick c (.dict (dl l)), z4, .ow (.dict (dl l)), z6, z7, z8, z9, z10]

theorem law_holds (ns : List Int) (h : ns.length ≤ 63) : g_law [il ns] = .ok (false, .bool true) := by
  refine def_is rfl ?_
  unfold b_law
  obtain ⟨L, lL, bL, eL⟩ := draws_ok (cell ns 0) [6, 199, 199, 199, 199, 199, 199] (by decide) (by decide)
  have lL : L.length = 7 := lL
  have b0 : 0 ≤ gi L 0 ∧ gi L 0 < 6 := bL 0 (by decide)
  have bb : ∀ k < 7, 1 ≤ k → 0 ≤ gi L k ∧ gi L k < 199 := fun k hk h1 => by
    have q := bL k hk
    have : ∀ n : Nat, n < 7 → 1 ≤ n → gi [6, 199, 199, 199, 199, 199, 199] n = 199 := by decide +kernel
    rwa [this k hk h1] at q
  simp only [il, List.map_cons, List.map_nil] at eL
  rw [ss_cons]; simp -implicitDefEqProofs (disch := first | omega | decide) [cell_ok, rep_list, cat_list, eL]
  obtain ⟨ss, l1, f1, e1⟩ := names_ok (cell ns 1) (1 + gi L 0) (by omega) (by omega)
  have n1 : 0 < ss.length := by omega
  have n2 : ss.length ≤ 6 := by omega
  rw [ss_cons]; simp -implicitDefEqProofs (disch := omega) [cell_ok, ixi, e1]
  rw [ss_cons]; simp -implicitDefEqProofs
  refine s_for (t := .sh) (ds := ranged 0 ss.length) (I := aInv ns L ss) rfl (by simp -implicitDefEqProofs (disch := omega) [small_nat]) rfl ⟨[], .no, rfl, ⟨List.nodup_nil, fun p hp => by cases hp⟩, Nat.le_refl _, fun s hs => by simp at hs⟩ ?_ ?_
  · rintro i d e hd ⟨l, z, rfl, w1, w2, w3⟩
    have hi : i < ss.length := by have := (List.getElem?_eq_some_iff.mp hd).1; rwa [ranged_len, Int.sub_zero, Int.toNat_natCast] at this
    rw [ranged_get (by omega)] at hd
    obtain rfl := Option.some.inj hd
    have bi := bb (1 + i) (by omega) (by omega)
    have hl : (dl l).length < lim := by unfold dl; rw [List.length_map]; show l.length < 16000000; omega
    have q2 : ((1 : Int) + (i : Int)).toNat = 1 + i := by omega
    refine ⟨_, by simp -implicitDefEqProofs; rfl, ?_⟩
    rw [ss_cons]; simp -implicitDefEqProofs (disch := omega) [ixi, ixz, q2, hl]
    refine ⟨putL l (gs ss i) (gi L (1 + i) - 99), _, by rw [put_dl], w1.put _ (by omega), Nat.le_trans (putL_len _ _ _) (by omega), fun s hs => ?_⟩
    rw [putL_keys]
    rw [List.take_add_one, gs_some hi] at hs
    rcases List.mem_append.mp hs with z | z
    · have := w3 s z
      split
      · exact this
      · exact List.mem_append_left _ this
    · have z : s = gs ss i := by simpa using z
      subst z
      split
      · assumption
      · exact List.mem_append_right _ List.mem_cons_self
  rintro _ ⟨l, z4, rfl, w1, _, w3⟩
  rw [ranged_len, Int.sub_zero, Int.toNat_natCast, List.take_length] at w3
  rw [ss_cons]; simp -implicitDefEqProofs
  obtain ⟨ms, em⟩ : ∃ ms : List Int, cutD (ns.map .int) (some 2) none = ms.map .int ∧ ms.length ≤ 63 := by
    unfold cutD
    refine ⟨(ns.drop (HT.sIx (ns.map PyData.int).length 0 (some 2))).take (HT.sIx (ns.map PyData.int).length (ns.map PyData.int).length none - HT.sIx (ns.map PyData.int).length 0 (some 2)), ?_, ?_⟩
    · rw [List.map_take, List.map_drop]
    · rw [List.length_take, List.length_drop]; omega
  have es : evSl (.sh, il ns) (some 2) none = .ok (.ow, il ms) := by
    show R.ok (Tag.ow, PyData.list (cutD (ns.map .int) (some 2) none)) = _
    rw [em.1]
  refine s_for (t := .ow) (ds := ((0 : Int) :: ms).map .int) (I := bInv ns L ss l) rfl (by simp -implicitDefEqProofs [es]; rw [cat_list (by simp; show 1 + ms.length ≤ 16000000; omega)]; simp -implicitDefEqProofs) rfl ⟨false, false, _, _, _, _, _, _, rfl⟩ ?_ ?_
  · rintro i d e hd ⟨b, c, z4, z6, z7, z8, z9, z10, rfl⟩
    obtain ⟨x, rfl⟩ : ∃ x : Int, d = .int x := by
      obtain ⟨x, _, rfl⟩ := List.mem_map.mp (List.mem_of_getElem? hd)
      exact ⟨x, rfl⟩
    have m6 : 0 ≤ x % 6 ∧ x % 6 < 6 := by omega
    obtain ⟨tv, v1, v2, v3⟩ := value_gen ss n1 (by omega) 12 (x / 6) (x % 6) m6.1 (by omega)
    obtain ⟨tc, c1, c2, c3⟩ := cond_gen ss n1 (by omega) 12 (x / 6 + 3) (x % 6) m6.1 (by omega)
    have v3 : g__law_value [.int (x / 6), sl ss, .int (x % 6)] = .ok (false, tv.d) := v3
    have c3 : g__law_condition [.int (x / 6 + 3), sl ss, .int (x % 6)] = .ok (false, tc.d) := c3
    have vo := tv.okk w1.le w3 v2
    have co := tc.okk w1.le w3 c2
    have ev1 : g_value_of [tv.d, .dict (dl l)] = .ok (false, .int (tv.val (dl l))) := value_ok _ tv 12 (by omega) vo (by omega)
    have ev2 : g__law_worth [tv.d, .dict (dl l)] = .ok (false, .int (tv.val (dl l))) := worth_ok _ tv 12 (by omega) vo (by omega)
    have ec1 : g_holds [tc.d, .dict (dl l)] = .ok (false, .bool (tc.val (dl l))) := holds_ok _ tc 12 (by omega) co
    have ec2 : g__law_holds [tc.d, .dict (dl l)] = .ok (false, .bool (tc.val (dl l))) := lholds_ok _ tc 12 (by omega) co
    refine ⟨_, by simp -implicitDefEqProofs; rfl, ?_⟩
    rw [ss_cons]; simp -implicitDefEqProofs (disch := omega) [mod_int]
    refine s_step (J := fun e => e = [.sh (il ns), .ow (il L), .sh (sl ss), pick c (.dict (dl l)), z4, .ow (.dict (dl l)), .sh (.int x), .sh (.int (x % 6)), .sh tv.d, z9, z10]) ?_ ?_
    · cases b <;> simp -implicitDefEqProofs (disch := omega) [frz_cons, pick, fdv_int, v3]
    rintro _ rfl
    rw [ss_cons]; simp -implicitDefEqProofs (disch := omega) [frz_cons, fdv_int, c3]
    refine s_step (J := fun e => e = [.sh (il ns), .ow (il L), .sh (sl ss), .sh (.dict (dl l)), z4, .ow (.dict (dl l)), .sh (.int x), .sh (.int (x % 6)), .sh tv.d, .sh tc.d, .sh (.int (tv.val (dl l)))]) ?_ ?_
    · cases c <;> simp -implicitDefEqProofs (disch := omega) [frz_cons, pick, ev1]
    rintro _ rfl
    refine s_if (t := false) (by simp -implicitDefEqProofs [isT, ev2, ne_dl w1.nd]) (fun z => by cases z) (fun _ => ?_)
    simp -implicitDefEqProofs only [List.nil_append]
    rw [ss_cons]; simp -implicitDefEqProofs [frz_cons, ec1]
    refine s_if (t := false) (by simp -implicitDefEqProofs [isT, ec2, ne_dl w1.nd]) (fun z => by cases z) (fun _ => ?_)
    simp -implicitDefEqProofs
    exact ⟨true, true, _, _, _, _, _, _, rfl⟩
  · rintro _ ⟨b, c, z4, z6, z7, z8, z9, z10, rfl⟩
    rw [ss_cons]; simp -implicitDefEqProofs

end K01

open PySem PySem.W PyProof.Rows
set_option maxRecDepth 100000 in
set_option maxHeartbeats 0 in
theorem PySem.Challenge.cw_legion_k01_values_and_conditions_holds : PySem.Challenge.rw_legion_k01_values_and_conditions.Holds := by
  w_on; o_law; k_head; (case hw => w_witness2)
  k_fill
  refine PV.walk_g (l := PySem.Challenge.rw_legion_k01_values_and_conditions) (n := 63) (k := 76) (x := "_law_script") (g := K01.g_law) rfl (by decide) rfl ⟨rfl, by decide, by decide⟩ (fun w h Y => PySem.W.kIn_of Y) K01.law_holds ?F
  case F =>
    intro w mg fa h KX Gl hmg
    refine' K01.all_mk KX Gl hmg ?a1 ?l1 ?c1 ?k1 ?a2 ?l2 ?c2 ?k2 ?a3 ?l3 ?c3 ?k3 ?a4 ?l4 ?c4 ?k4 ?a5 ?l5 ?c5 ?k5 ?a6 ?l6 ?c6 ?k6 ?a7 ?l7 ?c7 ?k7 ?a8 ?l8 ?c8 ?k8 ?a9 ?l9 ?c9 ?k9 ?a10 ?l10 ?c10 ?k10 ?z_abs ?z_bool ?z_dict ?z_int ?z_isinstance ?z_len ?z_min ?z_range ?z_str ?z_tuple 
    (case a1 => k_is); (case l1 => k_is); (case c1 => k_is); (case k1 => k_is)
    (case a2 => k_is); (case l2 => k_is); (case c2 => k_is); (case k2 => k_is)
    (case a3 => k_is); (case l3 => k_is); (case c3 => k_is); (case k3 => k_is)
    (case a4 => k_is); (case l4 => k_is); (case c4 => k_is); (case k4 => k_is)
    (case a5 => k_is); (case l5 => k_is); (case c5 => k_is); (case k5 => k_is)
    (case a6 => k_is); (case l6 => k_is); (case c6 => k_is); (case k6 => k_is)
    (case a7 => k_is); (case l7 => k_is); (case c7 => k_is); (case k7 => k_is)
    (case a8 => k_is); (case l8 => k_is); (case c8 => k_is); (case k8 => k_is)
    (case a9 => k_is); (case l9 => k_is); (case c9 => k_is); (case k9 => k_is)
    (case a10 => k_is); (case l10 => k_is); (case c10 => k_is); (case k10 => k_is)
    (case z_abs => k_is)
    (case z_bool => k_is)
    (case z_dict => k_is)
    (case z_int => k_is)
    (case z_isinstance => k_is)
    (case z_len => k_is)
    (case z_min => k_is)
    (case z_range => k_is)
    (case z_str => k_is)
    (case z_tuple => k_is)
