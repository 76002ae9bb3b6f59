import PyProof.Rows.All
import KE.SortKeyHeap
import HandS.SortKw
import HandS.TupAny
import HandS.Rev
import HandS.Conv
import KE.KDictList
import HandS.Defaults
import Wide.All
import OpenK.AllK
import Wide.FinOn
import HandS.ForMost
import HandS.ForExc
import HandS.Deep
import HandS.IsInst
import HandS.Zip
import HandS.Text
import HandS.Dict
import HandS.DictComp
import HandS.Small
import HandS.More
import HandS.ExcIs
import HandS.TryOnly
import HandS.TryMany
import KE.SortData
import KE.SortKeyHeap
import HandS.SortKw
import KE.DataMinMax
import HandS.SetKeys
import HandS.Style
import PySem.Challenge.RW_legion_k48_answers_decided
set_option Elab.async false
set_option linter.all false
set_option maxRecDepth 100000
set_option maxHeartbeats 8000000
/-! PvCore: own small language over pure data, its reckoning, and the look that says which piece of the text it stands for. -/
namespace PV
open PySem

abbrev D := PyData
/-- how a value is held: shared for good, a peek that holds now, the root of an owned slot, a root that was just made, a tree that was just made -/
inductive Tag where | sh | pk | rt | ow | tr
  deriving DecidableEq, Repr
def Tag.kid : Tag → Tag | .pk => .pk | .tr => .pk | _ => .sh
def Tag.dm : Tag → Tag | .sh => .sh | .ow => .sh | .tr => .sh | _ => .pk
def Tag.root : Tag → Tag | .sh => .ow | _ => .pk
def Tag.jn : Tag → Tag → Tag | .sh, .sh => .sh | _, _ => .pk
inductive R (α : Type) where | ok (a : α) | exc (c : Str) | stuck
def R.bind {α β : Type} : R α → (α → R β) → R β | .ok a, f => f a | .exc c, _ => .exc c | .stuck, _ => .stuck
abbrev TD := Tag × D
abbrev Gam := Str → Option (List D → R TD)
/-- od: a tree that is owned, all its lists and tuples -/
inductive Slot where | no | sh (d : D) | ow (d : D) | od (d : D)
abbrev Env := List Slot
inductive Bop where | add | sub | mul | fdv | mod | pow | band | shl | shr
  deriving DecidableEq
inductive Cop where | eq | ne | lt | le | gt | ge | is | isn | inn | nin
  deriving DecidableEq
inductive Bi where | len | abs | min | max | int | list | tuple | sum | any | all | sorted | repr | str
  deriving DecidableEq
inductive Ty where | int | bool | str | list | tuple
  deriving DecidableEq
inductive Tg where | nm (i : Nat) | tp (is : List Nat)
  deriving DecidableEq
mutual
inductive Ex where
  | var (i : Nat)
  | cst (c : Const)
  | bin (o : Bop) (a b : Ex)
  | neg (a : Ex)
  | cmp (o : Cop) (a b : Ex)
  | chn (o p : Cop) (a b c : Ex)
  | lan (es : Exs) | lor (es : Exs) | lno (a : Ex)
  | ife (c : Te) (a b : Ex)
  | tup (es : Exs) | lst (es : Exs)
  | ix (a b : Ex)
  | sli (a : Ex) (lo hi : Pt)
  | call (f : Str) (es : Exs)
  | bi (b : Bi) (es : Exs)
  | isi (a : Ex) (t : Ty)
  | join (a b : Ex)
  | dnew | dix (a b : Ex) | dcpy (a : Ex)
  | prT (es : Exs) | frz (a : Ex)
  | cpr (own : List (Str × Nat)) (tg : Tg) (src : Src) (c : Tes) (e : Ex)
  | srk (f : Str) (a : Ex)
  | callK (f k : Str) (es : Exs) (v : Ex)
  | glo (x : Str) | callD (f : Str) (es : Exs) | srd (a : Ex) | lsT (a : Ex) | lrv (a : Ex) | trI (a : Ex) | tmp (i : Nat) (a : Ex)
inductive Exs where | nil | cons (e : Ex) (es : Exs)
inductive Pt where | no | at (e : Ex)
inductive Te where
  | val (e : Ex) | tru (e : Ex) | and (ts : Tes) | or (ts : Tes) | not (a : Te)
inductive Tes where | nil | cons (t : Te) (ts : Tes)
inductive Src where
  | lst (e : Ex) | tup (e : Ex) | rg1 (a : Ex) | rg2 (a b : Ex) | enu (e : Ex) | zip (a b : Ex) | rev (e : Ex) | rgd (a b : Ex)
end
/-- in an except suite: what is asked of the error -/
inductive Ub where | isE (cs : List Str) | not (a : Ub) | and2 (a b : Ub) | and3 (a b c : Ub)
/-- an except suite -/
inductive Sux where | ret (u : Ub) | rets (u : Ub) (x y : Str) | addI (j : Nat) (u : Ub) | pas | retE (u v w : Ub) (p q : Ex)
inductive Sx where
  | asg (fz : List Nat) (i : Nat) (e : Ex)
  | asgT (fz : List Nat) (is : List Nat) (e : Ex)
  | aug (i : Nat) (o : Bop) (e : Ex)
  | augX (i : Nat) (o : Bop) (x e : Ex)
  | setX (fz : List Nat) (i : Nat) (x e : Ex)
  | app (fz : List Nat) (i : Nat) (e : Ex)
  | setD (fz : List Nat) (i : Nat) (x e : Ex)
  | exp (e : Ex)
  | ifs (c : Te) (a b : List Sx)
  | whl (c : Te) (b : List Sx)
  | lop (fz : List Nat) (tg : Tg) (src : Src) (b : List Sx)
  | ret (fz : List Nat) (e : Ex)
  | rtv (i : Nat)
  | rtn | brk | cnt | pas
  | asgO (fz : List Nat) (i : Nat) (e : Ex)
  | appO (fz : List Nat) (i : Nat) (e : Ex)
  | rtp (a : Ex) (i : Nat)
  | appP (i : Nat) (a : Ex) (j : Nat)
  | mov (i j : Nat)
  | setXX (i : Nat) (k x e : Ex)
  | appX (i : Nat) (k e : Ex)
  | movX (i j : Nat) (e : Ex)
  | lopA (i j : Nat) (k : Int) (c : Const)
  | lopS (i j : Nat) (k : Int) (x e : Ex)
  | chg (i : Nat) (x e : Ex)
  | ins (fz : List Nat) (i : Nat) (k e : Ex)
  | tryA (i : Nat) (ks : List Str) (hs : List (Str × Sux)) (b : Sx)
  | tryK (x : Str) (ks : List Str) (v : Bool) (b : Sx)
  | rai (c : Str)
  | sda (i : Nat) (k e : Ex)
  | appT (i j : Nat)
  | lopP (fz : List Nat) (i j : Nat) (e x : Ex) (c : Int)
  | alS (i j c pl : Nat) (k q e : Ex)
  | apc (e c : Ex)
  | rts (f : Str) (i : Nat)
  | rtc (x : Str) (j i : Nat) (a : Ex)

/-! ### the reckoning -/
abbrev lim : Nat := 16000000
def scal : D → Bool | .none => true | .bool _ => true | .int _ => true | .str _ => true | _ => false
def nt (t : Tag) (d : D) : Tag := if scal d then .sh else t
def constD : Const → Option D
  | .none => some .none | .bool b => some (.bool b) | .int i => some (.int i) | .str s => some (.str s) | _ => none
def ok1 (d : D) : R TD := .ok (.sh, d)
def guard (b : Bool) (r : R TD) : R TD := if b then r else .stuck
def mulOk (i j : Int) : Bool := (decide (i.natAbs < 2 ^ 4000) && decide (j.natAbs < 2 ^ 4000)) || (decide (-(2 ^ 64) < i) && decide (i < 2 ^ 64)) || (decide (-(2 ^ 64) < j) && decide (j < 2 ^ 64))
def powOk (i j : Int) : Bool := decide (0 ≤ j) && decide (j ≤ 1000000) && decide (i.natAbs < 2 ^ 64)
def tgT : Tag → Bool | .sh => true | .pk => true | _ => false
def isRt : Tag → Bool | .rt => true | .ow => true | _ => false
def evBin : Bop → TD → TD → R TD
  | .add, (_, .int i), (_, .int j) => ok1 (.int (i + j))
  | .add, (s, .list xs), (t, .list ys) => guard (decide (xs.length + ys.length ≤ lim)) (.ok ((s.kid.jn t.kid).root, .list (xs ++ ys)))
  | .add, (s, .tuple xs), (t, .tuple ys) => guard (tgT s && tgT t && decide (xs.length + ys.length ≤ lim)) (.ok (s.jn t, .tuple (xs ++ ys)))
  | .add, (_, .str x), (_, .str y) => guard (decide (x.length + y.length ≤ lim)) (ok1 (.str (x ++ y)))
  | .sub, (_, .int i), (_, .int j) => ok1 (.int (i - j))
  | .mul, (_, .int i), (_, .int j) => guard (mulOk i j) (ok1 (.int (i * j)))
  | .mul, (s, .list xs), (_, .int k) => guard (isRt s && decide (0 ≤ k) && decide (k ≤ (lim : Int)) && decide (xs.length * k.toNat ≤ lim)) (.ok (.ow, .list (List.replicate k.toNat xs).flatten))
  | .fdv, (_, .int i), (_, .int j) => guard (decide (0 < j) && decide (j < 1073741824)) (ok1 (.int (i / j)))
  | .mod, (_, .int i), (_, .int j) => guard (decide (0 < j)) (ok1 (.int (i % j)))
  | .pow, (_, .int i), (_, .int j) => guard (powOk i j) (ok1 (.int (i ^ j.toNat)))
  | .band, (_, .int i), (_, .int j) => ok1 (.int (Builtin.bitAnd i j))
  | .shl, (_, .int i), (_, .int j) => guard (powOk i j) (ok1 (.int (i * 2 ^ j.toNat)))
  | .shr, (_, .int i), (_, .int j) => guard (decide (0 ≤ j)) (ok1 (.int (i / 2 ^ j.toNat)))
  | _, _, _ => .stuck
def evNeg : D → R TD | .int i => ok1 (.int (-i)) | _ => .stuck
def isNone : D → Bool | .none => true | _ => false
def gB (c : Bool) (b : Bool) : R Bool := if c then .ok b else .stuck
def both (d e : D) : Bool := SeqAt.shaped d && SeqAt.shaped e
def dkey : D → Option L2.Key | .int i => some (Sum.inl i) | .str s => some (Sum.inr s) | _ => none
def dKey (k : L2.Key) : D := match k with | Sum.inl i => .int i | Sum.inr s => .str s
def dGetK (kvs : List (D × D)) (k : L2.Key) : Option D := (kvs.find? fun kv => decide (dkey kv.1 = some k)).map (·.2)
def dPutK (kvs : List (D × D)) (k : L2.Key) (d : D) : List (D × D) :=
  if (kvs.any fun kv => decide (dkey kv.1 = some k)) = true then kvs.map (fun kv => if dkey kv.1 = some k then (kv.1, d) else kv) else kvs ++ [(dKey k, d)]
def intKV : List (D × D) → Option (List (L2.Key × Int))
  | [] => some []
  | (k, .int i) :: r => match dkey k, intKV r with | some k, some l => some ((k, i) :: l) | _, _ => none
  | _ :: _ => none
def dSame (a b : List (D × D)) : Bool := match intKV a, intKV b with | some x, some y => decide (x = y) && decide ((x.map (·.1)).Nodup) | _, _ => false
def evEq : D → D → R Bool
  | .str x, .str y => .ok (decide (x = y))
  | .dict a, .dict b => if dSame a b then .ok true else .stuck
  | d, e => gB (both d e) (PyData.eqv d e)
def evNe : D → D → R Bool
  | .str x, .str y => .ok (!decide (x = y))
  | .dict a, .dict b => if dSame a b then .ok false else .stuck
  | d, e => gB (both d e) (!PyData.eqv d e)
def evCmp : Cop → D → D → R Bool
  | .eq, d, e => evEq d e
  | .ne, d, e => evNe d e
  | .lt, .int i, .int j => .ok (decide (i < j))
  | .le, .int i, .int j => .ok (decide (i ≤ j))
  | .gt, .int i, .int j => .ok (decide (j < i))
  | .ge, .int i, .int j => .ok (decide (j ≤ i))
  | .is, d, .none => .ok (isNone d)
  | .isn, d, .none => .ok (!isNone d)
  | .is, .bool a, .bool b => .ok (decide (a = b))
  | .isn, .bool a, .bool b => .ok (!decide (a = b))
  | .inn, d, .list xs => gB (both d (.list xs)) (xs.any fun z => PyData.eqv z d)
  | .nin, d, .list xs => gB (both d (.list xs)) (!xs.any fun z => PyData.eqv z d)
  | _, _, _ => .stuck
def truth : D → R Bool
  | .bool b => .ok b
  | .int i => .ok (i != 0)
  | .none => .ok false
  | .list xs => .ok (!xs.isEmpty)
  | .tuple xs => .ok (!xs.isEmpty)
  | .str z => gB (decide (z.length ≤ lim)) ((z.length : Int) != 0)
  | _ => .stuck
def isBool : D → R Bool | .bool b => .ok b | _ => .stuck
def evIx : TD → D → R TD
  | (t, .list xs), .int i => match L2.atI xs i with | some d => .ok (nt t.kid d, d) | none => .stuck
  | (t, .tuple xs), .int i => match L2.atI xs i with | some d => .ok (nt t.kid d, d) | none => .stuck
  | (_, .str z), .int i => guard (decide (z.length ≤ lim)) (match L2.atI z.cps.toList i with | some c => ok1 (.str ⟨#[c]⟩) | none => .stuck)
  | _, _ => .stuck
def cutD (xs : List D) (lo hi : Option Int) : List D := (xs.drop (HT.sIx xs.length 0 lo)).take (HT.sIx xs.length xs.length hi - HT.sIx xs.length 0 lo)
def evSl : TD → Option Int → Option Int → R TD
  | (t, .list xs), lo, hi => .ok (t.kid.root, .list (cutD xs lo hi))
  | (t, .tuple xs), lo, hi => .ok (t.kid, .tuple (cutD xs lo hi))
  | (_, .str z), lo, hi => guard (decide (z.length ≤ lim)) (ok1 (.str (L2.cutS z lo hi)))
  | _, _, _ => .stuck
def evRev : TD → R TD
  | (t, .list xs) => .ok (t.kid.root, .list xs.reverse)
  | _ => .stuck
def isInt : D → R Int | .int i => .ok i | _ => .stuck
def intL : List D → Option (List Int)
  | [] => some []
  | .int i :: r => (intL r).map (i :: ·)
  | _ :: _ => none
def boolL : List D → Option (List Bool)
  | [] => some []
  | .bool i :: r => (boolL r).map (i :: ·)
  | _ :: _ => none
def leD : D → D → Bool := PySem.W.dataLe false id
def sortOk (xs : List D) : Bool := (xs.all fun d => xs.all fun e => PySem.W.alike d e) && ((xs.all fun d => match d with | .tuple (_ :: _) => true | _ => false) || (xs.all fun d => match d with | .none => false | .tuple _ => false | _ => true)) && (xs.all fun d => decide (d.depth ≤ 60) && d.canLay0)
def reprOk (d : D) : Bool := d.showable && d.canLay0 && decide (d.shown.length ≤ lim) && decide (d.depth ≤ 60)
def evBi : Bi → List TD → R TD
  | .len, [(_, .list xs)] => ok1 (.int xs.length)
  | .len, [(_, .tuple xs)] => ok1 (.int xs.length)
  | .len, [(_, .str z)] => guard (decide (z.length ≤ lim)) (ok1 (.int z.length))
  | .abs, [(_, .int i)] => ok1 (.int (if i < 0 then -i else i))
  | .min, [(_, .int i), (_, .int j)] => ok1 (.int (if j < i then j else i))
  | .max, [(_, .int i), (_, .int j)] => ok1 (.int (if j > i then j else i))
  | .min, [(_, .list xs)] => match intL xs with | some (n :: r) => ok1 (.int (r.foldl min n)) | _ => .stuck
  | .max, [(_, .list xs)] => match intL xs with | some (n :: r) => ok1 (.int (r.foldl max n)) | _ => .stuck
  | .int, [(_, .int i)] => ok1 (.int i)
  | .int, [(_, .bool b)] => ok1 (.int (if b then 1 else 0))
  | .list, [(t, .list xs)] => .ok (t.kid.root, .list xs)
  | .list, [(t, .tuple xs)] => .ok (t.kid.root, .list xs)
  | .tuple, [(t, .list xs)] => .ok (t.kid, .tuple xs)
  | .sum, [(_, .list xs)] => match intL xs with | some ns => ok1 (.int ns.sum) | none => .stuck
  | .any, [(_, .list xs)] => match boolL xs with | some bs => ok1 (.bool (bs.any id)) | none => .stuck
  | .all, [(_, .list xs)] => match boolL xs with | some bs => ok1 (.bool (bs.all id)) | none => .stuck
  | .sorted, [(t, .list xs)] => guard (sortOk xs) (.ok (t.kid.root, .list (xs.mergeSort leD)))
  | .repr, [(_, .list xs)] => guard (reprOk (.list xs)) (ok1 (.str (PyData.shown (.list xs))))
  | .repr, [(_, .tuple xs)] => guard (reprOk (.tuple xs)) (ok1 (.str (PyData.shown (.tuple xs))))
  | .str, [(_, .int i)] => guard (decide (i.natAbs.log2 < 1920)) (ok1 (.str (toString i)))
  | _, _ => .stuck
def strL : List D → Option (List Str)
  | [] => some []
  | .str i :: r => (strL r).map (i :: ·)
  | _ :: _ => none
def isStr : D → R Str | .str s => .ok s | _ => .stuck
def evJoin (a : Str) : D → R TD
  | .list xs => match strL xs with
    | some ys => guard (decide ((ys.map (·.length)).sum + ys.length * a.length ≤ lim)) (ok1 (.str (Txt.join a ys)))
    | none => .stuck
  | _ => .stuck
def evDix : TD → D → R TD
  | (t, .dict kvs), y => match dkey y with
    | some k => match dGetK kvs k with | some d => .ok (nt t.kid d, d) | none => .stuck
    | none => .stuck
  | _, _ => .stuck
def evDcp : TD → R TD
  | (t, .dict kvs) => .ok (t.kid.root, .dict kvs)
  | _ => .stuck
def isT : Ty → D → Option Bool
  | .int, .int _ => some true | .int, .bool _ => some true
  | .bool, .bool _ => some true
  | .str, .str _ => some true
  | .list, .list _ => some true
  | .tuple, .tuple _ => some true
  | _, .dict _ => none
  | _, _ => some false
def jnL : List TD → Tag | [] => .sh | x :: r => x.1.dm.jn (jnL r)
def bindT : Tg → TD → Env → Option Env
  | .nm i, (.sh, d), env => some (env.set i (.sh d))
  | .tp is, (.sh, .tuple ds), env => if ds.length = is.length then some ((is.zip ds).foldl (fun e p => e.set p.1 (.sh p.2)) env) else none
  | _, _, _ => none
/-- the items of a comprehension -/
def cpl (f : D → R (Option D)) : List D → R (List D)
  | [] => .ok []
  | d :: r => (f d).bind fun o => (cpl f r).bind fun s => match o with | none => .ok s | some x => .ok (x :: s)
def nox {α : Type} : R α → R α | .ok a => .ok a | _ => .stuck
def shOnly (x : TD) : R D := match (nt x.1 x.2).dm with | .sh => .ok x.2 | _ => .stuck
/-- two sources walked at once -/
def zt : Tag → Tag → Tag | .pk, _ => .pk | _, .pk => .pk | .tr, _ => .pk | _, .tr => .pk | .rt, _ => .rt | _, .rt => .rt | _, _ => .sh
def wipeE (env : Env) : List Nat → Env | [] => env | v :: vs => (wipeE env vs).set v .no
def ranged (a b : Int) : List D := (List.range (b - a).toNat).map fun k => .int (a + (k : Nat))
def enumD (k : Nat) : List D → List D | [] => [] | d :: r => .tuple [.int k, d] :: enumD (k + 1) r
def zipD : List D → List D → List D | a :: r, b :: s => .tuple [a, b] :: zipD r s | _, _ => []
def small (i : Int) : Bool := decide (-(2 ^ 62) ≤ i) && decide (i < 2 ^ 62)
def callTag (t o : Tag) (d : D) : Tag := nt (match t with | .sh => o | _ => .pk) d
/-- what is new all through -/
def treeOf : TD → R D
  | (.tr, d) => .ok d
  | (.ow, .list ds) => if ds.all scal then .ok (.list ds) else .stuck
  | (.ow, .dict []) => .ok (.dict [])
  | (_, d) => if scal d then .ok d else .stuck
def items : D → Option (List D) | .list ds => some ds | .tuple ds => some ds | _ => none
def putAt : D → Nat → D → D | .list ds, i, d => .list (ds.set i d) | .tuple ds, i, d => .tuple (ds.set i d) | e, _, _ => e
def scalD (x : TD) : R D := if scal x.2 then .ok x.2 else .stuck
def prD : List TD → R TD | [x, y] => (scalD x).bind fun d => (treeOf y).bind fun e => .ok (.tr, .tuple [d, e]) | _ => .stuck
/-- names that are no names of the program -/
def bang (x : Str) : Bool := x.cps.toList.head? == some 33 || x.cps.toList.head? == some 34 || x.cps.toList.head? == some 35
/-- f called with the last argument by the keyword k -/
def kwn (f k : Str) : Str := ⟨(33 :: f.cps.size :: (f.cps.toList ++ k.cps.toList)).toArray⟩
theorem bang_kwn (f k : Str) : bang (kwn f k) = true := by simp [bang, kwn]
theorem kwn_inj {f k f' k' : Str} (h : kwn f k = kwn f' k') : f = f' ∧ k = k' := by
  have h1 : (33 :: f.cps.size :: (f.cps.toList ++ k.cps.toList)) = 33 :: f'.cps.size :: (f'.cps.toList ++ k'.cps.toList) := by
    have := congrArg (fun s : Str => s.cps.toList) h
    simpa [kwn] using this
  obtain ⟨h2, h3⟩ := List.cons.inj (List.cons.inj h1).2
  obtain ⟨h4, h5⟩ := List.append_inj h3 (by simpa using h2)
  obtain ⟨⟨a⟩⟩ := f
  obtain ⟨⟨b⟩⟩ := k
  obtain ⟨⟨c⟩⟩ := f'
  obtain ⟨⟨d⟩⟩ := k'
  simp at h4 h5
  subst h4 h5
  exact ⟨rfl, rfl⟩
/-- the name of a constant of the module; of a def called with its default -/
def cgn (x : Str) : Str := ⟨(34 :: x.cps.toList).toArray⟩
def dfn (x : Str) : Str := ⟨(35 :: x.cps.toList).toArray⟩
theorem bang_cgn (x : Str) : bang (cgn x) = true := by simp [bang, cgn]
theorem bang_dfn (x : Str) : bang (dfn x) = true := by simp [bang, dfn]
theorem cps_inj {x y : Str} (h : x.cps.toList = y.cps.toList) : x = y := by
  obtain ⟨⟨a⟩⟩ := x
  obtain ⟨⟨b⟩⟩ := y
  simp at h
  subst h
  rfl
theorem cgn_inj {x y : Str} (h : cgn x = cgn y) : x = y := by
  have := congrArg (fun s : Str => s.cps.toList) h
  exact cps_inj (by simpa [cgn] using this)
theorem dfn_inj {x y : Str} (h : dfn x = dfn y) : x = y := by
  have := congrArg (fun s : Str => s.cps.toList) h
  exact cps_inj (by simpa [dfn] using this)
theorem cgn_kwn {x y z : Str} : cgn x ≠ kwn y z := fun h => by
  have := congrArg (fun s : Str => s.cps.toList.head?) h
  simp [cgn, kwn] at this
theorem dfn_kwn {x y z : Str} : dfn x ≠ kwn y z := fun h => by
  have := congrArg (fun s : Str => s.cps.toList.head?) h
  simp [dfn, kwn] at this
theorem cgn_dfn {x y : Str} : cgn x ≠ dfn y := fun h => by
  have := congrArg (fun s : Str => s.cps.toList.head?) h
  simp [dfn, cgn] at this
theorem chg_head : (("!changed" : Str).cps.toList.head?) = some 33 := by decide +kernel
theorem cgn_chg {x : Str} : cgn x ≠ "!changed" := fun h => by
  have := congrArg (fun s : Str => s.cps.toList.head?) h
  rw [chg_head] at this
  simp [cgn] at this
theorem dfn_chg {x : Str} : dfn x ≠ "!changed" := fun h => by
  have := congrArg (fun s : Str => s.cps.toList.head?) h
  rw [chg_head] at this
  simp [dfn] at this
/-- sorted(d), all keys ints -/
def intKs : List (D × D) → Option (List Int)
  | [] => some []
  | (.int i, _) :: r => (intKs r).map (i :: ·)
  | _ :: _ => none
def evSrd : TD → R TD
  | (_, .dict kvs) => match intKs kvs with
    | some ks => guard (decide (ks.length < 64)) (.ok (.ow, .list ((ks.mergeSort fun a b => decide (a ≤ b)).map .int)))
    | none => .stuck
  | _ => .stuck
def rangedD (a b : Int) : List D := (List.range (a - b).toNat).map fun k => .int (a - (k : Nat))
/-- the items in the order of their keys -/
def sortV {α : Type} (ws : List α) (ks : List D) : List α := ((ws.zip ks).mergeSort (PySem.W.dataLe false fun p : α × D => p.2)).map (·.1)
def keysOf (g : List D → R TD) : List D → Option (List D)
  | [] => some []
  | d :: r => match g [d] with | .ok (_, k) => (keysOf g r).map (k :: ·) | _ => none
def evSrk (G : Gam) (f : Str) : TD → R TD
  | (t, .list xs) => match G f with
    | some g => match keysOf g xs with | some ks => guard (sortOk ks) (.ok (t.kid.root, .list (sortV xs ks))) | none => .stuck
    | none => .stuck
  | _ => .stuck
/-- an item of a comprehension that is a new pair: a tree -/
def isPr : Ex → Bool | .prT _ => true | .trI _ => true | _ => false
def itm (e : Ex) (x : TD) : R D := if isPr e = true then treeOf x else shOnly x
def cpTag (e : Ex) : Tag := if isPr e = true then .tr else .ow
/-- an own slot held as shared for a while -/
def frzI (i : Nat) (env : Env) : Env := match env[i]? with | some (.ow d) => env.set i (.sh d) | some (.od d) => env.set i (.sh d) | _ => env
mutual
def ev (G : Gam) : Ex → Env → R TD
  | .var i, env => match env[i]? with | some (.sh d) => .ok (.sh, d) | some (.ow d) => .ok (.rt, d) | some (.od d) => .ok (nt .pk d, d) | _ => .stuck
  | .cst c, _ => match constD c with | some d => .ok (.sh, d) | none => .stuck
  | .bin o a b, env => (ev G a env).bind fun x => (ev G b env).bind fun y => evBin o x y
  | .neg a, env => (ev G a env).bind fun x => evNeg x.2
  | .cmp o a b, env => (ev G a env).bind fun x => (ev G b env).bind fun y => (evCmp o x.2 y.2).bind fun r => ok1 (.bool r)
  | .chn o p a b c, env => (ev G a env).bind fun x => (ev G b env).bind fun y => (evCmp o x.2 y.2).bind fun r =>
      match r with
      | true => (ev G c env).bind fun z => (evCmp p y.2 z.2).bind fun r => ok1 (.bool r)
      | false => ok1 (.bool false)
  | .lan es, env => evAnd G es env
  | .lor es, env => evOr G es env
  | .lno a, env => (ev G a env).bind fun x => (isBool x.2).bind fun b => ok1 (.bool (!b))
  | .ife c a b, env => (evT G c env).bind fun t => match t with | true => ev G a env | false => ev G b env
  | .tup es, env => (evs G es env).bind fun l => guard (decide (l.length ≤ lim)) (.ok (jnL l, .tuple (l.map (·.2))))
  | .lst es, env => (evs G es env).bind fun l => guard (decide (l.length ≤ lim)) (.ok ((jnL l).root, .list (l.map (·.2))))
  | .ix a b, env => (ev G a env).bind fun x => (ev G b env).bind fun y => evIx x y.2
  | .sli a lo hi, env => (ev G a env).bind fun x => (evP G lo env).bind fun l => (evP G hi env).bind fun h => evSl x l h
  | .call f es, env => match G f with | none => .stuck | some g => (evs G es env).bind fun l => (g (l.map (·.2))).bind fun r => .ok (callTag (jnL l) r.1 r.2, r.2)
  | .callK f k es v, env => match G (kwn f k) with | none => .stuck | some g => (evs G es env).bind fun l => (ev G v env).bind fun y => (g ((l ++ [y]).map (·.2))).bind fun r => .ok (callTag (jnL (l ++ [y])) r.1 r.2, r.2)
  | .bi b es, env => (evs G es env).bind fun l => evBi b l
  | .glo x, _ => match G (cgn x) with | none => .stuck | some g => g []
  | .callD f es, env => match G (dfn f) with | none => .stuck | some g => (evs G es env).bind fun l => (g (l.map (·.2))).bind fun r => .ok (callTag (jnL l) r.1 r.2, r.2)
  | .srd a, env => (ev G a env).bind fun x => evSrd x
  | .lsT a, env => (ev G a env).bind fun x => (treeOf x).bind fun d => .ok (.tr, .list [d])
  | .lrv a, env => (ev G a env).bind fun x => evRev x
  | .trI a, env => (ev G a env).bind fun x => (treeOf x).bind fun d => .ok (.tr, d)
  | .isi a t, env => (ev G a env).bind fun x => match isT t x.2 with | some b => ok1 (.bool b) | none => .stuck
  | .join a b, env => (ev G a env).bind fun x => (isStr x.2).bind fun s => (ev G b env).bind fun y => evJoin s y.2
  | .dnew, _ => .ok (.ow, .dict [])
  | .dix a b, env => (ev G a env).bind fun x => (ev G b env).bind fun y => evDix x y.2
  | .dcpy a, env => (ev G a env).bind fun x => evDcp x
  | .prT es, env => (evs G es env).bind fun l => prD l
  | .srk f a, env => match G f with | none => .stuck | some _ => (ev G a env).bind fun x => evSrk G f x
  | .tmp i a, env => (ev G a (frzI i env)).bind fun x => if scal x.2 = true then .ok (.sh, x.2) else .stuck
  | .frz a, env => (ev G a env).bind fun x => match (nt x.1 x.2).dm with | .sh => .ok (.sh, x.2) | _ => .stuck
  | .cpr own tg src c e, env => (evSrc G src env).bind fun s =>
      (nox (cpl (fun d => match bindT tg (nt s.1.kid d, d) (wipeE env (own.map (·.2))) with
        | none => .stuck
        | some env2 => (evTA G c env2).bind fun t => match t with | true => (ev G e env2).bind fun x => (itm e x).bind fun d => .ok (some d) | false => .ok none) s.2)).bind fun r => guard (decide (s.2.length ≤ lim)) (.ok (cpTag e, .list r))
def evP (G : Gam) : Pt → Env → R (Option Int)
  | .no, _ => .ok none
  | .at e, env => (ev G e env).bind fun x => (isInt x.2).bind fun i => .ok (some i)
def evs (G : Gam) : Exs → Env → R (List TD)
  | .nil, _ => .ok []
  | .cons e es, env => (ev G e env).bind fun x => (evs G es env).bind fun l => .ok (x :: l)
def evAnd (G : Gam) : Exs → Env → R TD
  | .nil, _ => .stuck
  | .cons e .nil, env => ev G e env
  | .cons e es, env => (ev G e env).bind fun x => (isBool x.2).bind fun b => match b with | true => evAnd G es env | false => ok1 (.bool false)
def evOr (G : Gam) : Exs → Env → R TD
  | .nil, _ => .stuck
  | .cons e .nil, env => ev G e env
  | .cons e es, env => (ev G e env).bind fun x => (isBool x.2).bind fun b => match b with | false => evOr G es env | true => ok1 (.bool true)
def evT (G : Gam) : Te → Env → R Bool
  | .val e, env => (ev G e env).bind fun x => isBool x.2
  | .tru e, env => (ev G e env).bind fun x => truth x.2
  | .and ts, env => evTA G ts env
  | .or ts, env => evTO G ts env
  | .not a, env => (evT G a env).bind fun t => .ok (!t)
def evTA (G : Gam) : Tes → Env → R Bool
  | .nil, _ => .ok true
  | .cons a ts, env => (evT G a env).bind fun t => match t with | true => evTA G ts env | false => .ok false
def evTO (G : Gam) : Tes → Env → R Bool
  | .nil, _ => .ok false
  | .cons a ts, env => (evT G a env).bind fun t => match t with | true => .ok true | false => evTO G ts env
def evSrc (G : Gam) : Src → Env → R (Tag × List D)
  | .lst e, env => (ev G e env).bind fun x => match x.2 with | .list ds => .ok (x.1, ds) | _ => .stuck
  | .tup e, env => (ev G e env).bind fun x => match x.2 with | .tuple ds => .ok (x.1, ds) | _ => .stuck
  | .rg1 a, env => (ev G a env).bind fun x => (isInt x.2).bind fun j => if small j then .ok (.sh, ranged 0 j) else .stuck
  | .rg2 a b, env => (ev G a env).bind fun x => (ev G b env).bind fun y => (isInt x.2).bind fun i => (isInt y.2).bind fun j => if small i && small j then .ok (.sh, ranged i j) else .stuck
  | .enu e, env => (ev G e env).bind fun x => match x.2 with | .list ds => .ok (x.1, enumD 0 ds) | _ => .stuck
  | .rgd a b, env => (ev G a env).bind fun x => (ev G b env).bind fun y => (isInt x.2).bind fun i => (isInt y.2).bind fun j => if small i && small j then .ok (.sh, rangedD i j) else .stuck
  | .zip a b, env => (ev G a env).bind fun x => (ev G b env).bind fun y => match x.2, y.2 with | .list ds, .list es => .ok (zt x.1 y.1, zipD ds es) | _, _ => .stuck
  | .rev e, env => (ev G e env).bind fun x => match x.2 with | .list ds => .ok (x.1, ds.reverse) | _ => .stuck
end
/-! ### statements -/
inductive Out where | nx (e : Env) | ret (t : Tag) (d : D) | brk (e : Env) | cnt (e : Env) | exc (c : Str) (e : Env) | stuck
def frz : List Nat → Env → Env
  | [], env => env
  | i :: r, env => match env[i]? with | some (.ow d) => frz r (env.set i (.sh d)) | some (.od d) => frz r (env.set i (.sh d)) | _ => frz r env
def put (env : Env) (i : Nat) (x : TD) : Out := match nt x.1 x.2, x.2 with
  | .sh, d => .nx (env.set i (.sh d))
  | .ow, .list ds => .nx (env.set i (.ow (.list ds)))
  | .ow, .dict ds => .nx (env.set i (.ow (.dict ds)))
  | .tr, d => .nx (env.set i (.od d))
  | _, _ => .stuck
def Out.of {α : Type} (env : Env) : R α → (α → Out) → Out | .ok a, f => f a | .exc c, _ => .exc c env | .stuck, _ => .stuck
def ownL (env : Env) (i : Nat) : R (List D) := match env[i]? with | some (.ow (.list ds)) => .ok ds | _ => .stuck
def ownD (env : Env) (i : Nat) : R (List (D × D)) := match env[i]? with | some (.ow (.dict ds)) => .ok ds | _ => .stuck
def odD (env : Env) (i : Nat) : R D := match env[i]? with | some (.od d) => .ok d | _ => .stuck
/-- an own slot given up as a tree -/
def ownT (env : Env) (i : Nat) : R D := match env[i]? with | some (.od d) => .ok d | some (.ow (.list ds)) => if ds.all scal then .ok (.list ds) else .stuck | _ => .stuck
def itemsR (d : D) : R (List D) := match items d with | some ds => .ok ds | none => .stuck
def asL : D → R (List D) | .list ds => .ok ds | _ => .stuck
def allS (ds : List D) : R (List D) := if ds.all scal then .ok ds else .stuck
def shD (env : Env) (i : Nat) : R D := match env[i]? with | some (.sh d) => .ok d | _ => .stuck
def placed (ds : List D) (k : Int) : R (Nat × D) := match L2.ixN ds.length k with | some j => (match ds[j]? with | some d => .ok (j, d) | none => .stuck) | none => .stuck
def augB : Bop → D → D → R D
  | .add, .int i, .int j => .ok (.int (i + j))
  | .sub, .int i, .int j => .ok (.int (i - j))
  | _, _, _ => .stuck
/-- the list at d[k] -/
def rowL (k : Int) (d : D) : R (Nat × List D) := (itemsR d).bind fun es => (placed es k).bind fun p => (asL p.2).bind fun ws => .ok (p.1, ws)
/-- for row in rows: row[k].append(c) -/
def rowA (k : Int) (c : D) (d : D) : R D := (rowL k d).bind fun p => if p.2.length < lim then .ok (putAt d p.1 (.list (p.2 ++ [c]))) else .stuck
/-- row[k][x] = y -/
def rowS (p : Nat × List D) (x : Int) (y : D) (d : D) : R D := (allS p.2).bind fun ws => (placed ws x).bind fun q => .ok (putAt d p.1 (.list (ws.set q.1 y)))
def eachR (f : D → R D) : List D → R (List D) | [] => .ok [] | d :: r => (f d).bind fun e => (eachR f r).bind fun s => .ok (e :: s)
def chgV (ds : List D) (k c : Int) : R (List D) := (placed ds k).bind fun p => match p.2 with | .none => .ok ds | .int m => .ok (ds.set p.1 (.int (m + c))) | _ => .stuck
def asD : D → R (List (D × D)) | .dict kvs => .ok kvs | _ => .stuck
/-- the list at a key, or a new one -/
def sdRow (kvs : List (D × D)) (k : L2.Key) : R (List D) := match dGetK kvs k with | none => .ok [] | some d => asL d
/-- a list of plain things, one of its numbers raised -/
def bump (x c : Int) (d : D) : R D := (asL d).bind fun ws => (allS ws).bind fun ws => (placed ws x).bind fun q => (augB .add q.2 (.int c)).bind fun r => .ok (.list (ws.set q.1 r))
/-- a for over items -/
def lp (f : D → Env → Out) : List D → Env → Out
  | [], env => .nx env
  | d :: r, env => match f d env with
    | .nx e => lp f r e
    | .cnt e => lp f r e
    | .brk e => .nx e
    | .ret t d => .ret t d
    | .exc c e => .exc c e
    | .stuck => .stuck
/-- a while of at most so many turns -/
def wh (c : Env → R Bool) (f : Env → Out) : Nat → Env → Out
  | 0, _ => .stuck
  | n + 1, env => Out.of env (c env) fun t => match t with
    | false => .nx env
    | true => match f env with
      | .nx e => wh c f n e
      | .cnt e => wh c f n e
      | .brk e => .nx e
      | .ret t d => .ret t d
      | .exc c e => .exc c e
      | .stuck => .stuck
/-- the rest behind a statement -/
def Out.then (o : Out) (f : Env → Out) : Out := match o with | .nx e => f e | o => o
/-- an error of class c is one of class x -/
def subE (c x : Str) : Bool := decide (x = c) || decide (x = "LegionError") || decide (x = "ValueError")
def Ub.is (c : Str) : Ub → Bool | .isE cs => cs.any (subE c) | .not a => !(a.is c) | .and2 a b => a.is c && b.is c | .and3 a b d => a.is c && (b.is c && d.is c)
def Sux.ev (c : Str) (s : Sux) (env : Env) : Out := match s with
  | .ret u => .ret .sh (.bool (u.is c))
  | .rets u x y => .ret .sh (.str (if u.is c then x else y))
  | .addI j u => match env[j]? with | some (.sh (.int n)) => .nx (env.set j (.sh (.int (n + (if u.is c then 1 else 0))))) | _ => .stuck
  | .pas => .nx env
  | .retE u v w p q => if (u.is c && (v.is c && w.is c)) = true then (match PV.ev (fun _ => none) p env with
    | .ok (_, .bool a) => if a = true then (match PV.ev (fun _ => none) q env with | .ok (_, .bool b) => .ret .sh (.bool b) | _ => .stuck) else .ret .sh (.bool false)
    | _ => .stuck) else .ret .sh (.bool false)
/-- the handler of an error of class c -/
def hdl (c : Str) : List (Str × Sux) → Option Sux | [] => none | h :: r => if subE c h.1 then some h.2 else hdl c r
def Out.caught (i : Nat) (ks : List Str) (hs : List (Str × Sux)) : Out → Out
  | .exc c e => if c ∈ ks ∧ i < e.length then (match hdl c hs with | some s => s.ev c (e.set i .no) | none => .exc c e) else .stuck
  | o => o
/-- except x: return v -/
def Out.caughtK (x : Str) (ks : List Str) (v : Bool) : Out → Out
  | .exc c e => if c ∈ ks then (if subE c x = true then .ret .sh (.bool v) else .exc c e) else .stuck
  | o => o
/-- one = x[k]; c = one[1]; p = q; c[p] = e: a list of plain things within an own tree, changed through two names -/
def alV (G : Gam) (i j c pl : Nat) (k q e : Ex) (env : Env) : R Env :=
  (odD env i).bind fun t => (asL t).bind fun ds => (ev G k env).bind fun a => (isInt a.2).bind fun a => (placed ds a).bind fun p => (rowL 1 p.2).bind fun w =>
  (ev G q ((env.set j .no).set c .no)).bind fun b => (isInt b.2).bind fun b =>
  (ev G e (((((env.set j .no).set c .no).set pl (.sh (.int b))).set i .no).set c (.od (.list w.2)))).bind fun y => (scalD y).bind fun z => (rowS w b z p.2).bind fun d2 =>
  if (i ≠ j ∧ i ≠ c ∧ i ≠ pl ∧ j ≠ c ∧ j ≠ pl ∧ c ≠ pl) ∧ j < env.length ∧ c < env.length ∧ pl < env.length then .ok ((((env.set j .no).set c .no).set pl (.sh (.int b))).set i (.od (.list (ds.set p.1 d2)))) else .stuck
mutual
def evS (G : Gam) (W : Nat) : Sx → Env → Out
  | .asg fz i e, env => Out.of (frz fz env) (ev G e (frz fz env)) fun x => put (frz fz env) i x
  | .asgT fz is e, env => Out.of (frz fz env) (ev G e (frz fz env)) fun x => match bindT (.tp is) ((nt x.1 x.2).dm, x.2) (frz fz env) with | some e2 => .nx e2 | none => .stuck
  | .aug i o e, env => Out.of env (shD env i) fun a => Out.of env (ev G e env) fun x => Out.of env (augB o a x.2) fun r => .nx (env.set i (.sh r))
  | .augX i o x e, env => Out.of env (ownL env i) fun ds => Out.of env (ev G x env) fun k => Out.of env (isInt k.2) fun k => Out.of env (placed ds k) fun p =>
      Out.of env (ev G e env) fun y => Out.of env (augB o p.2 y.2) fun r => .nx (env.set i (.ow (.list (ds.set p.1 r))))
  | .setX fz i x e, env => Out.of (frz fz env) (ev G e (frz fz env)) fun y => Out.of (frz fz env) (shOnly y) fun r => Out.of (frz fz env) (ownL (frz fz env) i) fun ds =>
      Out.of (frz fz env) (ev G x (frz fz env)) fun k => Out.of (frz fz env) (isInt k.2) fun k => Out.of (frz fz env) (placed ds k) fun p => .nx ((frz fz env).set i (.ow (.list (ds.set p.1 r))))
  | .app fz i e, env => Out.of (frz fz env) (ownL (frz fz env) i) fun ds => Out.of (frz fz env) (ev G e (frz fz env)) fun y => Out.of (frz fz env) (shOnly y) fun r =>
      if ds.length < lim then .nx ((frz fz env).set i (.ow (.list (ds ++ [r])))) else .stuck
  | .setD fz i x e, env => Out.of (frz fz env) (ev G e (frz fz env)) fun y => Out.of (frz fz env) (shOnly y) fun r => Out.of (frz fz env) (ownD (frz fz env) i) fun ds =>
      Out.of (frz fz env) (ev G x (frz fz env)) fun k => match dkey k.2 with
        | some kk => if ds.length < lim then .nx ((frz fz env).set i (.ow (.dict (dPutK ds kk r)))) else .stuck
        | none => .stuck
  | .exp e, env => Out.of env (ev G e env) fun _ => .nx env
  | .ifs c a b, env => Out.of env (evT G c env) fun t => match t with | true => evSs G W a env | false => evSs G W b env
  | .whl c b, env => wh (fun e => evT G c e) (fun e => evSs G W b e) W env
  | .lop fz tg src b, env => Out.of (frz fz env) (evSrc G src (frz fz env)) fun s => match s.1.dm with
      | .sh => lp (fun d e => match bindT tg (.sh, d) e with | some e2 => evSs G W b e2 | none => .stuck) s.2 (frz fz env)
      | _ => .stuck
  | .ret fz e, env => Out.of (frz fz env) (ev G e (frz fz env)) fun x => match nt x.1 x.2 with | .sh => .ret .sh x.2 | .ow => .ret .ow x.2 | .tr => .ret .tr x.2 | _ => .stuck
  | .rtv i, env => match env[i]? with | some (.ow d) => .ret .ow d | some (.sh d) => .ret .sh d | some (.od d) => .ret .tr d | _ => .stuck
  | .asgO fz i e, env => Out.of (frz fz env) (ev G e (frz fz env)) fun x => Out.of (frz fz env) (treeOf x) fun d => .nx ((frz fz env).set i (.od d))
  | .appO fz i e, env => Out.of (frz fz env) (odD (frz fz env) i) fun t => Out.of (frz fz env) (asL t) fun ds => Out.of (frz fz env) (ev G e (frz fz env)) fun y => Out.of (frz fz env) (treeOf y) fun r =>
      if ds.length < lim then .nx ((frz fz env).set i (.od (.list (ds ++ [r])))) else .stuck
  | .rtp a i, env => Out.of env (ev G a env) fun x => Out.of env (scalD x) fun c => Out.of env (ownT env i) fun d => .ret .tr (.tuple [c, d])
  | .appP i a j, env => Out.of env (odD env i) fun t => Out.of env (asL t) fun ds => Out.of env (ev G a env) fun x => Out.of env (scalD x) fun c => Out.of env (ownT env j) fun d =>
      if i ≠ j ∧ ds.length < lim then .nx ((env.set j .no).set i (.od (.list (ds ++ [.tuple [c, d]])))) else .stuck
  | .mov i j, env => Out.of env (odD env j) fun d => if i ≠ j then .nx ((env.set j .no).set i (.od d)) else .stuck
  | .setXX i k x e, env => Out.of env (ev G e env) fun y => Out.of env (scalD y) fun c => Out.of env (odD env i) fun d => Out.of env (ev G k env) fun a => Out.of env (isInt a.2) fun a => Out.of env (rowL a d) fun p =>
      Out.of env (ev G x env) fun b => Out.of env (isInt b.2) fun b => Out.of env (rowS p b c d) fun d2 => .nx (env.set i (.od d2))
  | .appX i k e, env => Out.of env (odD env i) fun d => Out.of env (ev G k env) fun a => Out.of env (isInt a.2) fun a => Out.of env (rowL a d) fun p => Out.of env (ev G e env) fun y => Out.of env (scalD y) fun c =>
      if p.2.length < lim then .nx (env.set i (.od (putAt d p.1 (.list (p.2 ++ [c]))))) else .stuck
  | .movX i j e, env => Out.of env (odD env j) fun t => Out.of env (ev G e env) fun a => Out.of env (isInt a.2) fun a => Out.of env (itemsR t) fun ds => Out.of env (placed ds a) fun p => if i ≠ j then .nx ((env.set j .no).set i (.od p.2)) else .stuck
  | .lopA i j k c, env => Out.of env (odD env i) fun t => Out.of env (asL t) fun ds => match constD c with
      | some c => if i ≠ j ∧ j < env.length then Out.of env (eachR (rowA k c) ds) fun es => .nx ((env.set j .no).set i (.od (.list es))) else .stuck
      | none => .stuck
  | .lopS i j k x e, env => Out.of env (odD env i) fun t => Out.of env (asL t) fun ds => if i ≠ j ∧ j < env.length then
      Out.of env (nox (eachR (fun d => (ev G e ((env.set i .no).set j (.od d))).bind fun y => (scalD y).bind fun c => (rowL k d).bind fun p => (ev G x ((env.set i .no).set j (.od d))).bind fun b => (isInt b.2).bind fun b => rowS p b c d) ds)) fun es =>
        .nx ((env.set j .no).set i (.od (.list es))) else .stuck
  | .chg i x e, env => match G "!changed" with
    | none => .stuck
    | some _ => Out.of env (ownL env i) fun ds => Out.of env (ev G x env) fun a => Out.of env (isInt a.2) fun a => Out.of env (ev G e env) fun b => Out.of env (isInt b.2) fun b => Out.of env (chgV ds a b) fun es => .nx (env.set i (.ow (.list es)))
  | .rtn, _ => .ret .sh .none
  | .brk, env => .brk env
  | .cnt, env => .cnt env
  | .pas, env => .nx env
  | .rai c, env => .exc c env
  | .sda i k e, env => Out.of env (odD env i) fun d => Out.of env (asD d) fun kvs => Out.of env (ev G k env) fun a => match dkey a.2 with
      | none => .stuck
      | some kk => Out.of env (sdRow kvs kk) fun ws => Out.of env (nox (ev G e (env.set i .no))) fun y => Out.of env (scalD y) fun c =>
        if kvs.length < lim ∧ ws.length < lim then .nx (env.set i (.od (.dict (dPutK kvs kk (.list (ws ++ [c])))))) else .stuck
  | .appT i j, env => Out.of env (odD env i) fun t => Out.of env (asL t) fun ds => Out.of env (ownT env j) fun d => if i ≠ j ∧ ds.length < lim then .nx ((env.set j .no).set i (.od (.list (ds ++ [d])))) else .stuck
  | .lopP fz i j e x c, env => Out.of (frz fz env) (ev G e (frz fz env)) fun s => Out.of (frz fz env) (treeOf s) fun t => Out.of (frz fz env) (asL t) fun ds => Out.of (frz fz env) (odD (frz fz env) i) fun u => Out.of (frz fz env) (asL u) fun fs =>
      if i ≠ j ∧ j < (frz fz env).length ∧ fs.length + ds.length < lim then
        Out.of (frz fz env) (nox (eachR (fun d => (ev G x (((frz fz env).set i .no).set j .no)).bind fun b => (isInt b.2).bind fun b => bump b c d) ds)) fun es => .nx (((frz fz env).set j .no).set i (.od (.list (fs ++ es)))) else .stuck
  | .ins fz i k e, env => Out.of (frz fz env) (ownL (frz fz env) i) fun ds => Out.of (frz fz env) (ev G k (frz fz env)) fun a => Out.of (frz fz env) (isInt a.2) fun a => Out.of (frz fz env) (ev G e (frz fz env)) fun y => Out.of (frz fz env) (shOnly y) fun r =>
      if 0 ≤ a ∧ a ≤ 1000000 ∧ ds.length < lim then .nx ((frz fz env).set i (.ow (.list (ds.take a.toNat ++ [r] ++ ds.drop a.toNat)))) else .stuck
  | .tryA i ks hs b, env => (evS G W b env).caught i ks hs
  | .tryK x ks v b, env => (evS G W b env).caughtK x ks v
  | .rts f i, env => match G f with
    | none => .stuck
    | some g => Out.of env (odD env i) fun t => Out.of env (asL t) fun ds => match keysOf g ds with
      | some ks => if sortOk ks = true then .ret .tr (.list (sortV ds ks)) else .stuck
      | none => .stuck
  | .rtc _ j i a, env => Out.of env (odD env i) fun t => Out.of env (asL t) fun ds => Out.of env (nox (ev G a (env.set j .no))) fun y => Out.of env (scalD y) fun c =>
      if sortOk ds = true ∧ i ≠ j ∧ j < env.length ∧ ds.length ≤ lim then .ret .tr (.list ((sortV ds ds).map fun d => .tuple [c, d])) else .stuck
  | .apc e c, env => Out.of env (ev G e env) fun x => match x with
    | (.ow, .list ds) => Out.of env (nox (ev G c env)) fun y => Out.of env (scalD y) fun _ => if ds.length < lim then .nx env else .stuck
    | _ => .stuck
  | .alS i j c pl k q e, env => match alV G i j c pl k q e env with | .ok e2 => .nx e2 | _ => .stuck
def evSs (G : Gam) (W : Nat) : List Sx → Env → Out
  | [], env => .nx env
  | s :: r, env => (evS G W s env).then fun e => evSs G W r e
end
/-- a def: its value from its arguments' -/
def evDef (G : Gam) (W sz k : Nat) (b : List Sx) (ds : List D) : R TD :=
  if ds.length ≠ k then .stuck else match evSs G W b (ds.map Slot.sh ++ List.replicate (sz - ds.length) Slot.no) with
  | .ret .sh d => .ok (.sh, d)
  | .ret .ow d => .ok (.ow, d)
  | .ret .tr d => .ok (.tr, d)
  | .nx _ => .ok (.sh, .none)
  | .exc c _ => .exc c
  | _ => .stuck

/-! ### the look: which text a piece stands for -/
open L2 (relS)
def visB (sc : Scope) (x : Str) : Bool := match sc.names.lookup x with | some .local => true | some .cell => true | some .free => true | _ => false
def glB (sc : Scope) (x : Str) : Bool := match sc.names.lookup x with | some .globalImplicit => true | _ => false
def nmB (x : Str) : Bool := !(x == "__debug__") && !(x == "__classdict__")
/-- a name that may be stored: its slot; in a block only the block's own cells -/
def stB (N : List Str) (sc : Scope) (cok : Str → Bool) (i : Nat) (x : Str) : Bool :=
  decide (N[i]? = some x) && (match sc.names.lookup x with | some .local => true | some .cell => cok x | _ => false)
def bopE : Bop → Operator | .add => .Add | .sub => .Sub | .mul => .Mult | .fdv => .FloorDiv | .mod => .Mod | .pow => .Pow | .band => .BitAnd | .shl => .LShift | .shr => .RShift
def copE : Cop → CmpOp | .eq => .Eq | .ne => .NotEq | .lt => .Lt | .le => .LtE | .gt => .Gt | .ge => .GtE | .is => .Is | .isn => .IsNot | .inn => .In | .nin => .NotIn
def Bi.name : Bi → Str | .len => "len" | .abs => "abs" | .min => "min" | .max => "max" | .int => "int" | .list => "list" | .tuple => "tuple" | .sum => "sum" | .any => "any" | .all => "all" | .sorted => "sorted" | .repr => "repr" | .str => "str"
def Bi.calm : Bi → Bool | .min => false | .max => false | .sum => false | .any => false | .all => false | _ => true
def Ty.name : Ty → String | .int => "int" | .bool => "bool" | .str => "str" | .list => "list" | .tuple => "tuple"
def glN (sc : Scope) (bs : List Str) (x : Str) : Bool := glB sc x && decide (x ∈ bs)
def chkTg (N : List Str) (sc : Scope) (cok : Str → Bool) : Tg → Expr → Bool
  | .nm i, .Name x _ => stB N sc cok i x
  | .tp is, .Tuple es _ _ => go is es
  | _, _ => false
where go : List Nat → List Expr → Bool
  | [], [] => true
  | i :: is, .Name x _ :: es => stB N sc cok i x && go is es
  | _, _ => false
def tgIn : Tg → List Nat → Bool | .nm i, vs => vs.contains i | .tp is, vs => is.all fun i => vs.contains i
def isTupE : Expr → Bool | .Tuple _ _ _ => true | _ => false
def noSet : Expr → Bool | .Set .. => false | _ => true
def valE : Expr → Bool | .Compare .. => true | .Call .. => true | _ => false
def truE : Expr → Bool | .Name .. => true | .Subscript .. => true | .Call .. => true | _ => false
def attrOk : Expr → Bool | .Constant .. => true | .Name .. => true | _ => false
def frzE : Expr → Bool | .Call .. => true | _ => false
def isTI : Ex → Bool | .trI _ => true | _ => false
def isLC : Expr → Bool | .ListComp .. => true | _ => false
def isM1 : Expr → Bool | .UnaryOp .USub (.Constant c _ _) _ => decide (c = .int 1) | _ => false
def noSl : Expr → Bool | .Slice .. => false | _ => true
mutual
def chkE (N : List Str) (bs : List Str) : Ex → Scope → Expr → Bool
  | .var i, sc, .Name x _ => decide (N[i]? = some x) && visB sc x && nmB x
  | .cst c, _, .Constant c' _ _ => decide (c = c') && (constD c).isSome
  | .bin o a b, sc, .BinOp l op r _ => decide (op = bopE o) && chkE N bs a sc l && chkE N bs b sc r
  | .neg a, sc, .UnaryOp .USub x _ => chkE N bs a sc x
  | .cmp o a b, sc, .Compare l [op] [r] _ => decide (op = copE o) && chkE N bs a sc l && chkE N bs b sc r
  | .chn o p a b c, sc, .Compare l [op, op'] [m, r] _ => decide (op = copE o) && decide (op' = copE p) && chkE N bs a sc l && chkE N bs b sc m && chkE N bs c sc r
  | .lan es, sc, .BoolOp .And vs _ => chkEs N bs es sc vs
  | .lor es, sc, .BoolOp .Or vs _ => chkEs N bs es sc vs
  | .lno a, sc, .UnaryOp .Not x _ => chkE N bs a sc x
  | .ife c a b, sc, .IfExp t l r _ => chkT N bs c sc t && chkE N bs a sc l && chkE N bs b sc r
  | .tup es, sc, .Tuple xs _ _ => chkEs N bs es sc xs
  | .lst es, sc, .List xs _ => chkEs N bs es sc xs
  | .ix a b, sc, .Subscript v s _ => noSl s && chkE N bs a sc v && chkE N bs b sc s
  | .sli a lo hi, sc, .Subscript v (.Slice l h none _) _ => chkE N bs a sc v && chkP N bs lo sc l && chkP N bs hi sc h
  | .call f es, sc, .Call (.Name x _) (y :: ys) [] _ => decide (x = f) && !bang f && glB sc x && nmB x && chkEs N bs es sc (y :: ys)
  | .callK f k es v, sc, .Call (.Name x _) (y :: ys) [⟨some z, u, _⟩] _ => decide (x = f) && decide (z = k) && glB sc x && nmB x && chkEs N bs es sc (y :: ys) && chkE N bs v sc u
  | .glo x, sc, .Name y _ => decide (x = y) && glB sc y && nmB y
  | .callD f es, sc, .Call (.Name x _) (y :: ys) [] _ => decide (x = f) && glB sc x && nmB x && chkEs N bs es sc (y :: ys)
  | .lsT a, sc, .List [x] _ => chkE N bs a sc x
  | .lrv a, sc, .Call (.Name x _) [.Call (.Name z _) [y] [] _] [] _ => decide (x = "list") && glN sc bs x && decide (z = "reversed") && glN sc bs z && decide (("range" : Str) ∈ bs) && chkE N bs a sc y
  | .srd a, sc, .Call (.Name x _) [y] [] _ => decide (x = "sorted") && glN sc bs x && decide (("range" : Str) ∈ bs) && chkE N bs a sc y
  | .bi b es, sc, .Call (.Name x _) (y :: ys) [] _ => decide (x = b.name) && glN sc bs x && (b.calm || decide (("range" : Str) ∈ bs)) && chkEs N bs es sc (y :: ys)
  | .isi a t, sc, .Call (.Name x _) [y, .Name z _] [] _ => decide (x = "isinstance") && glN sc bs x && decide (z = t.name) && glN sc bs z && chkE N bs a sc y
  | .join a b, sc, .Call (.Attribute o m ap) [y] [] p => decide (m = "join") && decide (ap.endLine = p.line) && attrOk o && chkE N bs a sc o && chkE N bs b sc y
  | .dnew, _, .Dict [] [] _ => true
  | .dix a b, sc, .Subscript v s _ => noSl s && chkE N bs a sc v && chkE N bs b sc s
  | .dcpy a, sc, .Call (.Name x _) [y] [] _ => decide (x = "dict") && glN sc bs x && chkE N bs a sc y
  | .prT es, sc, .Tuple xs _ _ => chkEs N bs es sc xs
  | .srk f a, sc, .Call (.Name x _) [y] [⟨some k, .Name z _, _⟩] _ => decide (x = "sorted") && glN sc bs x && decide (k = "key") && decide (z = f) && !bang f && glB sc z && nmB z && chkE N bs a sc y
  | .tmp _ a, sc, x => frzE x && chkE N bs a sc x
  | .frz a, sc, x => frzE x && chkE N bs a sc x
  | .trI a, sc, x => isLC x && chkE N bs a sc x
  | .cpr own tg src c e, sc, .ListComp elt [⟨t, it, ifs, z⟩] scope _ => decide (z = 0) && decide (("range" : Str) ∈ bs) && L2.blkC N sc scope own && chkTg N (relS scope sc) (fun x => scope.names.lookup x == some .cell) tg t && chkSrc N bs src sc it t &&
      chkTs N bs c (relS scope sc) ifs && decide (ifs.length ≤ 1) && chkE N bs e (relS scope sc) elt && tgIn tg (own.map (·.2))
  | _, _, _ => false
def chkEs (N : List Str) (bs : List Str) : Exs → Scope → List Expr → Bool
  | .nil, _, [] => true
  | .cons e es, sc, x :: xs => chkE N bs e sc x && chkEs N bs es sc xs
  | _, _, _ => false
def chkP (N : List Str) (bs : List Str) : Pt → Scope → Option Expr → Bool
  | .no, _, none => true
  | .at e, sc, some x => chkE N bs e sc x
  | _, _, _ => false
def chkT (N : List Str) (bs : List Str) : Te → Scope → Expr → Bool
  | .val e, sc, x => valE x && chkE N bs e sc x
  | .tru e, sc, x => truE x && chkE N bs e sc x
  | .not a, sc, .UnaryOp .Not x _ => chkT N bs a sc x
  | .and ts, sc, .BoolOp .And xs _ => !xs.isEmpty && chkTs N bs ts sc xs
  | .or ts, sc, .BoolOp .Or xs _ => !xs.isEmpty && chkTs N bs ts sc xs
  | _, _, _ => false
def chkTs (N : List Str) (bs : List Str) : Tes → Scope → List Expr → Bool
  | .nil, _, [] => true
  | .cons t ts, sc, x :: xs => chkT N bs t sc x && chkTs N bs ts sc xs
  | _, _, _ => false
def chkSrc (N : List Str) (bs : List Str) : Src → Scope → Expr → Expr → Bool
  | .lst e, sc, x, _ => noSet x && chkE N bs e sc x
  | .tup e, sc, x, _ => noSet x && chkE N bs e sc x
  | .rg1 a, sc, .Call (.Name x _) [y] [] _, _ => decide (x = "range") && glN sc bs x && chkE N bs a sc y
  | .rg2 a b, sc, .Call (.Name x _) [y, z] [] _, _ => decide (x = "range") && glN sc bs x && chkE N bs a sc y && chkE N bs b sc z
  | .rgd a b, sc, .Call (.Name x _) [y, z, u] [] _, _ => isM1 u && decide (x = "range") && glN sc bs x && chkE N bs a sc y && chkE N bs b sc z
  | .enu a, sc, .Call (.Name x _) [y] [] _, tg => decide (x = "enumerate") && glN sc bs x && chkE N bs a sc y && isTupE tg
  | .zip a b, sc, .Call (.Name x _) [y, z] [] _, tg => decide (x = "zip") && glN sc bs x && chkE N bs a sc y && chkE N bs b sc z && isTupE tg
  | .rev a, sc, .Call (.Name x _) [y] [] _, _ => decide (x = "reversed") && glN sc bs x && chkE N bs a sc y
  | _, _, _, _ => false
end
def augO : Bop → Bool | .add => true | .sub => true | _ => false
def chkR (sc : Scope) (cs : List Str) (c : Str) : Expr → Bool
  | .Call (.Name x _) [.Constant (.str _) _ _] [] _ => decide (x = c) && glB sc x && nmB x && decide (x ∈ cs)
  | _ => false
def isPlainV : Expr → Bool | .ListComp .. => false | _ => true
def isCallE : Expr → Bool | .Call .. => true | _ => false
def vr (N : List Str) (sc : Scope) (i : Nat) (x : Str) : Bool := decide (N[i]? = some x) && visB sc x && nmB x
def kAsgO (N bs : List Str) (sc : Scope) (i : Nat) (e : Ex) : Stmt → Bool
  | .Assign [.Name x _] v _ => isPlainV v && stB N sc (fun _ => true) i x && chkE N bs e sc v
  | _ => false
def kApp (N bs : List Str) (sc : Scope) (i : Nat) (e : Ex) : Stmt → Bool
  | .Expr (.Call (.Attribute (.Name x _) m ap) [y] [] p) _ => decide (m = "append") && decide (ap.endLine = p.line) && vr N sc i x && chkE N bs e sc y
  | _ => false
def kRtp (N bs : List Str) (sc : Scope) (a : Ex) (i : Nat) : Stmt → Bool
  | .Return (some (.Tuple [y, .Name x _] _ _)) _ => chkE N bs a sc y && vr N sc i x
  | _ => false
def kAppP (N bs : List Str) (sc : Scope) (i : Nat) (a : Ex) (j : Nat) : Stmt → Bool
  | .Expr (.Call (.Attribute (.Name x _) m ap) [.Tuple [y, .Name z _] _ _] [] p) _ => decide (m = "append") && decide (ap.endLine = p.line) && vr N sc i x && chkE N bs a sc y && vr N sc j z
  | _ => false
def kMov (N : List Str) (sc : Scope) (i j : Nat) : Stmt → Bool
  | .Assign [.Name x _] (.Name z _) _ => stB N sc (fun _ => true) i x && vr N sc j z
  | _ => false
def kMovX (N bs : List Str) (sc : Scope) (i j : Nat) (e : Ex) : Stmt → Bool
  | .Assign [.Name x _] (.Subscript (.Name y _) s _) _ => stB N sc (fun _ => true) i x && vr N sc j y && noSl s && chkE N bs e sc s
  | _ => false
def kSetXX (N bs : List Str) (sc : Scope) (i : Nat) (k l e : Ex) : Stmt → Bool
  | .Assign [.Subscript (.Subscript (.Name x _) s _) u _] v _ => vr N sc i x && noSl s && noSl u && chkE N bs k sc s && chkE N bs l sc u && chkE N bs e sc v
  | _ => false
def kAppX (N bs : List Str) (sc : Scope) (i : Nat) (k e : Ex) : Stmt → Bool
  | .Expr (.Call (.Attribute (.Subscript (.Name x _) s _) m ap) [y] [] p) _ => decide (m = "append") && decide (ap.endLine = p.line) && vr N sc i x && noSl s && chkE N bs k sc s && chkE N bs e sc y
  | _ => false
def kLopA (N bs : List Str) (sc : Scope) (i j : Nat) (k : Int) (c : Const) : Stmt → Bool
  | .For (.Name r _) (.Name x _) [.Expr (.Call (.Attribute (.Subscript (.Name r2 _) s _) m ap) [y] [] p) _] [] _ => decide (("range" : Str) ∈ bs) && decide (m = "append") && decide (ap.endLine = p.line) &&
      vr N sc i x && stB N sc (fun _ => true) j r && vr N sc j r2 && noSl s && chkE N bs (.cst (.int k)) sc s && chkE N bs (.cst c) sc y
  | _ => false
def kLopS (N bs : List Str) (sc : Scope) (i j : Nat) (k : Int) (l e : Ex) : Stmt → Bool
  | .For (.Name r _) (.Name x _) [.Assign [.Subscript (.Subscript (.Name r2 _) s _) u _] v _] [] _ => decide (("range" : Str) ∈ bs) &&
      vr N sc i x && stB N sc (fun _ => true) j r && vr N sc j r2 && noSl s && noSl u && chkE N bs (.cst (.int k)) sc s && chkE N bs l sc u && chkE N bs e sc v
  | _ => false
def kChg (N bs : List Str) (sc : Scope) (i : Nat) (l e : Ex) : Stmt → Bool
  | .Expr (.Call (.Name f _) [.Name x _, y, z] [] _) _ => decide (f = "changed") && glB sc f && nmB f && vr N sc i x && chkE N bs l sc y && chkE N bs e sc z
  | _ => false
/-- a class that may be named: an own one, or ValueError -/
def kCls (sc : Scope) (bs cs : List Str) (x : Str) : Bool := if x = "ValueError" then glN sc bs x else glB sc x && nmB x && (decide (x ∈ cs) || decide (x = "LegionError"))
def kClss (sc : Scope) (bs cs : List Str) : List Str → List Expr → Bool
  | [], [] => true
  | c :: r, .Name z _ :: es => decide (z = c) && kCls sc bs cs z && kClss sc bs cs r es
  | _, _ => false
def kUb (N bs cs : List Str) (sc : Scope) (i : Nat) : Ub → Expr → Bool
  | .isE xs, .Call (.Name x _) [.Name y _, .Tuple zs _ _] [] _ => decide (x = "isinstance") && glN sc bs x && vr N sc i y && kClss sc bs cs xs zs && decide (xs.length < 1000)
  | .isE xs, .Call (.Name x _) [.Name y _, z] [] _ => decide (x = "isinstance") && glN sc bs x && vr N sc i y && kClss sc bs cs xs [z]
  | .not a, .UnaryOp .Not x _ => kUb N bs cs sc i a x
  | .and2 a b, .BoolOp .And [x, y] _ => kUb N bs cs sc i a x && kUb N bs cs sc i b y
  | .and3 a b c, .BoolOp .And [x, y, z] _ => kUb N bs cs sc i a x && kUb N bs cs sc i b y && kUb N bs cs sc i c z
  | _, _ => false
def kUt (N bs cs : List Str) (sc : Scope) (i : Nat) : Ub → Expr → Bool
  | .and2 a b, .BoolOp .And [x, y] _ => kUt N bs cs sc i a x && kUt N bs cs sc i b y
  | .not a, .UnaryOp .Not x _ => kUt N bs cs sc i a x
  | .isE xs, .Call f a k p => kUb N bs cs sc i (.isE xs) (.Call f a k p)
  | _, _ => false
def kSux (N bs cs : List Str) (sc : Scope) (i : Nat) : Sux → Stmt → Bool
  | .ret u, .Return (some e) _ => kUb N bs cs sc i u e
  | .rets u x y, .Return (some (.IfExp e (.Constant (.str a) _ _) (.Constant (.str b) _ _) _)) _ => kUt N bs cs sc i u e && decide (a = x) && decide (b = y)
  | .addI j u, .Assign [.Name x _] (.BinOp (.Name y _) .Add (.Call (.Name f _) [e] [] _) _) _ => decide (i ≠ j) && stB N sc (fun _ => true) j x && vr N sc j y && decide (f = "int") && glN sc bs f && kUb N bs cs sc i u e
  | .pas, .Pass _ => true
  | .retE u v w p q, .Return (some (.BoolOp .And [x1, x2, x3, x4, x5] _)) _ => decide (("repr" : Str) ∈ bs) && kUb N bs cs sc i u x1 && kUb N bs cs sc i v x2 && kUb N bs cs sc i w x3 && chkE N ["repr"] p sc x4 && chkE N ["repr"] q sc x5
  | _, _ => false
def kHs (N bs cs : List Str) (sc : Scope) (i : Nat) : List (Str × Sux) → List ExceptHandler → Bool
  | [], [] => true
  | h :: r, .ExceptHandler (some (.Name x _)) (some n) [st] _ :: hs => decide (x = h.1) && decide (x ∈ cs) && glB sc x && nmB x && decide (N[i]? = some n) && (sc.names.lookup n == some .local) && kSux N bs cs sc i h.2 st && kHs N bs cs sc i r hs
  | _, _ => false
def kIns (N bs : List Str) (sc : Scope) (i : Nat) (k e : Ex) : Stmt → Bool
  | .Expr (.Call (.Attribute (.Name x _) m ap) [u, y] [] p) _ => decide (m = "insert") && decide (ap.endLine = p.line) && vr N sc i x && chkE N bs k sc u && chkE N bs e sc y
  | _ => false
def kSda (N bs : List Str) (sc : Scope) (i : Nat) (k e : Ex) : Stmt → Bool
  | .Expr (.Call (.Attribute (.Call (.Attribute (.Name x _) m1 ap1) [u, .List [] _] [] p1) m ap) [y] [] p) _ => decide (m1 = "setdefault") && decide (ap1.endLine = p1.line) && decide (m = "append") && decide (ap.endLine = p.line) &&
      vr N sc i x && chkE N bs k sc u && chkE N bs e sc y
  | _ => false
def kAppT (N bs : List Str) (sc : Scope) (i j : Nat) : Stmt → Bool
  | .Expr (.Call (.Attribute (.Name x _) m ap) [.Name z _] [] p) _ => decide (m = "append") && decide (ap.endLine = p.line) && vr N sc i x && vr N sc j z
  | _ => false
def kLopP (N bs : List Str) (sc : Scope) (i j : Nat) (e x : Ex) (c : Int) : Stmt → Bool
  | .For (.Name r _) it [.AugAssign (.Subscript (.Name r2 _) s _) op v _, .Expr (.Call (.Attribute (.Name f _) m ap) [.Name r3 _] [] p) _] [] _ => decide (("range" : Str) ∈ bs) && decide (op = .Add) && decide (m = "append") && decide (ap.endLine = p.line) &&
      noSet it && chkE N bs e sc it && stB N sc (fun _ => true) j r && vr N sc j r2 && vr N sc j r3 && vr N sc i f && noSl s && chkE N bs x sc s && chkE N bs (.cst (.int c)) sc v
  | _ => false
def kAlS (N bs : List Str) (sc : Scope) (i j c pl : Nat) (k q e : Ex) : Stmt → Stmt → Stmt → Stmt → Bool
  | .Assign [.Name o1 _] (.Subscript (.Name m1 _) s1 _) _, .Assign [.Name c1 _] (.Subscript (.Name o2 _) s2 _) _, .Assign [.Name p1 _] v3 _, .Assign [.Subscript (.Name c2 _) (.Name p2 _) _] v4 _ =>
      stB N sc (fun _ => true) j o1 && vr N sc i m1 && noSl s1 && chkE N bs k sc s1 && stB N sc (fun _ => true) c c1 && vr N sc j o2 && noSl s2 && chkE N bs (.cst (.int 1)) sc s2 && stB N sc (fun _ => true) pl p1 && isPlainV v3 && chkE N bs q sc v3 && vr N sc c c2 && vr N sc pl p2 && chkE N bs e sc v4
  | _, _, _, _ => false
def kApc (N bs : List Str) (sc : Scope) (e c : Ex) : Stmt → Bool
  | .Expr (.Call (.Attribute (.Call (.Name f pf) (a :: as) ks p2) m ap) [y] [] p) _ => decide (m = "append") && decide (ap.endLine = p.line) && chkE N bs e sc (.Call (.Name f pf) (a :: as) ks p2) && chkE N bs c sc y
  | _ => false
def kRts (N bs : List Str) (sc : Scope) (f : Str) (i : Nat) : Stmt → Bool
  | .Return (some (.Call (.Name x _) [.Name y _] [⟨some k, .Name z _, _⟩] _)) _ => decide (x = "sorted") && glN sc bs x && decide (k = "key") && decide (z = f) && !bang f && glB sc z && nmB z && vr N sc i y
  | _ => false
/-- return [(a, y) for y in sorted(x)], x an own tree -/
def kRtc (N bs : List Str) (sc : Scope) (x : Str) (j i : Nat) (a : Ex) : Stmt → Bool
  | .Return (some (.ListComp (.Tuple [e1, .Name y _] _ _) [⟨t, .Call (.Name z _) [.Name u _] [] _, [], m⟩] scope _)) _ => decide (m = 0) && decide (("range" : Str) ∈ bs) && L2.blkC N sc scope [(x, j)] && chkTg N (relS scope sc) (fun x => scope.names.lookup x == some .cell) (.nm j) t && decide (z = "sorted") && glN sc bs z && vr N sc i u && chkE N bs a (relS scope sc) e1 && vr N (relS scope sc) j y
  | _ => false
def alOf : Sx → Option (Nat × Nat × Nat × Nat × Ex × Ex × Ex) | .alS i j c pl k q e => some (i, j, c, pl, k, q, e) | _ => none
/-- the text of changed -/
def isChg : List Stmt → Bool
  | [.If (.Compare (.Subscript (.Name a _) (.Name b _) _) [.IsNot] [.Constant .none _ _] _) [.AugAssign (.Subscript (.Name c _) (.Name d _) _) .Add (.Name e _) _] [] _] => decide (a = "counts") && decide (b = "place") && decide (c = "counts") && decide (d = "place") && decide (e = "change")
  | _ => false
mutual
def chkS (N : List Str) (bs cs : List Str) (sc : Scope) : Sx → Stmt → Bool
  | .asg _ i e, .Assign [.Name x _] v _ => stB N sc (fun _ => true) i x && !isTI e && chkE N bs e sc v
  | .asgT _ is e, .Assign [.Tuple es _ _] v _ => decide (("range" : Str) ∈ bs) && chkTg.go N sc (fun _ => true) is es && !isTupE v && chkE N bs e sc v
  | .aug i o e, .AugAssign (.Name x _) op v _ => augO o && decide (op = bopE o) && stB N sc (fun _ => true) i x && chkE N bs e sc v
  | .augX i o k e, .AugAssign (.Subscript (.Name x _) s _) op v _ => augO o && decide (op = bopE o) && decide (N[i]? = some x) && visB sc x && nmB x && noSl s && chkE N bs k sc s && chkE N bs e sc v
  | .setX _ i k e, .Assign [.Subscript (.Name x _) s _] v _ => decide (N[i]? = some x) && visB sc x && nmB x && noSl s && chkE N bs k sc s && chkE N bs e sc v
  | .setD _ i k e, .Assign [.Subscript (.Name x _) s _] v _ => decide (N[i]? = some x) && visB sc x && nmB x && noSl s && chkE N bs k sc s && chkE N bs e sc v
  | .app _ i e, .Expr (.Call (.Attribute (.Name x _) m ap) [y] [] p) _ => decide (m = "append") && decide (ap.endLine = p.line) && decide (N[i]? = some x) && visB sc x && nmB x && chkE N bs e sc y
  | .exp e, .Expr v _ => isCallE v && chkE N bs e sc v
  | .ifs c a b, .If t x y _ => chkT N bs c sc t && chkSs N bs cs sc a x && chkSs N bs cs sc b y
  | .whl c a, .While t x [] _ => chkT N bs c sc t && chkSs N bs cs sc a x
  | .lop _ tg src a, .For t it x [] _ => decide (("range" : Str) ∈ bs) && chkTg N sc (fun _ => true) tg t && chkSrc N bs src sc it t && chkSs N bs cs sc a x
  | .ret _ e, .Return (some v) _ => chkE N bs e sc v
  | .rtv i, .Return (some (.Name x _)) _ => decide (N[i]? = some x) && visB sc x && nmB x
  | .rtn, .Return none _ => true
  | .asgO _ i e, s => kAsgO N bs sc i e s
  | .appO _ i e, s => kApp N bs sc i e s
  | .rtp a i, s => kRtp N bs sc a i s
  | .appP i a j, s => kAppP N bs sc i a j s
  | .mov i j, s => kMov N sc i j s
  | .setXX i k l e, s => kSetXX N bs sc i k l e s
  | .appX i k e, s => kAppX N bs sc i k e s
  | .movX i j e, s => kMovX N bs sc i j e s
  | .lopA i j k c, s => kLopA N bs sc i j k c s
  | .lopS i j k l e, s => kLopS N bs sc i j k l e s
  | .chg i l e, s => kChg N bs sc i l e s
  | .ins _ i k e, s => kIns N bs sc i k e s
  | .sda i k e, s => kSda N bs sc i k e s
  | .appT i j, s => kAppT N bs sc i j s
  | .lopP _ i j e x c, s => kLopP N bs sc i j e x c s
  | .brk, .Break _ => true
  | .cnt, .Continue _ => true
  | .pas, .Pass _ => true
  | .tryA i ks hs b, .Try [x] hds [] [] _ => decide (("!try" : Str) ∈ bs) && ks.all (fun c => decide (c ∈ cs)) && decide (0 < hs.length) && kHs N bs cs sc i hs hds && chkS N bs cs sc b x
  | .tryK y ks v b, .Try [x] [.ExceptHandler (some (.Name z _)) none [.Return (some (.Constant (.bool u) _ _)) _] _] [] [] _ => decide (("!try" : Str) ∈ bs) && ks.all (fun c => decide (c ∈ cs)) && decide (z = y) && decide (y ∈ cs) && glB sc y && nmB y && decide (u = v) && chkS N bs cs sc b x
  | .rai c, .Raise (some e) none _ => decide (("range" : Str) ∈ bs) && chkR sc cs c e
  | .alS _ _ _ _ _ _ _, _ => false
  | .apc e c, s => kApc N bs sc e c s
  | .rts f i, s => kRts N bs sc f i s
  | .rtc x j i a, s => kRtc N bs sc x j i a s
  | _, _ => false
def chkSs (N : List Str) (bs cs : List Str) (sc : Scope) : List Sx → List Stmt → Bool
  | [], [] => true
  | s :: r, st => match alOf s with
    | some a => (match st with | x1 :: x2 :: x3 :: x4 :: xs => kAlS N bs sc a.1 a.2.1 a.2.2.1 a.2.2.2.1 a.2.2.2.2.1 a.2.2.2.2.2.1 a.2.2.2.2.2.2 x1 x2 x3 x4 && chkSs N bs cs sc r xs | _ => false)
    | none => (match st with | x :: xs => chkS N bs cs sc s x && chkSs N bs cs sc r xs | [] => false)
  | _, _ => false
end
end PV

/-! PvRel: how the layer's heap bears pure data. -/
namespace PV
open PySem PySem.Spec PyProof.Rows L2

def keyD : Key → D | .inl i => .int i | .inr x => .str x
/-- a list that is read: tracked, locked, or one of the written part in its plain form -/
def LL (K : PySem.W.Frag) (H : Hp) (a : Addr) (vs : List V) : Prop :=
  Rd H a (.lst vs) ∨ ∃ (its : List Value) (n : Nat), K.lookup a = some { cls := .type "list", data := .seq its.toArray n } ∧ Vals vs its ∧ its.length ≤ sizeLine
theorem LL.seq {K : PySem.W.Frag} {H : Hp} {a : Addr} {vs : List V} (h : LL K H a vs) : SqL K H a vs := by
  rcases h with h | ⟨its, n, h1, h2, h3⟩
  · exact .inl h
  · exact .inr ⟨_, its.toArray, n, h1, rfl, rfl, rfl, by simpa using h3, by simpa using h2⟩
theorem rd_mono {H H' : Hp} {a : Addr} {u : HO} (e : Same H H') (h : Rd H a u) : Rd H' a u := by
  rcases h with h | ⟨o, h⟩
  · exact .inl (e _ _ h)
  · exact .inr ⟨o, e _ _ h⟩
theorem LL.mono {K : PySem.W.Frag} {H H' : Hp} {a : Addr} {vs : List V} (e : Same H H') (h : LL K H a vs) : LL K H' a vs := by
  rcases h with h | h
  · exact .inl (rd_mono e h)
  · exact .inr h
theorem sqT_mono {K : PySem.W.Frag} {H H' : Hp} {a : Addr} {vs : List V} (e : Same H H') (h : SqT K H a vs) : SqT K H' a vs := by
  rcases h with h | h
  · exact .inl (rd_mono e h)
  · exact .inr h
theorem LL.of {K : PySem.W.Frag} {H : Hp} {a : Addr} {vs : List V} (h : H a = some (.lst vs)) : LL K H a vs := .inl (.inl h)
mutual
def Is (K : PySem.W.Frag) (H : Hp) : D → V → Prop
  | .none, v => v = .non
  | .bool b, v => v = .bl b
  | .int i, v => v = .int i
  | .str x, v => v = .str x
  | .list ds, v => ∃ a vs, v = .ref a ∧ LL K H a vs ∧ IsL K H ds vs
  | .tuple ds, v => ∃ a vs, v = .ref a ∧ SqT K H a vs ∧ IsL K H ds vs
  | .dict kvs, v => ∃ a es, v = .ref a ∧ H a = some (.dK es) ∧ IsK K H kvs es
def IsL (K : PySem.W.Frag) (H : Hp) : List D → List V → Prop
  | [], vs => vs = []
  | d :: ds, vs => ∃ v r, vs = v :: r ∧ Is K H d v ∧ IsL K H ds r
def IsK (K : PySem.W.Frag) (H : Hp) : List (D × D) → List (Key × V) → Prop
  | [], es => es = []
  | (k, d) :: r, es => ∃ kk v es', es = (kk, v) :: es' ∧ k = keyD kk ∧ Is K H d v ∧ IsK K H r es'
end
section
variable {K : PySem.W.Frag} {H H' : Hp}
mutual
theorem Is.mono (e : Same H H') : ∀ {d : D} {v : V}, Is K H d v → Is K H' d v
  | .none, _, h => by simpa only [Is] using h
  | .bool _, _, h => by simpa only [Is] using h
  | .int _, _, h => by simpa only [Is] using h
  | .str _, _, h => by simpa only [Is] using h
  | .list ds, v, h => by
    simp only [Is] at h ⊢
    obtain ⟨a, vs, h1, h2, h3⟩ := h
    exact ⟨a, vs, h1, h2.mono e, IsL.mono e h3⟩
  | .tuple ds, v, h => by
    simp only [Is] at h ⊢
    obtain ⟨a, vs, h1, h2, h3⟩ := h
    exact ⟨a, vs, h1, sqT_mono e h2, IsL.mono e h3⟩
  | .dict kvs, v, h => by
    simp only [Is] at h ⊢
    obtain ⟨a, vs, h1, h2, h3⟩ := h
    exact ⟨a, vs, h1, e _ _ h2, IsK.mono e h3⟩
theorem IsL.mono (e : Same H H') : ∀ {ds : List D} {vs : List V}, IsL K H ds vs → IsL K H' ds vs
  | [], _, h => by simpa only [IsL] using h
  | d :: ds, vs, h => by
    simp only [IsL] at h ⊢
    obtain ⟨v, r, h1, h2, h3⟩ := h
    exact ⟨v, r, h1, Is.mono e h2, IsL.mono e h3⟩
theorem IsK.mono (e : Same H H') : ∀ {ds : List (D × D)} {vs : List (Key × V)}, IsK K H ds vs → IsK K H' ds vs
  | [], _, h => by simpa only [IsK] using h
  | (k, d) :: ds, vs, h => by
    simp only [IsK] at h ⊢
    obtain ⟨kk, v, r, h1, h0, h2, h3⟩ := h
    exact ⟨kk, v, r, h1, h0, Is.mono e h2, IsK.mono e h3⟩
end
theorem IsL.nil : IsL K H [] [] := by simp only [IsL]
theorem IsL.cons {d : D} {v : V} {ds : List D} {vs : List V} (h : Is K H d v) (t : IsL K H ds vs) : IsL K H (d :: ds) (v :: vs) := by
  simp only [IsL]
  exact ⟨v, vs, rfl, h, t⟩
theorem IsL.len : ∀ {ds : List D} {vs : List V}, IsL K H ds vs → vs.length = ds.length
  | [], _, h => by
    simp only [IsL] at h
    subst h
    rfl
  | d :: ds, _, h => by
    simp only [IsL] at h
    obtain ⟨v, r, rfl, _, t⟩ := h
    simp only [List.length_cons, IsL.len t]
theorem IsL.get : ∀ {ds : List D} {vs : List V} {i : Nat} {d : D}, IsL K H ds vs → ds[i]? = some d → ∃ v, vs[i]? = some v ∧ Is K H d v
  | [], _, _, _, _, e => by simp at e
  | d :: ds, _, 0, _, h, e => by
    simp only [IsL] at h
    obtain ⟨v, r, rfl, q, t⟩ := h
    simp at e
    subst e
    exact ⟨v, rfl, q⟩
  | d :: ds, _, i + 1, _, h, e => by
    simp only [IsL] at h
    obtain ⟨v, r, rfl, q, t⟩ := h
    obtain ⟨w, e1, e2⟩ := IsL.get (i := i) t (by simpa using e)
    exact ⟨w, by simpa using e1, e2⟩
theorem IsL.getV {ds : List D} {vs : List V} {i : Nat} {v : V} (h : IsL K H ds vs) (e : vs[i]? = some v) : ∃ d, ds[i]? = some d ∧ Is K H d v := by
  have hi : i < ds.length := by
    have := (List.getElem?_eq_some_iff.mp e).1
    rw [h.len] at this
    exact this
  obtain ⟨w, e1, e2⟩ := h.get (List.getElem?_eq_getElem hi)
  rw [e] at e1
  cases e1
  exact ⟨_, List.getElem?_eq_getElem hi, e2⟩
theorem IsL.app : ∀ {ds es : List D} {vs ws : List V}, IsL K H ds vs → IsL K H es ws → IsL K H (ds ++ es) (vs ++ ws)
  | [], _, _, _, h, t => by
    simp only [IsL] at h
    subst h
    exact t
  | d :: ds, _, _, _, h, t => by
    simp only [IsL] at h
    obtain ⟨v, r, rfl, q, u⟩ := h
    exact .cons q (IsL.app u t)
theorem IsL.one {d : D} {v : V} (h : Is K H d v) : IsL K H [d] [v] := .cons h .nil
theorem IsL.take : ∀ {ds : List D} {vs : List V} (n : Nat), IsL K H ds vs → IsL K H (ds.take n) (vs.take n)
  | _, _, 0, _ => by
    rw [List.take_zero, List.take_zero]
    exact .nil
  | [], _, n + 1, h => by
    simp only [IsL] at h
    subst h
    exact .nil
  | d :: ds, _, n + 1, h => by
    simp only [IsL] at h
    obtain ⟨v, r, rfl, q, u⟩ := h
    exact .cons q (IsL.take n u)
theorem IsL.drop : ∀ {ds : List D} {vs : List V} (n : Nat), IsL K H ds vs → IsL K H (ds.drop n) (vs.drop n)
  | _, _, 0, h => h
  | [], _, n + 1, h => by
    simp only [IsL] at h
    subst h
    exact .nil
  | d :: ds, _, n + 1, h => by
    simp only [IsL] at h
    obtain ⟨v, r, rfl, q, u⟩ := h
    exact IsL.drop n u
theorem IsL.set : ∀ {ds : List D} {vs : List V} {d : D} {v : V} (i : Nat), IsL K H ds vs → Is K H d v → IsL K H (ds.set i d) (vs.set i v)
  | [], _, _, _, i, h, _ => by
    simp only [IsL] at h
    subst h
    exact .nil
  | e :: ds, _, _, _, 0, h, q => by
    simp only [IsL] at h
    obtain ⟨w, r, rfl, _, u⟩ := h
    exact .cons q u
  | e :: ds, _, _, _, i + 1, h, q => by
    simp only [IsL] at h
    obtain ⟨w, r, rfl, z, u⟩ := h
    exact .cons z (IsL.set i u q)
theorem IsL.rep {ds : List D} {vs : List V} (h : IsL K H ds vs) : ∀ n : Nat, IsL K H (List.replicate n ds).flatten (List.replicate n vs).flatten
  | 0 => .nil
  | n + 1 => by
    rw [List.replicate_succ, List.replicate_succ, List.flatten_cons, List.flatten_cons]
    exact h.app (IsL.rep h n)
theorem IsL.rev : ∀ {ds : List D} {vs : List V}, IsL K H ds vs → IsL K H ds.reverse vs.reverse
  | [], _, h => by
    simp only [IsL] at h
    subst h
    exact .nil
  | d :: ds, _, h => by
    simp only [IsL] at h
    obtain ⟨v, r, rfl, q, u⟩ := h
    rw [List.reverse_cons, List.reverse_cons]
    exact (IsL.rev u).app (.one q)
theorem IsL.cut {ds : List D} {vs : List V} (h : IsL K H ds vs) (lo hi : Option Int) : IsL K H (cutD ds lo hi) (cutV vs lo hi) := by
  unfold cutD cutV
  rw [h.len]
  exact (h.drop _).take _
theorem Is.scal {d : D} {v : V} {G : Hp} (h : Is K H d v) (s : PV.scal d = true) : Is K G d v := by
  cases d with
  | none => simpa only [Is] using h
  | bool _ => simpa only [Is] using h
  | int _ => simpa only [Is] using h
  | str _ => simpa only [Is] using h
  | list _ => simp [PV.scal] at s
  | tuple _ => simp [PV.scal] at s
  | dict _ => simp [PV.scal] at s
theorem intL_map : ∀ {ds : List D} {ns : List Int}, intL ds = some ns → ds = ns.map .int
  | [], _, h => by
    simp [intL] at h
    subst h
    rfl
  | .int i :: r, ns, h => by
    simp only [intL, Option.map_eq_some_iff] at h
    obtain ⟨m, h1, rfl⟩ := h
    rw [intL_map h1, List.map_cons]
  | .none :: _, _, h => by simp [intL] at h
  | .bool _ :: _, _, h => by simp [intL] at h
  | .str _ :: _, _, h => by simp [intL] at h
  | .list _ :: _, _, h => by simp [intL] at h
  | .tuple _ :: _, _, h => by simp [intL] at h
  | .dict _ :: _, _, h => by simp [intL] at h
theorem boolL_map : ∀ {ds : List D} {ns : List Bool}, boolL ds = some ns → ds = ns.map .bool
  | [], _, h => by
    simp [boolL] at h
    subst h
    rfl
  | .bool i :: r, ns, h => by
    simp only [boolL, Option.map_eq_some_iff] at h
    obtain ⟨m, h1, rfl⟩ := h
    rw [boolL_map h1, List.map_cons]
  | .none :: _, _, h => by simp [boolL] at h
  | .int _ :: _, _, h => by simp [boolL] at h
  | .str _ :: _, _, h => by simp [boolL] at h
  | .list _ :: _, _, h => by simp [boolL] at h
  | .tuple _ :: _, _, h => by simp [boolL] at h
  | .dict _ :: _, _, h => by simp [boolL] at h
theorem isL_ints : ∀ {ns : List Int} {vs : List V}, IsL K H (ns.map .int) vs → vs = ns.map .int
  | [], _, h => by simpa only [IsL, List.map_nil] using h
  | n :: r, _, h => by
    simp only [IsL, List.map_cons, Is] at h
    obtain ⟨v, w, rfl, rfl, t⟩ := h
    rw [isL_ints t, List.map_cons]
theorem isL_bools : ∀ {ns : List Bool} {vs : List V}, IsL K H (ns.map .bool) vs → vs = ns.map .bl
  | [], _, h => by simpa only [IsL, List.map_nil] using h
  | n :: r, _, h => by
    simp only [IsL, List.map_cons, Is] at h
    obtain ⟨v, w, rfl, rfl, t⟩ := h
    rw [isL_bools t, List.map_cons]
theorem ints_isL : ∀ ns : List Int, IsL K H (ns.map .int) (ns.map V.int)
  | [] => .nil
  | n :: r => .cons (by simp only [Is]) (ints_isL r)
mutual
theorem Is.dp : ∀ {d : D} {v : V}, d.canLay0 = true → Is K H d v → Dp K H v d
  | .none, _, _, h => by
    simp only [Is] at h
    subst h
    exact .non
  | .bool b, _, _, h => by
    simp only [Is] at h
    subst h
    exact .bl b
  | .int i, _, _, h => by
    simp only [Is] at h
    subst h
    exact .int i
  | .str x, _, _, h => by
    simp only [Is] at h
    subst h
    exact .str x
  | .list ds, _, c, h => by
    simp only [Is] at h
    obtain ⟨a, vs, rfl, h1, h2⟩ := h
    exact .lst h1.seq (IsL.dp (by simpa only [PyData.canLay0] using c) h2)
  | .tuple ds, _, c, h => by
    simp only [Is] at h
    obtain ⟨a, vs, rfl, h1, h2⟩ := h
    exact .tup h1 (IsL.dp (by simpa only [PyData.canLay0] using c) h2)
  | .dict _, _, c, _ => by simp [PyData.canLay0] at c
theorem IsL.dp : ∀ {ds : List D} {vs : List V}, PyData.canLayAll0 ds = true → IsL K H ds vs → DpAll K H vs ds
  | [], _, _, h => by
    simp only [IsL] at h
    subst h
    exact .nil
  | d :: ds, _, c, h => by
    simp only [IsL] at h
    obtain ⟨v, r, rfl, h1, h2⟩ := h
    simp only [PyData.canLayAll0, Bool.and_eq_true] at c
    exact .cons (Is.dp c.1 h1) (IsL.dp c.2 h2)
end
end

/-! ### more of the frozen part, more of the heap -/
structure Ext (F H F' H' : Hp) : Prop where
  f : Same F F'
  h : Same H H'
  s : Same F' H'
  n : ∀ p, F' p ≠ none → F p ≠ none ∨ H p = none
theorem Ext.refl {F H : Hp} (s : Same F H) : Ext F H F H := ⟨Same.refl _, Same.refl _, s, fun _ h => .inl h⟩
theorem Ext.trans {F H F1 H1 F2 H2 : Hp} (a : Ext F H F1 H1) (b : Ext F1 H1 F2 H2) : Ext F H F2 H2 :=
  ⟨a.f.trans b.f, a.h.trans b.h, b.s, fun p h => by
    rcases b.n p h with h | h
    · exact a.n p h
    · exact .inr (a.h.free h)⟩
theorem Ext.gone {F H F' H' : Hp} (e : Ext F H F' H') {p : Addr} (h : F p = none) (k : H p ≠ none) : F' p = none := by
  cases q : F' p with
  | none => rfl
  | some o =>
    rcases e.n p (by rw [q]; intro z; cases z) with z | z
    · exact absurd h z
    · exact absurd z k
theorem Ext.stay {F H F' H' : Hp} (e : Ext F H F' H') {p : Addr} (k : H p ≠ none) : H' p = H p := by
  cases z : H p with
  | none => exact absurd z k
  | some o => exact e.h _ _ z
theorem same_upd {H : Hp} {p : Addr} {o : HO} (h : H p = none) : Same H (upd H p o) := fun b u e => by
  rw [upd_ne (ne_of_none e h)]
  exact e
theorem same_updF {F H : Hp} {p : Addr} {o : HO} (s : Same F H) (h : H p = some o) : Same (upd F p o) H := fun b u e => by
  by_cases q : b = p
  · subst q
    rw [upd_same] at e
    cases e
    exact h
  · rw [upd_ne q] at e
    exact s _ _ e
/-- a new object, frozen at once -/
theorem Ext.new {F H : Hp} {p : Addr} {o : HO} (s : Same F H) (h : H p = none) : Ext F H (upd F p o) (upd H p o) :=
  ⟨same_upd (s.free h), same_upd h, fun b u e => by
    by_cases q : b = p
    · subst q
      rw [upd_same] at e ⊢
      exact e
    · rw [upd_ne q] at e ⊢
      exact s _ _ e, fun b e => by
    by_cases q : b = p
    · subst q
      exact .inr h
    · rw [upd_ne q] at e
      exact .inl e⟩
/-- a new object, not frozen -/
theorem Ext.new0 {F H : Hp} {p : Addr} {o : HO} (s : Same F H) (h : H p = none) : Ext F H F (upd H p o) :=
  ⟨Same.refl _, same_upd h, s.trans (same_upd h), fun _ e => .inl e⟩
/-! ### trees that are owned, with the places they stand at -/
mutual
/-- v bears d; all its lists and tuples stand at fp, nothing of it is frozen, no place twice -/
def Own (K : PySem.W.Frag) (F H : Hp) : D → V → List Addr → Prop
  | .none, v, fp => fp = [] ∧ v = .non
  | .bool b, v, fp => fp = [] ∧ v = .bl b
  | .int i, v, fp => fp = [] ∧ v = .int i
  | .str x, v, fp => fp = [] ∧ v = .str x
  | .list xs, v, fp => ∃ p vs fq, v = .ref p ∧ fp = p :: fq ∧ p ∉ fq ∧ F p = none ∧ H p = some (.lst vs) ∧ OwnL K F H xs vs fq
  | .tuple xs, v, fp => ∃ p vs fq, v = .ref p ∧ fp = p :: fq ∧ p ∉ fq ∧ F p = none ∧ H p = some (.tup vs) ∧ OwnL K F H xs vs fq
  | .dict kvs, v, fp => ∃ p es fq, v = .ref p ∧ fp = p :: fq ∧ p ∉ fq ∧ F p = none ∧ H p = some (.dK es) ∧ OwnK K F H kvs es fq
def OwnL (K : PySem.W.Frag) (F H : Hp) : List D → List V → List Addr → Prop
  | [], vs, fp => vs = [] ∧ fp = []
  | x :: r, vs, fp => ∃ v w f g, vs = v :: w ∧ fp = f ++ g ∧ (∀ a ∈ f, a ∉ g) ∧ Own K F H x v f ∧ OwnL K F H r w g
def OwnK (K : PySem.W.Frag) (F H : Hp) : List (D × D) → List (Key × V) → List Addr → Prop
  | [], es, fp => es = [] ∧ fp = []
  | (k, d) :: r, es, fp => ∃ kk v w f g, es = (kk, v) :: w ∧ (k = keyD kk ∧ ∀ q ∈ r, q.1 ≠ k) ∧ fp = f ++ g ∧ (∀ a ∈ f, a ∉ g) ∧ Own K F H d v f ∧ OwnK K F H r w g
end
section
variable {K : PySem.W.Frag} {F H F' H' : Hp}
mutual
theorem Own.at : ∀ {o : D} {v : V} {fp : List Addr}, Own K F H o v fp → ∀ a ∈ fp, F a = none ∧ H a ≠ none
  | .none, v, fp, h, a, ha => by simp only [Own] at h; rw [h.1] at ha; cases ha
  | .bool _, v, fp, h, a, ha => by simp only [Own] at h; rw [h.1] at ha; cases ha
  | .int _, v, fp, h, a, ha => by simp only [Own] at h; rw [h.1] at ha; cases ha
  | .str _, v, fp, h, a, ha => by simp only [Own] at h; rw [h.1] at ha; cases ha
  | .dict kvs, v, fp, h, a, ha => by
    simp only [Own] at h
    obtain ⟨p, vs, fq, rfl, rfl, h1, h2, h3, h4⟩ := h
    rcases List.mem_cons.mp ha with rfl | ha
    · exact ⟨h2, by rw [h3]; intro z; cases z⟩
    · exact OwnK.at h4 a ha
  | .list xs, v, fp, h, a, ha => by
    simp only [Own] at h
    obtain ⟨p, vs, fq, rfl, rfl, h1, h2, h3, h4⟩ := h
    rcases List.mem_cons.mp ha with rfl | ha
    · exact ⟨h2, by rw [h3]; intro z; cases z⟩
    · exact OwnL.at h4 a ha
  | .tuple xs, v, fp, h, a, ha => by
    simp only [Own] at h
    obtain ⟨p, vs, fq, rfl, rfl, h1, h2, h3, h4⟩ := h
    rcases List.mem_cons.mp ha with rfl | ha
    · exact ⟨h2, by rw [h3]; intro z; cases z⟩
    · exact OwnL.at h4 a ha
theorem OwnL.at : ∀ {o : List D} {v : List V} {fp : List Addr}, OwnL K F H o v fp → ∀ a ∈ fp, F a = none ∧ H a ≠ none
  | [], v, fp, h, a, ha => by
    simp only [OwnL] at h
    obtain ⟨_, rfl⟩ := h
    cases ha
  | x :: r, v, fp, h, a, ha => by
    simp only [OwnL] at h
    obtain ⟨v, w, f, g, rfl, rfl, _, h1, h2⟩ := h
    rcases List.mem_append.mp ha with ha | ha
    · exact Own.at h1 a ha
    · exact OwnL.at h2 a ha
theorem OwnK.at : ∀ {o : List (D × D)} {v : List (Key × V)} {fp : List Addr}, OwnK K F H o v fp → ∀ a ∈ fp, F a = none ∧ H a ≠ none
  | [], v, fp, h, a, ha => by
    simp only [OwnK] at h
    obtain ⟨_, rfl⟩ := h
    cases ha
  | (k, x) :: r, v, fp, h, a, ha => by
    simp only [OwnK] at h
    obtain ⟨kk, v, w, f, g, rfl, _, rfl, _, h1, h2⟩ := h
    rcases List.mem_append.mp ha with ha | ha
    · exact Own.at h1 a ha
    · exact OwnK.at h2 a ha
end
mutual
/-- more is frozen, elsewhere; the heap may change elsewhere -/
theorem Own.keep : ∀ {o : D} {v : V} {fp : List Addr}, Own K F H o v fp → (∀ a ∈ fp, F' a = none ∧ H' a = H a) → Own K F' H' o v fp
  | .none, v, fp, h, k => by simp only [Own] at h ⊢; exact h
  | .bool _, v, fp, h, k => by simp only [Own] at h ⊢; exact h
  | .int _, v, fp, h, k => by simp only [Own] at h ⊢; exact h
  | .str _, v, fp, h, k => by simp only [Own] at h ⊢; exact h
  | .dict kvs, v, fp, h, k => by
    simp only [Own] at h ⊢
    obtain ⟨p, vs, fq, rfl, rfl, h1, h2, h3, h4⟩ := h
    have kp := k p List.mem_cons_self
    exact ⟨p, vs, fq, rfl, rfl, h1, kp.1, kp.2.trans h3, OwnK.keep h4 fun a ha => k a (List.mem_cons_of_mem _ ha)⟩
  | .list xs, v, fp, h, k => by
    simp only [Own] at h ⊢
    obtain ⟨p, vs, fq, rfl, rfl, h1, h2, h3, h4⟩ := h
    have kp := k p List.mem_cons_self
    exact ⟨p, vs, fq, rfl, rfl, h1, kp.1, kp.2.trans h3, OwnL.keep h4 fun a ha => k a (List.mem_cons_of_mem _ ha)⟩
  | .tuple xs, v, fp, h, k => by
    simp only [Own] at h ⊢
    obtain ⟨p, vs, fq, rfl, rfl, h1, h2, h3, h4⟩ := h
    have kp := k p List.mem_cons_self
    exact ⟨p, vs, fq, rfl, rfl, h1, kp.1, kp.2.trans h3, OwnL.keep h4 fun a ha => k a (List.mem_cons_of_mem _ ha)⟩
theorem OwnL.keep : ∀ {o : List D} {v : List V} {fp : List Addr}, OwnL K F H o v fp → (∀ a ∈ fp, F' a = none ∧ H' a = H a) → OwnL K F' H' o v fp
  | [], v, fp, h, k => by
    simp only [OwnL] at h ⊢
    exact h
  | x :: r, v, fp, h, k => by
    simp only [OwnL] at h ⊢
    obtain ⟨v, w, f, g, rfl, rfl, h0, h1, h2⟩ := h
    exact ⟨v, w, f, g, rfl, rfl, h0, Own.keep h1 fun a ha => k a (List.mem_append_left _ ha), OwnL.keep h2 fun a ha => k a (List.mem_append_right _ ha)⟩
theorem OwnK.keep : ∀ {o : List (D × D)} {v : List (Key × V)} {fp : List Addr}, OwnK K F H o v fp → (∀ a ∈ fp, F' a = none ∧ H' a = H a) → OwnK K F' H' o v fp
  | [], v, fp, h, k => by
    simp only [OwnK] at h ⊢
    exact h
  | (y, x) :: r, v, fp, h, k => by
    simp only [OwnK] at h ⊢
    obtain ⟨kk, v, w, f, g, rfl, hk, rfl, h0, h1, h2⟩ := h
    exact ⟨kk, v, w, f, g, rfl, hk, rfl, h0, Own.keep h1 fun a ha => k a (List.mem_append_left _ ha), OwnK.keep h2 fun a ha => k a (List.mem_append_right _ ha)⟩
end
mutual
/-- any heap that has the places of fp bears the tree -/
theorem Own.is {P : Hp} : ∀ {o : D} {v : V} {fp : List Addr}, Own K F H o v fp → (∀ a ∈ fp, P a = H a) → Is K P o v
  | .none, v, fp, h, k => by simp only [Own] at h; simp only [Is]; exact h.2
  | .bool _, v, fp, h, k => by simp only [Own] at h; simp only [Is]; exact h.2
  | .int _, v, fp, h, k => by simp only [Own] at h; simp only [Is]; exact h.2
  | .str _, v, fp, h, k => by simp only [Own] at h; simp only [Is]; exact h.2
  | .dict kvs, v, fp, h, k => by
    simp only [Own] at h
    obtain ⟨p, vs, fq, rfl, rfl, h1, h2, h3, h4⟩ := h
    simp only [Is]
    exact ⟨p, vs, rfl, (k p List.mem_cons_self).trans h3, OwnK.is h4 fun a ha => k a (List.mem_cons_of_mem _ ha)⟩
  | .list xs, v, fp, h, k => by
    simp only [Own] at h
    obtain ⟨p, vs, fq, rfl, rfl, h1, h2, h3, h4⟩ := h
    simp only [Is]
    exact ⟨p, vs, rfl, .of ((k p List.mem_cons_self).trans h3), OwnL.is h4 fun a ha => k a (List.mem_cons_of_mem _ ha)⟩
  | .tuple xs, v, fp, h, k => by
    simp only [Own] at h
    obtain ⟨p, vs, fq, rfl, rfl, h1, h2, h3, h4⟩ := h
    simp only [Is]
    exact ⟨p, vs, rfl, .inl (.inl ((k p List.mem_cons_self).trans h3)), OwnL.is h4 fun a ha => k a (List.mem_cons_of_mem _ ha)⟩
theorem OwnL.is {P : Hp} : ∀ {o : List D} {v : List V} {fp : List Addr}, OwnL K F H o v fp → (∀ a ∈ fp, P a = H a) → IsL K P o v
  | [], v, fp, h, k => by
    simp only [OwnL] at h
    rw [h.1]
    exact .nil
  | x :: r, v, fp, h, k => by
    simp only [OwnL] at h
    obtain ⟨v, w, f, g, rfl, rfl, h0, h1, h2⟩ := h
    exact .cons (Own.is h1 fun a ha => k a (List.mem_append_left _ ha)) (OwnL.is h2 fun a ha => k a (List.mem_append_right _ ha))
theorem OwnK.is {P : Hp} : ∀ {o : List (D × D)} {v : List (Key × V)} {fp : List Addr}, OwnK K F H o v fp → (∀ a ∈ fp, P a = H a) → IsK K P o v
  | [], v, fp, h, k => by
    simp only [OwnK] at h
    simp only [IsK]
    exact h.1
  | (y, x) :: r, v, fp, h, k => by
    simp only [OwnK] at h
    obtain ⟨kk, v, w, f, g, rfl, hk, rfl, h0, h1, h2⟩ := h
    simp only [IsK]
    exact ⟨kk, v, w, rfl, hk.1, Own.is h1 fun a ha => k a (List.mem_append_left _ ha), OwnK.is h2 fun a ha => k a (List.mem_append_right _ ha)⟩
end
/-- F and the places of fp as they stand -/
def frzAt (F H : Hp) (fp : List Addr) : Hp := fun a => if a ∈ fp then H a else F a
theorem frzAt_in {fp : List Addr} {a : Addr} (h : a ∈ fp) : frzAt F H fp a = H a := by unfold frzAt; rw [if_pos h]
theorem frzAt_out {fp : List Addr} {a : Addr} (h : a ∉ fp) : frzAt F H fp a = F a := by unfold frzAt; rw [if_neg h]
theorem frzAt_same {fp : List Addr} (s : Same F H) : Same F (frzAt F H fp) := fun a u e => by
  by_cases c : a ∈ fp
  · rw [frzAt_in c]; exact s _ _ e
  · rw [frzAt_out c]; exact e
theorem frzAt_sub {fp : List Addr} (s : Same F H) : Same (frzAt F H fp) H := fun a u e => by
  by_cases c : a ∈ fp
  · rw [frzAt_in c] at e; exact e
  · rw [frzAt_out c] at e; exact s _ _ e
theorem Own.isH {o : D} {v : V} {fp : List Addr} (h : Own K F H o v fp) : Is K H o v := h.is fun _ _ => rfl
theorem Own.frozen {o : D} {v : V} {fp : List Addr} {F2 : Hp} (h : Own K F H o v fp) : Is K (frzAt F2 H fp) o v := h.is fun a ha => frzAt_in ha
theorem Own.scal : ∀ {o : D} {v : V} {fp : List Addr}, Own K F H o v fp → PV.scal o = true → fp = []
  | .none, v, fp, h, k => by simp only [Own] at h; exact h.1
  | .bool _, v, fp, h, k => by simp only [Own] at h; exact h.1
  | .int _, v, fp, h, k => by simp only [Own] at h; exact h.1
  | .str _, v, fp, h, k => by simp only [Own] at h; exact h.1
  | .dict _, v, fp, h, k => by cases k
  | .list xs, v, fp, h, k => by cases k
  | .tuple xs, v, fp, h, k => by cases k
theorem own_scal {G : Hp} : ∀ {o : D} {v : V}, Is K G o v → PV.scal o = true → Own K F H o v []
  | .none, v, h, k => by simp only [Is] at h; simp only [Own]; exact ⟨trivial, h⟩
  | .bool _, v, h, k => by simp only [Is] at h; simp only [Own]; exact ⟨trivial, h⟩
  | .int _, v, h, k => by simp only [Is] at h; simp only [Own]; exact ⟨trivial, h⟩
  | .str _, v, h, k => by simp only [Is] at h; simp only [Own]; exact ⟨trivial, h⟩
  | .dict _, v, h, k => by cases k
  | .list xs, v, h, k => by cases k
  | .tuple xs, v, h, k => by cases k
theorem ownL_scal {G : Hp} : ∀ {o : List D} {v : List V}, IsL K G o v → o.all PV.scal = true → OwnL K F H o v []
  | [], v, h, k => by
    simp only [IsL] at h
    simp only [OwnL]
    exact ⟨h, trivial⟩
  | d :: r, v, h, k => by
    simp only [IsL] at h
    obtain ⟨w, t, rfl, h1, h2⟩ := h
    simp only [List.all_cons, Bool.and_eq_true] at k
    simp only [OwnL]
    exact ⟨w, t, [], [], rfl, rfl, (fun a h => by cases h), own_scal h1 k.1, ownL_scal h2 k.2⟩
theorem OwnL.scal : ∀ {o : List D} {v : List V} {fp : List Addr}, OwnL K F H o v fp → o.all PV.scal = true → fp = []
  | [], v, fp, h, k => by simp only [OwnL] at h; exact h.2
  | d :: r, v, fp, h, k => by
    simp only [OwnL] at h
    obtain ⟨w, t, f, g, rfl, rfl, _, h1, h2⟩ := h
    simp only [List.all_cons, Bool.and_eq_true] at k
    rw [h1.scal k.1, h2.scal k.2]
    rfl
theorem OwnL.one {d : D} {v : V} {f : List Addr} (h : Own K F H d v f) : OwnL K F H [d] [v] f := by
  simp only [OwnL]
  exact ⟨v, [], f, [], rfl, by simp, (fun a _ z => by cases z), h, rfl, rfl⟩
theorem OwnL.app {es : List D} {ws : List V} {g : List Addr} (t : OwnL K F H es ws g) : ∀ {ds : List D} {vs : List V} {f : List Addr}, OwnL K F H ds vs f → (∀ a ∈ f, a ∉ g) → OwnL K F H (ds ++ es) (vs ++ ws) (f ++ g)
  | [], _, _, h, _ => by
    simp only [OwnL] at h
    obtain ⟨rfl, rfl⟩ := h
    exact t
  | d :: ds, _, _, h, n => by
    simp only [OwnL] at h
    obtain ⟨v, w, f1, f2, rfl, rfl, h0, h1, h2⟩ := h
    show OwnL K F H (d :: (ds ++ es)) (v :: (w ++ ws)) _
    simp only [OwnL]
    refine ⟨v, w ++ ws, f1, f2 ++ g, rfl, List.append_assoc _ _ _, fun a ha z => ?_, h1, OwnL.app t h2 fun a ha => n a (List.mem_append_right _ ha)⟩
    rcases List.mem_append.mp z with z | z
    · exact h0 a ha z
    · exact n a (List.mem_append_left _ ha) z
/-- one item changes: its place is part of the footprint -/
theorem OwnL.sub : ∀ {ds : List D} {vs : List V} {fp : List Addr} {j : Nat} {d : D}, OwnL K F H ds vs fp → ds[j]? = some d → ∃ v f g1 g2, vs[j]? = some v ∧ fp = g1 ++ f ++ g2 ∧ (∀ a ∈ f, a ∉ g1 ∧ a ∉ g2) ∧ Own K F H d v f ∧
    ∀ (H' : Hp) (d' : D) (w : V) (f' : List Addr), Own K F H' d' w f' → (∀ a ∈ f', a ∉ g1 ∧ a ∉ g2) → (∀ a, a ∈ g1 ∨ a ∈ g2 → H' a = H a) → OwnL K F H' (ds.set j d') (vs.set j w) (g1 ++ f' ++ g2)
  | [], _, _, _, _, _, e => by simp at e
  | x :: r, _, _, 0, d, h, e => by
    simp only [OwnL] at h
    obtain ⟨v, w, f, g, rfl, rfl, h0, h1, h2⟩ := h
    simp at e
    subst e
    refine ⟨v, f, [], g, rfl, rfl, fun a ha => ⟨(by intro z; cases z), h0 a ha⟩, h1, fun H' d' w2 f' o n k => ?_⟩
    show OwnL K F H' (d' :: r) (w2 :: w) _
    simp only [OwnL]
    exact ⟨w2, w, f', g, rfl, rfl, fun a ha => (n a ha).2, o, h2.keep fun a ha => ⟨(h2.at a ha).1, k a (.inr ha)⟩⟩
  | x :: r, _, _, j + 1, d, h, e => by
    simp only [OwnL] at h
    obtain ⟨v, w, f, g, rfl, rfl, h0, h1, h2⟩ := h
    obtain ⟨u, f2, g1, g2, e1, rfl, e3, e4, e5⟩ := OwnL.sub (j := j) h2 (by simpa using e)
    refine ⟨u, f2, f ++ g1, g2, by simpa using e1, by simp, fun a ha => ⟨fun z => ?_, (e3 a ha).2⟩, e4, fun H' d' w2 f' o n k => ?_⟩
    · rcases List.mem_append.mp z with z | z
      · exact h0 a z (List.mem_append_left _ (List.mem_append_right _ ha))
      · exact (e3 a ha).1 z
    · have t := e5 H' d' w2 f' o (fun a ha => ⟨fun z => (n a ha).1 (List.mem_append_right _ z), (n a ha).2⟩) fun a ha => k a (ha.imp (List.mem_append_right _) id)
      show OwnL K F H' (x :: r.set j d') (v :: w.set j w2) _
      simp only [OwnL]
      refine ⟨v, _, f, g1 ++ f' ++ g2, rfl, by simp, fun a ha z => ?_, h1.keep fun a ha => ⟨(h1.at a ha).1, k a (.inl (List.mem_append_left _ ha))⟩, t⟩
      rcases List.mem_append.mp z with z | z
      · rcases List.mem_append.mp z with z | z
        · exact h0 a ha (List.mem_append_left _ (List.mem_append_left _ z))
        · exact (n a z).1 (List.mem_append_left _ ha)
      · exact h0 a ha (List.mem_append_right _ z)
/-- a tree with items: its items, and the tree anew -/
theorem Own.items {d : D} {v : V} {fp : List Addr} {ds : List D} (h : Own K F H d v fp) (e : PV.items d = some ds) : ∃ p vs fq, v = .ref p ∧ fp = p :: fq ∧ p ∉ fq ∧ F p = none ∧ (H p = some (.lst vs) ∨ H p = some (.tup vs)) ∧ OwnL K F H ds vs fq ∧
    ∀ (H' : Hp) (j : Nat) (x : D) (fq' : List Addr), H' p = H p → p ∉ fq' → OwnL K F H' (ds.set j x) vs fq' → Own K F H' (putAt d j x) v (p :: fq') := by
  cases d with
  | list xs =>
    simp only [PV.items, Option.some.injEq] at e
    subst e
    simp only [Own] at h
    obtain ⟨p, vs, fq, rfl, rfl, h1, h2, h3, h4⟩ := h
    refine ⟨p, vs, fq, rfl, rfl, h1, h2, .inl h3, h4, fun H' j x fq' k n t => ?_⟩
    simp only [putAt, Own]
    exact ⟨p, vs, fq', rfl, rfl, n, h2, k.trans h3, t⟩
  | tuple xs =>
    simp only [PV.items, Option.some.injEq] at e
    subst e
    simp only [Own] at h
    obtain ⟨p, vs, fq, rfl, rfl, h1, h2, h3, h4⟩ := h
    refine ⟨p, vs, fq, rfl, rfl, h1, h2, .inr h3, h4, fun H' j x fq' k n t => ?_⟩
    simp only [putAt, Own]
    exact ⟨p, vs, fq', rfl, rfl, n, h2, k.trans h3, t⟩
  | _ => simp [PV.items] at e
end
def Root (K : PySem.W.Frag) (F H : Hp) (p : Addr) : D → Prop
  | .list ds => F p = none ∧ ∃ vs, H p = some (.lst vs) ∧ IsL K F ds vs
  | .dict kvs => F p = none ∧ ∃ es, H p = some (.dK es) ∧ IsK K F kvs es
  | _ => False
def Res (K : PySem.W.Frag) (H F' H' : Hp) (v : V) : TD → Prop
  | (.sh, d) => Is K F' d v
  | (.pk, d) => Is K H' d v
  | (.rt, d) => ∃ p, v = .ref p ∧ Root K F' H' p d
  | (.ow, d) => ∃ p, v = .ref p ∧ H p = none ∧ Root K F' H' p d
  | (.tr, d) => ∃ fp, (∀ a ∈ fp, H a = none) ∧ Own K F' H' d v fp
section
variable {K : PySem.W.Frag} {F H F' H' F2 H2 : Hp} {v : V} {p : Addr} {d : D} {x : TD}
theorem Root.fno (h : Root K F H p d) : F p = none := by
  cases d with
  | list _ => exact h.1
  | dict _ => exact h.1
  | _ => exact h.elim
theorem Root.hso (h : Root K F H p d) : H p ≠ none := by
  cases d with
  | list _ => obtain ⟨_, vs, e, _⟩ := h; rw [e]; intro z; cases z
  | dict _ => obtain ⟨_, vs, e, _⟩ := h; rw [e]; intro z; cases z
  | _ => exact h.elim
theorem Root.is (h : Root K F H p d) (s : Same F H) : Is K H d (.ref p) := by
  cases d with
  | list _ =>
    obtain ⟨_, vs, e, q⟩ := h
    simp only [Is]
    exact ⟨p, vs, rfl, .of e, q.mono s⟩
  | dict _ =>
    obtain ⟨_, vs, e, q⟩ := h
    simp only [Is]
    exact ⟨p, vs, rfl, e, q.mono s⟩
  | _ => exact h.elim
theorem Root.mono (h : Root K F H p d) (e : Ext F H F' H') : Root K F' H' p d := by
  have g := e.gone h.fno h.hso
  cases d with
  | list _ =>
    obtain ⟨_, vs, z, q⟩ := h
    exact ⟨g, vs, e.h _ _ z, q.mono e.f⟩
  | dict _ =>
    obtain ⟨_, vs, z, q⟩ := h
    exact ⟨g, vs, e.h _ _ z, q.mono e.f⟩
  | _ => exact h.elim
/-- a root frozen -/
theorem Root.freeze (h : Root K F H p d) (s : Same F H) : ∃ o, H p = some o ∧ Same F (upd F p o) ∧ Same (upd F p o) H ∧ Is K (upd F p o) d (.ref p) := by
  cases d with
  | list _ =>
    obtain ⟨n, vs, e, q⟩ := h
    refine ⟨_, e, same_upd n, same_updF s e, ?_⟩
    simp only [Is]
    exact ⟨p, vs, rfl, .of upd_same, q.mono (same_upd n)⟩
  | dict _ =>
    obtain ⟨n, vs, e, q⟩ := h
    refine ⟨_, e, same_upd n, same_updF s e, ?_⟩
    simp only [Is]
    exact ⟨p, vs, rfl, upd_same, q.mono (same_upd n)⟩
  | _ => exact h.elim
theorem Res.is (h : Res K H F' H' v x) (s : Same F' H') : Is K H' x.2 v := by
  obtain ⟨t, d⟩ := x
  cases t with
  | sh => exact Is.mono s h
  | pk => exact h
  | rt => obtain ⟨p, rfl, q⟩ := h; exact q.is s
  | ow => obtain ⟨p, rfl, _, q⟩ := h; exact q.is s
  | tr => obtain ⟨fp, _, q⟩ := h; exact q.isH
theorem Res.mono (h : Res K H F' H' v x) (e : Ext F' H' F2 H2) : Res K H F2 H2 v x := by
  obtain ⟨t, d⟩ := x
  cases t with
  | sh => exact Is.mono e.f h
  | pk => exact Is.mono e.h h
  | rt => obtain ⟨p, rfl, q⟩ := h; exact ⟨p, rfl, q.mono e⟩
  | ow => obtain ⟨p, rfl, n, q⟩ := h; exact ⟨p, rfl, n, q.mono e⟩
  | tr =>
    obtain ⟨fp, n, q⟩ := h
    exact ⟨fp, n, q.keep fun a ha => ⟨e.gone (q.at a ha).1 (q.at a ha).2, by
      cases z : H' a with
      | none => exact absurd z (q.at a ha).2
      | some o => exact e.h _ _ z⟩⟩
theorem Res.back {H0 : Hp} (s : Same H0 H) (h : Res K H F' H' v x) : Res K H0 F' H' v x := by
  obtain ⟨t, d⟩ := x
  cases t with
  | ow => obtain ⟨p, rfl, n, q⟩ := h; exact ⟨p, rfl, s.free n, q⟩
  | tr => obtain ⟨fp, n, q⟩ := h; exact ⟨fp, fun a ha => s.free (n a ha), q⟩
  | _ => exact h
theorem Res.nt (h : Res K H F' H' v x) (s : Same F' H') : Res K H F' H' v (nt x.1 x.2, x.2) := by
  unfold PV.nt
  by_cases c : scal x.2 = true
  · rw [if_pos c]
    exact (h.is s).scal c
  · rw [if_neg c]
    exact h
/-- where the items of a list or tuple stand -/
def hp (t : Tag) (F H : Hp) : Hp := match t with | .sh => F | _ => H
theorem Res.list {t : Tag} {ds : List D} (h : Res K H F' H' v (t, .list ds)) (s : Same F' H') : ∃ a vs, v = .ref a ∧ LL K H' a vs ∧ IsL K (hp t.kid F' H') ds vs := by
  cases t with
  | sh =>
    obtain ⟨a, vs, rfl, q, u⟩ := (by simpa only [Res, Is] using h : ∃ a vs, v = .ref a ∧ LL K F' a vs ∧ IsL K F' ds vs)
    exact ⟨a, vs, rfl, q.mono s, u⟩
  | pk =>
    obtain ⟨a, vs, rfl, q, u⟩ := (by simpa only [Res, Is] using h : ∃ a vs, v = .ref a ∧ LL K H' a vs ∧ IsL K H' ds vs)
    exact ⟨a, vs, rfl, q, u⟩
  | rt => obtain ⟨p, rfl, _, vs, e, q⟩ := h; exact ⟨p, vs, rfl, .of e, q⟩
  | ow => obtain ⟨p, rfl, _, _, vs, e, q⟩ := h; exact ⟨p, vs, rfl, .of e, q⟩
  | tr =>
    obtain ⟨fp, _, q⟩ := h
    simp only [Own] at q
    obtain ⟨p, vs, fq, rfl, rfl, h1, h2, h3, h4⟩ := q
    exact ⟨p, vs, rfl, .of h3, h4.is fun _ _ => rfl⟩
theorem Res.tuple {t : Tag} {ds : List D} (h : Res K H F' H' v (t, .tuple ds)) (s : Same F' H') : ∃ a vs, v = .ref a ∧ SqT K H' a vs ∧ IsL K (hp t.kid F' H') ds vs := by
  cases t with
  | sh =>
    obtain ⟨a, vs, rfl, q, u⟩ := (by simpa only [Res, Is] using h : ∃ a vs, v = .ref a ∧ SqT K F' a vs ∧ IsL K F' ds vs)
    exact ⟨a, vs, rfl, sqT_mono s q, u⟩
  | pk =>
    obtain ⟨a, vs, rfl, q, u⟩ := (by simpa only [Res, Is] using h : ∃ a vs, v = .ref a ∧ SqT K H' a vs ∧ IsL K H' ds vs)
    exact ⟨a, vs, rfl, q, u⟩
  | rt => obtain ⟨p, rfl, z⟩ := h; exact z.elim
  | ow => obtain ⟨p, rfl, _, z⟩ := h; exact z.elim
  | tr =>
    obtain ⟨fp, _, q⟩ := h
    simp only [Own] at q
    obtain ⟨p, vs, fq, rfl, rfl, h1, h2, h3, h4⟩ := q
    exact ⟨p, vs, rfl, .inl (.inl h3), h4.is fun _ _ => rfl⟩
theorem hp_same {t : Tag} (s : Same F' H') : Same (hp t F' H') H' := by
  cases t <;> first | exact s | exact Same.refl _
theorem Res.of_hp {t : Tag} (h : Is K (hp t.kid F' H') d v) : Res K H F' H' v (t.kid, d) := by
  cases t <;> exact h
/-- an argument, an item: a new root is frozen -/
theorem Res.dm (e : Ext F H F' H') (h : Res K H F' H' v x) : ∃ F2, Ext F H F2 H' ∧ Same F' F2 ∧ (∀ p, F2 p ≠ none → F' p ≠ none ∨ H p = none) ∧ Res K H F2 H' v (x.1.dm, x.2) := by
  obtain ⟨t, d⟩ := x
  cases t with
  | sh => exact ⟨F', e, Same.refl _, fun _ z => .inl z, h⟩
  | pk => exact ⟨F', e, Same.refl _, fun _ z => .inl z, h⟩
  | rt => obtain ⟨p, rfl, q⟩ := h; exact ⟨F', e, Same.refl _, fun _ z => .inl z, q.is e.s⟩
  | ow =>
    obtain ⟨p, rfl, n, q⟩ := h
    obtain ⟨o, e1, e2, e3, e4⟩ := q.freeze e.s
    refine ⟨upd F' p o, ⟨e.f.trans e2, e.h, e3, fun b z => ?_⟩, e2, fun b z => ?_, e4⟩
    · by_cases c : b = p
      · subst c
        exact .inr n
      · rw [upd_ne c] at z
        exact e.n b z
    · by_cases c : b = p
      · subst c
        exact .inr n
      · rw [upd_ne c] at z
        exact .inl z
  | tr =>
    obtain ⟨fp, n, q⟩ := h
    have ne : ∀ b, frzAt F' H' fp b ≠ none → F' b ≠ none ∨ H b = none := fun b z => by
      by_cases c : b ∈ fp
      · exact .inr (n b c)
      · rw [frzAt_out c] at z
        exact .inl z
    exact ⟨frzAt F' H' fp, ⟨e.f.trans (frzAt_same e.s), e.h, frzAt_sub e.s, fun b z => by
      rcases ne b z with y | y
      · exact e.n b y
      · exact .inr y⟩, frzAt_same e.s, ne, q.frozen⟩
end

/-! ### the slots, each with the places of what it owns -/
def Bears (K : PySem.W.Frag) (F H : Hp) (x : Option (Option V)) : Slot → List Addr → Prop
  | .no, fp => fp = []
  | .sh d, fp => fp = [] ∧ ∃ v, x = some (some v) ∧ Is K F d v
  | .ow d, fp => ∃ p, fp = [p] ∧ x = some (some (.ref p)) ∧ Root K F H p d
  | .od d, fp => ∃ v, x = some (some v) ∧ Own K F H d v fp
/-- A: a heap that what is owned is not part of -/
structure RelA (K : PySem.W.Frag) (A F H : Hp) (σ : L2.St) (env : Env) : Prop where
  sub : Same F H
  len : env.length = σ.length
  slot : ∃ fps : Nat → List Addr, (∀ (i : Nat) (s : Slot), env[i]? = some s → Bears K F H (σ[i]?) s (fps i)) ∧ (∀ i j, i ≠ j → i < env.length → j < env.length → ∀ a ∈ fps i, a ∉ fps j) ∧ ∀ i, i < env.length → ∀ a ∈ fps i, A a = none
abbrev Rel (K : PySem.W.Frag) (F H : Hp) (σ : L2.St) (env : Env) : Prop := RelA K (fun _ => none) F H σ env
section
variable {K : PySem.W.Frag} {A F H F' H' : Hp} {σ : L2.St} {env : Env}
theorem RelA.rel (r : RelA K A F H σ env) : Rel K F H σ env := by
  obtain ⟨fps, h1, h2, h3⟩ := r.slot
  exact ⟨r.sub, r.len, fps, h1, h2, fun _ _ _ _ => rfl⟩
theorem Root.upto {p : Addr} {d : D} (h : Root K F H p d) (s : Same F F') (k : F' p = none ∧ H' p = H p) : Root K F' H' p d := by
  cases d with
  | list _ => obtain ⟨_, vs, e, q⟩ := h; exact ⟨k.1, vs, k.2.trans e, q.mono s⟩
  | dict _ => obtain ⟨_, vs, e, q⟩ := h; exact ⟨k.1, vs, k.2.trans e, q.mono s⟩
  | _ => exact h.elim
theorem Bears.keep (s : Same F F') {x : Option (Option V)} {t : Slot} {fp : List Addr} (h : Bears K F H x t fp) (k : ∀ a ∈ fp, F' a = none ∧ H' a = H a) : Bears K F' H' x t fp := by
  cases t with
  | no => exact h
  | sh d => obtain ⟨h1, v, h2, h3⟩ := h; exact ⟨h1, v, h2, h3.mono s⟩
  | ow d => obtain ⟨p, rfl, h1, h2⟩ := h; exact ⟨p, rfl, h1, h2.upto s (k p List.mem_cons_self)⟩
  | od o => obtain ⟨v, h1, h2⟩ := h; exact ⟨v, h1, h2.keep k⟩
theorem Bears.at {x : Option (Option V)} {t : Slot} {fp : List Addr} (h : Bears K F H x t fp) : ∀ a ∈ fp, F a = none ∧ H a ≠ none := by
  cases t with
  | no =>
    have h : fp = [] := h
    subst h
    intro a ha
    cases ha
  | sh d =>
    obtain ⟨rfl, _⟩ := h
    intro a ha
    cases ha
  | ow d =>
    obtain ⟨p, rfl, _, q⟩ := h
    intro a ha
    rcases List.mem_cons.mp ha with rfl | ha
    · exact ⟨q.fno, q.hso⟩
    · cases ha
  | od d => obtain ⟨v, _, q⟩ := h; exact q.at
/-- slot i changes, slot j is forgotten (j may be i): the frozen part grows and the heap changes only off the other slots' places -/
theorem RelA.changeA {A' : Hp} (hA : ∀ a, A a = none → A' a = none) (r : RelA K A F H σ env) {i : Nat} (hi : i < env.length) (j : Nat) {x : Option V} {t : Slot} (sub : Same F' H') (s : Same F F')
    (go : ∀ fps : Nat → List Addr, (∀ (k : Nat) (s : Slot), env[k]? = some s → Bears K F H (σ[k]?) s (fps k)) → (∀ k l, k ≠ l → k < env.length → l < env.length → ∀ a ∈ fps k, a ∉ fps l) → (∀ k, k < env.length → ∀ a ∈ fps k, A a = none ∧ F a = none ∧ H a ≠ none) →
      ∃ fp, Bears K F' H' (some x) t fp ∧ (∀ a ∈ fp, A' a = none) ∧ ∀ k, k ≠ i → k ≠ j → k < env.length → ∀ a ∈ fps k, a ∉ fp ∧ F' a = none ∧ H' a = H a) : RelA K A' F' H' (σ.set i x) ((env.set j .no).set i t) := by
  obtain ⟨fps, h1, h2, h3⟩ := r.slot
  obtain ⟨fp, b, ka, k0⟩ := go fps h1 h2 fun k hk a ha => ⟨h3 k hk a ha, (h1 k _ (List.getElem?_eq_getElem hk)).at a ha⟩
  have hs : i < σ.length := by rw [← r.len]; exact hi
  refine ⟨sub, by rw [List.length_set, List.length_set, List.length_set]; exact r.len, fun k => if k = i then fp else if k = j then [] else fps k, fun k u hk => ?_, fun k l n lk ll a ha => ?_, fun k lk a ha => ?_⟩
  · show Bears K F' H' _ u (if k = i then fp else if k = j then [] else fps k)
    by_cases c : k = i
    · subst c
      rw [List.getElem?_set_self (by rw [List.length_set]; exact hi)] at hk
      cases hk
      rw [List.getElem?_set_self hs, if_pos rfl]
      exact b
    · rw [List.getElem?_set_ne (Ne.symm c)] at hk ⊢
      rw [if_neg c]
      by_cases c2 : k = j
      · subst c2
        rw [if_pos rfl]
        have hl : k < env.length := by
          have := (List.getElem?_eq_some_iff.mp hk).1
          rwa [List.length_set] at this
        rw [List.getElem?_set_self hl] at hk
        cases hk
        rfl
      · rw [List.getElem?_set_ne (Ne.symm c2)] at hk
        rw [if_neg c2]
        have hl : k < env.length := (List.getElem?_eq_some_iff.mp hk).1
        exact (h1 k u hk).keep s fun a ha => (k0 k c c2 hl a ha).2
  · rw [List.length_set, List.length_set] at lk ll
    have ha : a ∈ (if k = i then fp else if k = j then [] else fps k) := ha
    show a ∉ (if l = i then fp else if l = j then [] else fps l)
    by_cases c : k = i
    · rw [if_pos c] at ha
      have c2 : l ≠ i := fun z => n (c.trans z.symm)
      rw [if_neg c2]
      by_cases c3 : l = j
      · rw [if_pos c3]
        exact fun z => by cases z
      · rw [if_neg c3]
        exact fun z => (k0 l c2 c3 ll a z).1 ha
    · rw [if_neg c] at ha
      by_cases c4 : k = j
      · rw [if_pos c4] at ha
        cases ha
      · rw [if_neg c4] at ha
        by_cases c2 : l = i
        · rw [if_pos c2]
          exact (k0 k c c4 lk a ha).1
        · rw [if_neg c2]
          by_cases c3 : l = j
          · rw [if_pos c3]
            exact fun z => by cases z
          · rw [if_neg c3]
            exact h2 k l n lk ll a ha
  · rw [List.length_set, List.length_set] at lk
    have ha : a ∈ (if k = i then fp else if k = j then [] else fps k) := ha
    by_cases c : k = i
    · rw [if_pos c] at ha
      exact ka a ha
    · rw [if_neg c] at ha
      by_cases c4 : k = j
      · rw [if_pos c4] at ha
        cases ha
      · rw [if_neg c4] at ha
        exact hA a (h3 k lk a ha)
theorem RelA.change (r : RelA K A F H σ env) {i : Nat} (hi : i < env.length) (j : Nat) {x : Option V} {t : Slot} (sub : Same F' H') (s : Same F F')
    (go : ∀ fps : Nat → List Addr, (∀ (k : Nat) (s : Slot), env[k]? = some s → Bears K F H (σ[k]?) s (fps k)) → (∀ k l, k ≠ l → k < env.length → l < env.length → ∀ a ∈ fps k, a ∉ fps l) → (∀ k, k < env.length → ∀ a ∈ fps k, A a = none ∧ F a = none ∧ H a ≠ none) →
      ∃ fp, Bears K F' H' (some x) t fp ∧ (∀ a ∈ fp, A a = none) ∧ ∀ k, k ≠ i → k ≠ j → k < env.length → ∀ a ∈ fps k, a ∉ fp ∧ F' a = none ∧ H' a = H a) : RelA K A F' H' (σ.set i x) ((env.set j .no).set i t) := r.changeA (fun _ h => h) hi j sub s go
theorem RelA.change1 (r : RelA K A F H σ env) {i : Nat} (hi : i < env.length) {x : Option V} {t : Slot} (sub : Same F' H') (s : Same F F')
    (go : ∀ fps : Nat → List Addr, (∀ (k : Nat) (s : Slot), env[k]? = some s → Bears K F H (σ[k]?) s (fps k)) → (∀ k l, k ≠ l → k < env.length → l < env.length → ∀ a ∈ fps k, a ∉ fps l) → (∀ k, k < env.length → ∀ a ∈ fps k, A a = none ∧ F a = none ∧ H a ≠ none) →
      ∃ fp, Bears K F' H' (some x) t fp ∧ (∀ a ∈ fp, A a = none) ∧ ∀ k, k ≠ i → k < env.length → ∀ a ∈ fps k, a ∉ fp ∧ F' a = none ∧ H' a = H a) : RelA K A F' H' (σ.set i x) (env.set i t) := by
  have := r.change (i := i) hi i (x := x) (t := t) sub s (fun fps h1 h2 h3 => by
    obtain ⟨fp, b, ka, k0⟩ := go fps h1 h2 h3
    exact ⟨fp, b, ka, fun k n _ => k0 k n⟩)
  rwa [List.set_set] at this
mutual
theorem own_fp : ∀ {d : D} {v : V} {f g : List Addr}, Own K F H d v f → Own K F H d v g → f = g
  | .none, _, _, _, h, k => by simp only [Own] at h k; rw [h.1, k.1]
  | .bool _, _, _, _, h, k => by simp only [Own] at h k; rw [h.1, k.1]
  | .int _, _, _, _, h, k => by simp only [Own] at h k; rw [h.1, k.1]
  | .str _, _, _, _, h, k => by simp only [Own] at h k; rw [h.1, k.1]
  | .dict xs, _, _, _, h, k => by
    simp only [Own] at h k
    obtain ⟨p, vs, fq, rfl, rfl, h1, h2, h3, h4⟩ := h
    obtain ⟨p', vs', fq', e, rfl, k1, k2, k3, k4⟩ := k
    cases e
    rw [h3] at k3
    cases k3
    rw [ownK_fp h4 k4]
  | .list xs, _, _, _, h, k => by
    simp only [Own] at h k
    obtain ⟨p, vs, fq, rfl, rfl, h1, h2, h3, h4⟩ := h
    obtain ⟨p', vs', fq', e, rfl, k1, k2, k3, k4⟩ := k
    cases e
    rw [h3] at k3
    cases k3
    rw [ownL_fp h4 k4]
  | .tuple xs, _, _, _, h, k => by
    simp only [Own] at h k
    obtain ⟨p, vs, fq, rfl, rfl, h1, h2, h3, h4⟩ := h
    obtain ⟨p', vs', fq', e, rfl, k1, k2, k3, k4⟩ := k
    cases e
    rw [h3] at k3
    cases k3
    rw [ownL_fp h4 k4]
theorem ownL_fp : ∀ {d : List D} {v : List V} {f g : List Addr}, OwnL K F H d v f → OwnL K F H d v g → f = g
  | [], _, _, _, h, k => by simp only [OwnL] at h k; rw [h.2, k.2]
  | x :: r, _, _, _, h, k => by
    simp only [OwnL] at h k
    obtain ⟨v, w, f, g, rfl, rfl, h0, h1, h2⟩ := h
    obtain ⟨v', w', f', g', e, rfl, k0, k1, k2⟩ := k
    cases e
    rw [own_fp h1 k1, ownL_fp h2 k2]
theorem ownK_fp : ∀ {d : List (D × D)} {v : List (Key × V)} {f g : List Addr}, OwnK K F H d v f → OwnK K F H d v g → f = g
  | [], _, _, _, h, k => by simp only [OwnK] at h k; rw [h.2, k.2]
  | (y, x) :: r, _, _, _, h, k => by
    simp only [OwnK] at h k
    obtain ⟨kk, v, w, f, g, rfl, hk, rfl, h0, h1, h2⟩ := h
    obtain ⟨kk', v', w', f', g', e, hk', rfl, k0, k1, k2⟩ := k
    cases e
    rw [own_fp h1 k1, ownK_fp h2 k2]
end
theorem bears_fp {x : Option (Option V)} {t : Slot} {f g : List Addr} (h : Bears K F H x t f) (k : Bears K F H x t g) : f = g := by
  cases t with
  | no => exact (show f = [] from h).trans (show g = [] from k).symm
  | sh d => exact h.1.trans k.1.symm
  | ow d =>
    obtain ⟨p, rfl, h1, _⟩ := h
    obtain ⟨q, rfl, k1, _⟩ := k
    rw [h1] at k1
    cases k1
    rfl
  | od d =>
    obtain ⟨v, h1, h2⟩ := h
    obtain ⟨w, k1, k2⟩ := k
    rw [h1] at k1
    cases k1
    exact own_fp h2 k2
theorem set_get_same {l : L2.St} {i : Nat} {x : Option V} (h : l[i]? = some x) : l.set i x = l := by
  apply List.ext_getElem?
  intro j
  by_cases c : i = j
  · subst c
    rw [List.getElem?_set_self (List.getElem?_eq_some_iff.mp h).1, h]
  · rw [List.getElem?_set_ne c]
theorem lt_of_get {s : Slot} {i : Nat} (h : env[i]? = some s) : i < env.length := (List.getElem?_eq_some_iff.mp h).1
theorem RelA.ext (r : RelA K A F H σ env) (e : Ext F H F' H') : RelA K A F' H' σ env := by
  obtain ⟨fps, h1, h2, h3⟩ := r.slot
  refine ⟨e.s, r.len, fps, fun i s h => (h1 i s h).keep e.f fun a ha => ?_, h2, h3⟩
  have q := (h1 i s h).at a ha
  exact ⟨e.gone q.1 q.2, e.stay q.2⟩
theorem RelA.shs (r : RelA K A F H σ env) {i : Nat} {d : D} (h : env[i]? = some (.sh d)) : ∃ v, σ[i]? = some (some v) ∧ Is K F d v := by
  obtain ⟨fps, h1, h2, h3⟩ := r.slot
  exact (h1 i _ h).2
/-- an own slot's place is in the heap -/
theorem RelA.own (r : RelA K A F H σ env) {i : Nat} {d : D} (h : env[i]? = some (.ow d)) : ∃ p, σ[i]? = some (some (.ref p)) ∧ Root K F H p d := by
  obtain ⟨fps, h1, h2, h3⟩ := r.slot
  obtain ⟨p, _, h4, h5⟩ := h1 i _ h
  exact ⟨p, h4, h5⟩
theorem RelA.ownA (r : RelA K A F H σ env) {i : Nat} {d : D} {p : Addr} (h : env[i]? = some (.ow d)) (hp : σ[i]? = some (some (.ref p))) : A p = none := by
  obtain ⟨fps, h1, h2, h3⟩ := r.slot
  obtain ⟨q, e, h4, h5⟩ := h1 i _ h
  rw [hp] at h4
  cases h4
  exact h3 i (lt_of_get h) p (by rw [e]; exact List.mem_cons_self)
theorem RelA.ods (r : RelA K A F H σ env) {i : Nat} {d : D} (h : env[i]? = some (.od d)) : ∃ v fp, σ[i]? = some (some v) ∧ Own K F H d v fp ∧ ∀ a ∈ fp, A a = none := by
  obtain ⟨fps, h1, h2, h3⟩ := r.slot
  obtain ⟨v, h4, h5⟩ := h1 i _ h
  exact ⟨v, _, h4, h5, h3 i (lt_of_get h)⟩
/-- places of other slots stay where something new is made -/
theorem RelA.new (r : RelA K A F H σ env) (e : Ext F H F' H') {i : Nat} {x : Option V} {t : Slot} {fp : List Addr} (b : Bears K F' H' (some x) t fp) (n : ∀ a ∈ fp, H a = none ∧ A a = none) : RelA K A F' H' (σ.set i x) (env.set i t) := by
  by_cases hi : i < env.length
  case neg =>
    rw [List.set_eq_of_length_le (by rw [← r.len]; omega), List.set_eq_of_length_le (by omega)]
    exact r.ext e
  exact r.change1 hi e.s e.f fun fps h1 h2 h3 => ⟨fp, b, fun a ha => (n a ha).2, fun k _ hk a ha => ⟨fun z => (h3 k hk a ha).2.2 (n a z).1, e.gone (h3 k hk a ha).2.1 (h3 k hk a ha).2.2, e.stay (h3 k hk a ha).2.2⟩⟩
theorem RelA.set (r : RelA K A F H σ env) {i : Nat} {v : V} {d : D} (h : Is K F d v) : RelA K A F H (σ.set i (some v)) (env.set i (.sh d)) :=
  r.new (Ext.refl r.sub) (fp := []) ⟨rfl, v, rfl, h⟩ fun a z => by cases z
/-- a slot forgotten, whatever stands in it -/
theorem RelA.any (r : RelA K A F H σ env) {i : Nat} {v : Option V} : RelA K A F H (σ.set i v) (env.set i .no) :=
  r.new (Ext.refl r.sub) (t := .no) (fp := []) rfl fun a z => by cases z
/-- a new root is stored -/
theorem RelA.setO (r : RelA K A F H σ env) (e : Ext F H F' H') {i : Nat} {p : Addr} {d : D} (h : Root K F' H' p d) (n : H p = none) (na : A p = none) : RelA K A F' H' (σ.set i (some (.ref p))) (env.set i (.ow d)) :=
  r.new e (fp := [p]) ⟨p, rfl, rfl, h⟩ fun a z => by
    rcases List.mem_cons.mp z with rfl | z
    · exact ⟨n, na⟩
    · cases z
theorem RelA.setT (r : RelA K A F H σ env) (e : Ext F H F' H') {i : Nat} {v : V} {d : D} {fp : List Addr} (h : Own K F' H' d v fp) (n : ∀ a ∈ fp, H a = none) (na : ∀ a ∈ fp, A a = none) : RelA K A F' H' (σ.set i (some v)) (env.set i (.od d)) :=
  r.new e (fp := fp) ⟨v, rfl, h⟩ fun a z => ⟨n a z, na a z⟩
/-- the own list in slot i is written -/
theorem RelA.write (r : RelA K A F H σ env) {i : Nat} {p : Addr} {d d' : D} {o : HO} (h : env[i]? = some (.ow d)) (hp : σ[i]? = some (some (.ref p))) (n : Root K F (upd H p o) p d') :
    RelA K A F (upd H p o) σ (env.set i (.ow d')) := by
  have sub : Same F (upd H p o) := fun b u e => by
    have c : b ≠ p := fun z => by
      subst z
      rw [n.fno] at e
      cases e
    rw [upd_ne c]
    exact r.sub _ _ e
  have := r.change1 (lt_of_get h) (x := some (.ref p)) (t := .ow d') sub (Same.refl F) fun fps h1 h2 h3 => by
    obtain ⟨q, e, h4, h5⟩ := h1 i _ h
    rw [hp] at h4
    cases h4
    have hm : p ∈ fps i := by rw [e]; exact List.mem_cons_self
    refine ⟨[p], ⟨p, rfl, rfl, n⟩, fun a ha => ?_, fun k nk hk a ha => ?_⟩
    · rcases List.mem_cons.mp ha with rfl | ha
      · exact (h3 i (lt_of_get h) _ hm).1
      · cases ha
    · have c : a ≠ p := fun z => h2 k i nk hk (lt_of_get h) a ha (by rw [z]; exact hm)
      refine ⟨fun z => ?_, (h3 k hk a ha).2.1, upd_ne c⟩
      rcases List.mem_cons.mp z with z | z
      · exact c z
      · cases z
  rwa [set_get_same hp] at this
theorem RelA.tree1 (r : RelA K A F H σ env) {i : Nat} {d d' : D} {v : V} (h : env[i]? = some (.od d)) (hv : σ[i]? = some (some v)) (s : Same F H')
    (go : ∀ fi : List Addr, Own K F H d v fi → ∃ fp, Own K F H' d' v fp ∧ (∀ a ∈ fp, a ∈ fi ∨ (H a = none ∧ A a = none)) ∧ ∀ a, a ∉ fi → H a ≠ none → H' a = H a) :
    RelA K A F H' σ (env.set i (.od d')) := by
  have hi := lt_of_get h
  have := r.change1 hi (x := some v) (t := .od d') s (Same.refl F) fun fps h1 h2 h3 => by
    obtain ⟨w, h4, h5⟩ := h1 i _ h
    rw [hv] at h4
    cases h4
    obtain ⟨fp, o, m, k0⟩ := go (fps i) h5
    refine ⟨fp, ⟨v, rfl, o⟩, fun a ha => ?_, fun k n1 hk a ha => ?_⟩
    · rcases m a ha with z | z
      · exact (h3 i hi a z).1
      · exact z.2
    · have c1 := h2 k i n1 hk hi a ha
      refine ⟨fun z => ?_, (h3 k hk a ha).2.1, k0 a c1 (h3 k hk a ha).2.2⟩
      rcases m a z with z | z
      · exact c1 z
      · exact (h3 k hk a ha).2.2 z.1
  rwa [set_get_same hv] at this
theorem RelA.treeE (r : RelA K A F H σ env) {F1 H1 : Hp} (e : Ext F H F1 H1) {i : Nat} {d d' : D} {v : V} (h : env[i]? = some (.od d)) (hv : σ[i]? = some (some v)) (s : Same F1 H')
    (go : ∀ fi : List Addr, Own K F H d v fi → ∃ fp, Own K F1 H' d' v fp ∧ (∀ a ∈ fp, a ∈ fi ∨ (H a = none ∧ A a = none)) ∧ ∀ a, a ∉ fi → H a ≠ none → H' a = H a) :
    RelA K A F1 H' σ (env.set i (.od d')) := by
  have hi := lt_of_get h
  have := r.change1 hi (x := some v) (t := .od d') s e.f fun fps h1 h2 h3 => by
    obtain ⟨w, h4, h5⟩ := h1 i _ h
    rw [hv] at h4
    cases h4
    obtain ⟨fp, o, m, k0⟩ := go (fps i) h5
    refine ⟨fp, ⟨v, rfl, o⟩, fun a ha => ?_, fun k n1 hk a ha => ?_⟩
    · rcases m a ha with z | z
      · exact (h3 i hi a z).1
      · exact z.2
    · have c1 := h2 k i n1 hk hi a ha
      refine ⟨fun z => ?_, e.gone (h3 k hk a ha).2.1 (h3 k hk a ha).2.2, k0 a c1 (h3 k hk a ha).2.2⟩
      rcases m a z with z | z
      · exact c1 z
      · exact (h3 k hk a ha).2.2 z.1
  rwa [set_get_same hv] at this
/-- the same where slot j is given up -/
theorem RelA.treeJ (r : RelA K A F H σ env) {F1 H1 : Hp} (e : Ext F H F1 H1) {i j : Nat} {d d' : D} {v : V} (h : env[i]? = some (.od d)) (hv : σ[i]? = some (some v)) (s : Same F1 H')
    (go : ∀ fi fj : List Addr, Own K F H d v fi → (∀ s, env[j]? = some s → Bears K F H σ[j]? s fj) → (i ≠ j → ∀ a ∈ fi, a ∉ fj) → ∃ fp, Own K F1 H' d' v fp ∧ (∀ a ∈ fp, (a ∈ fi ∨ a ∈ fj) ∨ (H a = none ∧ A a = none)) ∧ ∀ a, a ∉ fi → a ∉ fj → H a ≠ none → H' a = H a) :
    RelA K A F1 H' σ ((env.set j .no).set i (.od d')) := by
  have hi := lt_of_get h
  have := r.change hi j (x := some v) (t := .od d') s e.f fun fps h1 h2 h3 => by
    obtain ⟨w, h4, h5⟩ := h1 i _ h
    rw [hv] at h4
    cases h4
    by_cases hj : j < env.length
    · obtain ⟨fp, o, m, k0⟩ := go (fps i) (fps j) h5 (fun s hs => h1 j s hs) fun n => h2 i j n hi hj
      refine ⟨fp, ⟨v, rfl, o⟩, fun a ha => ?_, fun k n1 n2 hk a ha => ?_⟩
      · rcases m a ha with (z | z) | z
        · exact (h3 i hi a z).1
        · exact (h3 j hj a z).1
        · exact z.2
      · have c1 := h2 k i n1 hk hi a ha
        have c2 := h2 k j n2 hk hj a ha
        refine ⟨fun z => ?_, e.gone (h3 k hk a ha).2.1 (h3 k hk a ha).2.2, k0 a c1 c2 (h3 k hk a ha).2.2⟩
        rcases m a z with (z | z) | z
        · exact c1 z
        · exact c2 z
        · exact (h3 k hk a ha).2.2 z.1
    · obtain ⟨fp, o, m, k0⟩ := go (fps i) [] h5 (fun s hs => absurd (lt_of_get hs) hj) fun n a _ z => by cases z
      refine ⟨fp, ⟨v, rfl, o⟩, fun a ha => ?_, fun k n1 n2 hk a ha => ?_⟩
      · rcases m a ha with (z | z) | z
        · exact (h3 i hi a z).1
        · cases z
        · exact z.2
      · have c1 := h2 k i n1 hk hi a ha
        refine ⟨fun z => ?_, e.gone (h3 k hk a ha).2.1 (h3 k hk a ha).2.2, k0 a c1 (fun z => by cases z) (h3 k hk a ha).2.2⟩
        rcases m a z with (z | z) | z
        · exact c1 z
        · cases z
        · exact (h3 k hk a ha).2.2 z.1
  rwa [set_get_same hv] at this
/-- a tree goes over from slot j to slot i -/
theorem RelA.mov (r : RelA K A F H σ env) {i j : Nat} {d : D} {v : V} (h : env[j]? = some (.od d)) (hv : σ[j]? = some (some v)) (n : i ≠ j) : RelA K A F H (σ.set i (some v)) ((env.set j .no).set i (.od d)) := by
  have hj := lt_of_get h
  by_cases hi : i < env.length
  case neg =>
    rw [List.set_eq_of_length_le (by rw [← r.len]; omega), List.set_eq_of_length_le (by rw [List.length_set]; omega)]
    have := r.any (i := j) (v := some v)
    rwa [set_get_same hv] at this
  exact r.change hi j r.sub (Same.refl F) fun fps h1 h2 h3 => by
    obtain ⟨w, h4, h5⟩ := h1 j _ h
    rw [hv] at h4
    cases h4
    exact ⟨fps j, ⟨v, rfl, h5⟩, fun a ha => (h3 j hj a ha).1, fun k n1 n2 hk a ha => ⟨h2 k j n2 hk hj a ha, (h3 k hk a ha).2.1, rfl⟩⟩

/-- slots forgotten -/
theorem wipeE_get {env : Env} {i : Nat} : ∀ {vs : List Nat} {s : Slot}, (wipeE env vs)[i]? = some s → s = .no ∨ (i ∉ vs ∧ env[i]? = some s)
  | [], s, h => .inr ⟨by simp, h⟩
  | v :: vs, s, h => by
    unfold wipeE at h
    by_cases c : v = i
    · subst c
      have hl : v < (wipeE env vs).length := by
        have := (List.getElem?_eq_some_iff.mp h).1
        rwa [List.length_set] at this
      rw [List.getElem?_set_self hl] at h
      cases h
      exact .inl rfl
    · rw [List.getElem?_set_ne c] at h
      rcases wipeE_get h with q | ⟨q1, q2⟩
      · exact .inl q
      · exact .inr ⟨by simp only [List.mem_cons, not_or]; exact ⟨fun z => c z.symm, q1⟩, q2⟩
theorem wipeE_len {env : Env} : ∀ {vs : List Nat}, (wipeE env vs).length = env.length
  | [] => rfl
  | v :: vs => by
    unfold wipeE
    rw [List.length_set, wipeE_len]
theorem wipe_at {σ : L2.St} {i : Nat} : ∀ {vs : List Nat}, i ∉ vs → (wipe σ vs)[i]? = σ[i]?
  | [], _ => rfl
  | v :: vs, h => by
    unfold wipe
    simp only [List.mem_cons, not_or] at h
    rw [List.getElem?_set_ne (fun z => h.1 z.symm)]
    exact wipe_at h.2
theorem wipeE_at {env : Env} {i : Nat} : ∀ {vs : List Nat}, i ∉ vs → (wipeE env vs)[i]? = env[i]?
  | [], _ => rfl
  | v :: vs, h => by
    unfold wipeE
    simp only [List.mem_cons, not_or] at h
    rw [List.getElem?_set_ne (fun z => h.1 z.symm)]
    exact wipeE_at h.2
theorem RelA.wipe (r : RelA K A F H σ env) (vs : List Nat) : RelA K A F H (L2.wipe σ vs) (wipeE env vs) := by
  obtain ⟨fps, h1, h2, h3⟩ := r.slot
  refine ⟨r.sub, by rw [wipeE_len, wipe_length]; exact r.len, fun i => if i ∈ vs then [] else fps i, fun i s h => ?_, fun i j n hi hj a ha => ?_, fun i hi a ha => ?_⟩
  · show Bears K F H _ s (if i ∈ vs then [] else fps i)
    by_cases c : i ∈ vs
    · rw [if_pos c]
      rcases wipeE_get h with q | ⟨q1, q2⟩
      · subst q
        rfl
      · exact absurd c q1
    · rw [if_neg c, wipe_at c]
      rcases wipeE_get h with q | ⟨q1, q2⟩
      · subst q
        have : (wipeE env vs)[i]? = env[i]? := wipeE_at c
        rw [this] at h
        exact h1 i _ h
      · exact h1 i s q2
  · rw [wipeE_len] at hi hj
    have ha : a ∈ (if i ∈ vs then [] else fps i) := ha
    show a ∉ (if j ∈ vs then [] else fps j)
    by_cases c : i ∈ vs
    · rw [if_pos c] at ha
      cases ha
    · rw [if_neg c] at ha
      by_cases c2 : j ∈ vs
      · rw [if_pos c2]
        exact fun z => by cases z
      · rw [if_neg c2]
        exact h2 i j n hi hj a ha
  · rw [wipeE_len] at hi
    have ha : a ∈ (if i ∈ vs then [] else fps i) := ha
    by_cases c : i ∈ vs
    · rw [if_pos c] at ha
      cases ha
    · rw [if_neg c] at ha
      exact h3 i hi a ha
/-- an own slot frozen -/
theorem RelA.freeze (r : RelA K A F H σ env) {i : Nat} {d : D} (h : env[i]? = some (.ow d) ∨ env[i]? = some (.od d)) : ∃ fp, (∀ a ∈ fp, F a = none ∧ A a = none) ∧ RelA K A (frzAt F H fp) H σ (env.set i (.sh d)) := by
  obtain ⟨fps, h1, h2, h3⟩ := r.slot
  have hi : i < env.length := h.elim lt_of_get lt_of_get
  have fz : ∃ v, σ[i]? = some (some v) ∧ Is K (frzAt F H (fps i)) d v ∧ ∀ a ∈ fps i, F a = none := by
    rcases h with h | h
    · obtain ⟨p, e, h4, h5⟩ := h1 i _ h
      rw [e]
      obtain ⟨o, e1, e2, e3, e4⟩ := h5.freeze r.sub
      have : upd F p o = frzAt F H [p] := funext fun a => by
        by_cases c : a = p
        · subst c
          rw [upd_same, frzAt_in List.mem_cons_self, e1]
        · rw [upd_ne c, frzAt_out (fun z => by
            rcases List.mem_cons.mp z with z | z
            · exact c z
            · cases z)]
      rw [this] at e4
      refine ⟨_, h4, e4, fun a ha => ?_⟩
      rcases List.mem_cons.mp ha with rfl | ha
      · exact h5.fno
      · cases ha
    · obtain ⟨v, h4, h5⟩ := h1 i _ h
      exact ⟨v, h4, h5.frozen, fun a ha => (h5.at a ha).1⟩
  obtain ⟨v, hv, iv, fn⟩ := fz
  refine ⟨fps i, fun a ha => ⟨fn a ha, h3 i hi a ha⟩, ?_⟩
  have := r.change1 hi (x := some v) (t := .sh d) (F' := frzAt F H (fps i)) (H' := H) (frzAt_sub r.sub) (frzAt_same r.sub) fun gps g1 g2 g3 => ?_
  · rwa [set_get_same hv] at this
  · refine ⟨[], ⟨rfl, v, rfl, iv⟩, (fun a z => by cases z), fun k nk hk a ha => ⟨(fun z => by cases z), ?_, rfl⟩⟩
    have bi : Bears K F H (σ[i]?) (.no) [] := rfl
    have same : gps i = fps i := by
      rcases h with h | h
      · exact bears_fp (g1 i _ h) (h1 i _ h)
      · exact bears_fp (g1 i _ h) (h1 i _ h)
    rw [frzAt_out (by rw [← same]; exact g2 k i nk hk hi a ha)]
    exact (g3 k hk a ha).2.1
end

/-! ### a def's promise -/
/-- the arguments bear the data ds; the answer is what g says of them -/
def spD (K : PySem.W.Frag) (cref : Str → Value) (k : Nat) (g : List D → R TD) : Sp := fun vs H Q E => vs.length = k ∧ ∃ F ds, Same F H ∧ IsL K F ds vs ∧ match g ds with
  | .ok (o, d) => ∀ v F' H', Ext F H F' H' → Res K H F' H' v (o, d) → Q v H'
  | .exc c => ∀ F' H', Ext F H F' H' → E (cref c) none H'
  | .stuck => False
end PV

/-! PvOps: each operation of the language by the layer's rule. -/
namespace PV
open PySem PySem.Spec PyProof.Rows L2

/-! ### behind a reckoning -/
def Aft {α : Type} (F H : Hp) (W : Str → Hp → Prop) (r : R α) (P : α → Hp → Hp → Prop) : Prop := match r with
  | .ok a => ∀ F' H', Ext F H F' H' → P a F' H'
  | .exc c => ∀ F' H', Ext F H F' H' → W c H'
  | .stuck => False
theorem Aft.bind {α β : Type} {F H : Hp} {W : Str → Hp → Prop} {r : R α} {f : α → R β} {P : β → Hp → Hp → Prop} (h : Aft F H W (r.bind f) P) :
    Aft F H W r fun a F1 H1 => Aft F1 H1 W (f a) P := by
  cases r with
  | ok a =>
    intro F1 H1 e
    have h' : Aft F H W (f a) P := h
    cases q : f a with
    | ok b =>
      rw [q] at h'
      exact fun F2 H2 e2 => h' F2 H2 (e.trans e2)
    | exc c =>
      rw [q] at h'
      exact fun F2 H2 e2 => h' F2 H2 (e.trans e2)
    | stuck =>
      rw [q] at h'
      exact h'
  | exc c => exact h
  | stuck => exact h
theorem Aft.imp {α : Type} {F H : Hp} {W : Str → Hp → Prop} {r : R α} {P P' : α → Hp → Hp → Prop} (h : Aft F H W r P) (k : ∀ a F' H', r = .ok a → Ext F H F' H' → P a F' H' → P' a F' H') : Aft F H W r P' := by
  cases r with
  | ok a => exact fun F' H' e => k a F' H' rfl e (h F' H' e)
  | exc c => exact h
  | stuck => exact h
theorem Aft.at {α : Type} {F H F1 H1 : Hp} {W : Str → Hp → Prop} {r : R α} {P : α → Hp → Hp → Prop} (h : Aft F H W r P) (e : Ext F H F1 H1) : Aft F1 H1 W r P := by
  cases r with
  | ok a => exact fun F' H' z => h F' H' (e.trans z)
  | exc c => exact fun F' H' z => h F' H' (e.trans z)
  | stuck => exact h

/-! ### what an operation asks and gives, over any heap that bears its operands -/
abbrev H0 : Hp := fun _ => none
theorem same0 {H : Hp} : Same H0 H := fun _ _ h => by cases h
/-- the wish: whatever bears the answer -/
def Give (K : PySem.W.Frag) (F H : Hp) (r : R TD) (Q : VK) : Prop := match r with
  | .ok x => ∀ v F' H', Ext F H F' H' → Res K H F' H' v x → Q v H'
  | _ => False
def rBin (K : PySem.W.Frag) (o : Bop) : R2 := fun x y H Q => ∃ F a b, Same F H ∧ Res K H0 F H x a ∧ Res K H0 F H y b ∧ Give K F H (evBin o a b) Q
def rCmp (K : PySem.W.Frag) (o : Cop) : R2 := fun x y H Q => ∃ d e b, Is K H d x ∧ Is K H e y ∧ evCmp o d e = .ok b ∧ Q (.bl b) H
def rIxD (K : PySem.W.Frag) : R2 := fun x y H Q => ∃ F a d, Same F H ∧ Res K H0 F H x a ∧ Is K H d y ∧ Give K F H (evIx a d) Q
def rNeg (K : PySem.W.Frag) : V → Hp → VK → Prop := fun x H Q => ∃ F d, Same F H ∧ Is K H d x ∧ Give K F H (evNeg d) Q
def rSlD (K : PySem.W.Frag) : V → Option Int → Option Int → Hp → VK → Prop := fun x lo hi H Q => ∃ F a, Same F H ∧ Res K H0 F H x a ∧ Give K F H (evSl a lo hi) Q
theorem Give.of {K : PySem.W.Frag} {F H : Hp} {Q : VK} {d : D} {v : V} (s : Same F H) (h : Give K F H (ok1 d) Q) (i : Is K F d v) : Q v H := h v F H (Ext.refl s) i
theorem Give.guard {K : PySem.W.Frag} {F H : Hp} {Q : VK} {b : Bool} {r : R TD} (h : Give K F H (guard b r) Q) : b = true ∧ Give K F H r Q := by
  unfold PV.guard at h
  cases b with
  | true => exact ⟨rfl, h⟩
  | false => exact h.elim
section
variable {X : Cx} {K : PySem.W.Frag}
theorem OpR.imp {f : Value → Value → Sem Value} {r r' : R2} (h : OpR X f r) (k : ∀ x y H Q, r' x y H Q → r x y H Q) : OpR X f r' :=
  fun pins s σ H x y v u Q I rx ry q => h pins s σ H x y v u Q I rx ry (k x y H Q q)
theorem UnR.imp {f : Value → Sem Value} {r r' : V → Hp → VK → Prop} (h : UnR X f r) (k : ∀ x H Q, r' x H Q → r x H Q) : UnR X f r' :=
  fun pins s σ H x v Q I rx q => h pins s σ H x v Q I rx (k x H Q q)
theorem IxR.imp {r r' : R2} (h : IxR X r) (k : ∀ x y H Q, r' x y H Q → r x y H Q) : IxR X r' :=
  fun value slice pins s σ H x y v u Q I rx ry q hs => h value slice pins s σ H x y v u Q I rx ry (k x y H Q q) hs
theorem SlR.imp {r r' : V → Option Int → Option Int → Hp → VK → Prop} (h : SlR X r) (k : ∀ x l u H Q, r' x l u H Q → r x l u H Q) : SlR X r' :=
  fun pins s σ H x v vl vu lo hi sl Q I rx hs pl pu q => h pins s σ H x v vl vu lo hi sl Q I rx hs pl pu (k x lo hi H Q q)
theorem CallR.imp {f : Value} {r r' : List V → Hp → VK → Prop} (h : CallR X f r) (k : ∀ xs H Q, r' xs H Q → r xs H Q) : CallR X f r' :=
  fun pins s σ H xs us Q I rx q => h pins s σ H xs us Q I rx (k xs H Q q)
theorem OpR.none {f : Value → Value → Sem Value} {r : R2} (h : ∀ x y H Q, ¬ r x y H Q) : OpR X f r := fun pins s σ H x y v u Q I rx ry q => absurd q (h x y H Q)
theorem lim_le : lim ≤ sizeLine := by
  rw [sizeLine_eq]
  decide
theorem is_int {H : Hp} {i : Int} {v : V} (h : Is K H (.int i) v) : v = .int i := by simpa only [Is] using h
theorem is_bool {H : Hp} {i : Bool} {v : V} (h : Is K H (.bool i) v) : v = .bl i := by simpa only [Is] using h
theorem is_str {H : Hp} {i : Str} {v : V} (h : Is K H (.str i) v) : v = .str i := by simpa only [Is] using h
theorem is_none {H : Hp} {v : V} (h : Is K H .none v) : v = .non := by simpa only [Is] using h
theorem int_is {H : Hp} {i : Int} : Is K H (.int i) (.int i) := by simp only [Is]
theorem bool_is {H : Hp} {i : Bool} : Is K H (.bool i) (.bl i) := by simp only [Is]
theorem str_is {H : Hp} {i : Str} : Is K H (.str i) (.str i) := by simp only [Is]
theorem Res.int {H1 F H : Hp} {t : Tag} {i : Int} {v : V} (h : Res K H1 F H v (t, .int i)) (s : Same F H) : v = .int i := is_int (h.is s)
theorem Res.str {H1 F H : Hp} {t : Tag} {i : Str} {v : V} (h : Res K H1 F H v (t, .str i)) (s : Same F H) : v = .str i := is_str (h.is s)

/-! ### list + list, list * int: over anything that bears a list -/
def rCatL (K : PySem.W.Frag) : R2 := fun x y H Q => ∃ l b xs zs, x = .ref l ∧ y = .ref b ∧ LL K H l xs ∧ LL K H b zs ∧ xs.length + zs.length ≤ sizeLine ∧ ∀ p, H p = none → Q (.ref p) (upd H p (.lst (xs ++ zs)))
theorem LL.obj {pins : List (Addr × Obj)} {σ : L2.St} {H : Hp} {s : Shared} {l : Addr} {xs : List V} (I : Inv X pins σ H s) (h : LL X.K H l xs) :
    ∃ (its : List Value) (n : Nat), Vals xs its ∧ s.heap.get? l = some { cls := .type "list", data := .seq its.toArray n } := by
  rcases h with h | ⟨its, n, h1, h2, h3⟩
  · obtain ⟨z, its, n, r, e⟩ := h.ok I.hok
    exact ⟨its, n, r, e⟩
  · exact ⟨its, n, h2, I.kIn l _ h1⟩
theorem op_catL : OpR X (binaryOp .Add) (rCatL X.K) := by
  intro pins s σ H x y v u Q I rx ry h
  obtain ⟨l, b, xs, zs, rfl, rfl, hH, hB, hz, q⟩ := h
  cases rx
  cases ry
  obtain ⟨its, n, r, e⟩ := hH.obj I
  obtain ⟨its2, n2, r2, e2⟩ := hB.obj I
  have l1 := r.length
  have l2 := r2.length
  refine PySem.P.add_list e e2 ?_ (by rw [List.size_toArray, List.size_toArray]; omega)
  rw [show its.toArray ++ its2.toArray = (its ++ its2).toArray by simp]
  exact ⟨.ref _, _, I.lnew (t' := s.toks) (r.append r2) (by rw [List.length_append]; omega), rfl, q _ I.fresh⟩
theorem hp_le {t u : Tag} {F H : Hp} (s : Same F H) : Same (hp t F H) (hp (t.jn u) F H) := by
  cases t <;> cases u <;> first | exact Same.refl _ | exact s
theorem hp_le2 {t u : Tag} {F H : Hp} (s : Same F H) : Same (hp u F H) (hp (t.jn u) F H) := by
  cases t <;> cases u <;> first | exact Same.refl _ | exact s
theorem kid_kid (t : Tag) : t.kid.kid = t.kid := by cases t <;> rfl
/-- a new list of such items -/
theorem new_list {F H : Hp} {t : Tag} {ds : List D} {vs : List V} {Q : VK} (ht : t = .sh ∨ t = .pk) (s : Same F H) (h : IsL K (hp t F H) ds vs) (g : Give K F H (.ok (t.root, .list ds)) Q) :
    ∀ p, H p = none → Q (.ref p) (upd H p (.lst vs)) := fun p np => by
  refine g (.ref p) F _ (Ext.new0 s np) ?_
  rcases ht with rfl | rfl
  · exact ⟨p, rfl, np, s.free np, vs, upd_same, h⟩
  · show Is K (upd H p (.lst vs)) (.list ds) (.ref p)
    simp only [Is]
    exact ⟨p, vs, rfl, .of upd_same, h.mono (same_upd np)⟩
theorem kid_cases (t : Tag) : t.kid = .sh ∨ t.kid = .pk := by cases t <;> first | exact .inl rfl | exact .inr rfl
theorem jn_cases (t u : Tag) : t.jn u = .sh ∨ t.jn u = .pk := by cases t <;> cases u <;> first | exact .inl rfl | exact .inr rfl
theorem res_root {H1 F H : Hp} {t : Tag} {ds : List D} {v : V} (h : Res K H1 F H v (t, .list ds)) (c : isRt t = true) : ∃ p vs, v = .ref p ∧ H p = some (.lst vs) ∧ IsL K F ds vs := by
  cases t with
  | rt => obtain ⟨p, rfl, _, vs, e, q⟩ := h; exact ⟨p, vs, rfl, e, q⟩
  | ow => obtain ⟨p, rfl, _, _, vs, e, q⟩ := h; exact ⟨p, vs, rfl, e, q⟩
  | _ => cases c
theorem of_kid {H1 F H : Hp} {t : Tag} {d : D} {v : V} (h : Is K (hp t.kid F H) d v) : Res K H1 F H v (t.kid, d) := by
  cases t <;> exact h
theorem bits_le {i : Int} (h : i.natAbs < 2 ^ 4000) : Builtin.Int.intBits i ≤ 4000 := by
  unfold Builtin.Int.intBits
  split
  · exact Nat.zero_le _
  · rename_i c
    have h0 : i.natAbs ≠ 0 := fun z => c (by simpa using z)
    have := (Nat.log2_lt h0).mpr h
    omega
theorem mulOk_fits {i j : Int} (h : mulOk i j = true) : IntMulOk i j := by
  simp only [mulOk, Bool.or_eq_true, Bool.and_eq_true, decide_eq_true_eq] at h
  rcases h with (⟨h1, h2⟩ | h) | h
  · unfold IntMulOk
    intro z
    simp only [Bool.and_eq_true] at z
    have h3 := z.2
    unfold Builtin.Int.intTooBig at h3
    have h4 := of_decide_eq_true h3
    have a := bits_le h1
    have b := bits_le h2
    have c : (bitsLine : Int) = 134217728 := by decide +kernel
    rw [c] at h4
    omega
  · exact CMul.ok (.inl h)
  · exact CMul.ok (.inr h)
theorem op_mulB : OpR X (binaryOp .Mult) (rI IntMulOk fun i j => .int (i * j)) := opI fun _ _ _ _ _ _ _ hc q => mul_int q hc
theorem cat_tups {H0 F H : Hp} {s t : Tag} {xs ys : List D} {x y : V} {Q : VK} (sm : Same F H) (ra : Res K H0 F H x (s, .tuple xs)) (rb : Res K H0 F H y (t, .tuple ys)) (hs : tgT s = true) (ht : tgT t = true) (hl : xs.length + ys.length ≤ lim)
    (g : Give K F H (.ok (s.jn t, .tuple (xs ++ ys))) Q) : rCatA K x y H Q := by
  have res : ∀ {u : Tag} {d : D} {v : V}, tgT u = true → Res K H0 F H v (u, d) → Is K (hp u F H) d v := fun {u d v} hu r => by
    cases u <;> first | exact r | cases hu
  have ia := (res hs ra).mono (hp_le (u := t) sm)
  have ib := (res ht rb).mono (hp_le2 (t := s) sm)
  have hu : s.jn t = .sh ∨ s.jn t = .pk := jn_cases s t
  generalize s.jn t = u at ia ib hu g
  have sHu : Same (hp u F H) H := by rcases hu with rfl | rfl <;> first | exact sm | exact Same.refl _
  simp only [Is] at ia ib
  obtain ⟨a, vs, rfl, h1, h2⟩ := ia
  obtain ⟨b, ws, rfl, h3, h4⟩ := ib
  have keep : ∀ (v : V), Is K (hp u F H) (.tuple (xs ++ ys)) v → Q v H := fun v iv => g v F H (Ext.refl sm) (by rcases hu with rfl | rfl <;> exact iv)
  refine ⟨a, b, vs, ws, rfl, rfl, sqT_mono sHu h1, sqT_mono sHu h3, by rw [h2.len, h4.len]; exact Nat.le_trans hl lim_le, fun e => ?_, fun _ e => ?_, fun _ _ p np => ?_⟩
  · subst e
    have : xs = [] := List.length_eq_zero_iff.mp h2.len.symm
    subst this
    refine keep _ ?_
    simp only [Is]
    exact ⟨b, ws, rfl, h3, h4⟩
  · subst e
    have : ys = [] := List.length_eq_zero_iff.mp h4.len.symm
    subst this
    refine keep _ ?_
    rw [List.append_nil]
    simp only [Is]
    exact ⟨a, vs, rfl, h1, h2⟩
  · rcases hu with rfl | rfl
    · refine g (.ref p) (upd F p (.tup (vs ++ ws))) _ (Ext.new sm np) ?_
      show Is K (upd F p (.tup (vs ++ ws))) (.tuple (xs ++ ys)) (.ref p)
      simp only [Is]
      exact ⟨p, _, rfl, SqT.of upd_same, (h2.app h4).mono (same_upd (sm.free np))⟩
    · refine g (.ref p) F _ (Ext.new0 sm np) ?_
      show Is K (upd H p (.tup (vs ++ ws))) (.tuple (xs ++ ys)) (.ref p)
      simp only [Is]
      exact ⟨p, _, rfl, SqT.of upd_same, (h2.app h4).mono (same_upd np)⟩
theorem op_bin (o : Bop) : OpR X (binaryOp (bopE o)) (rBin X.K o) := by
  cases o with
  | add =>
    refine OpR.imp (OpR.or op_add (OpR.or op_catL (OpR.or op_catA op_add_str))) fun x y H Q h => ?_
    obtain ⟨F, ⟨s, a⟩, ⟨t, b⟩, sm, ra, rb, g⟩ := h
    cases a with
    | int i =>
      cases b with
      | int j => exact .inl ⟨i, j, ra.int sm, rb.int sm, g.of sm int_is⟩
      | _ => exact g.elim
    | str i =>
      cases b with
      | str j =>
        obtain ⟨g1, g2⟩ := g.guard
        exact .inr (.inr (.inr ⟨i, j, ra.str sm, rb.str sm, Nat.le_trans (of_decide_eq_true g1) lim_le, g2.of sm str_is⟩))
      | _ => exact g.elim
    | list xs =>
      cases b with
      | list ys =>
        obtain ⟨g1, g2⟩ := g.guard
        obtain ⟨l, vs, rfl, h1, h2⟩ := ra.list sm
        obtain ⟨m, ws, rfl, h3, h4⟩ := rb.list sm
        refine .inr (.inl ⟨l, m, vs, ws, rfl, rfl, h1, h3, ?_, new_list (jn_cases _ _) sm ((h2.mono (hp_le sm)).app (h4.mono (hp_le2 sm))) g2⟩)
        rw [h2.len, h4.len]
        exact Nat.le_trans (of_decide_eq_true g1) lim_le
      | _ => exact g.elim
    | tuple xs =>
      cases b with
      | tuple ys =>
        obtain ⟨g1, g2⟩ := g.guard
        simp only [Bool.and_eq_true, decide_eq_true_eq] at g1
        exact .inr (.inr (.inl (cat_tups sm ra rb g1.1.1 g1.1.2 g1.2 g2)))
      | _ => exact g.elim
    | _ => exact g.elim
  | sub =>
    refine OpR.imp op_sub fun x y H Q h => ?_
    obtain ⟨F, ⟨s, a⟩, ⟨t, b⟩, sm, ra, rb, g⟩ := h
    cases a with
    | int i =>
      cases b with
      | int j => exact ⟨i, j, ra.int sm, rb.int sm, g.of sm int_is⟩
      | _ => exact g.elim
    | _ => exact g.elim
  | mul =>
    refine OpR.imp (OpR.or op_mulB op_rep) fun x y H Q h => ?_
    obtain ⟨F, ⟨s, a⟩, ⟨t, b⟩, sm, ra, rb, g⟩ := h
    cases a with
    | list xs =>
      cases b with
      | int k =>
        obtain ⟨g1, g2⟩ := g.guard
        simp only [Bool.and_eq_true, decide_eq_true_eq] at g1
        obtain ⟨⟨⟨q0, q1⟩, q2⟩, q3⟩ := g1
        obtain ⟨p, vs, rfl, hv, hL⟩ := res_root ra q0
        have h62 : (lim : Int) < 2 ^ 63 := by decide
        refine .inr ⟨p, k, vs, rfl, rb.int sm, hv, by omega, by omega, by rw [hL.len]; exact Nat.le_trans q3 lim_le, ?_⟩
        exact new_list (t := .sh) (.inl rfl) sm (hL.rep k.toNat) g2
      | _ => exact g.elim
    | int i =>
      cases b with
      | int j =>
        obtain ⟨g1, g2⟩ := g.guard
        refine .inl ⟨i, j, ra.int sm, rb.int sm, ?_, g2.of sm int_is⟩
        exact mulOk_fits g1
      | _ => exact g.elim
    | _ => exact g.elim
  | fdv =>
    refine OpR.imp op_fdiv fun x y H Q h => ?_
    obtain ⟨F, ⟨s, a⟩, ⟨t, b⟩, sm, ra, rb, g⟩ := h
    cases a with
    | int i =>
      cases b with
      | int j =>
        obtain ⟨g1, g2⟩ := g.guard
        simp only [Bool.and_eq_true, decide_eq_true_eq] at g1
        exact ⟨i, j, ra.int sm, rb.int sm, g1, g2.of sm int_is⟩
      | _ => exact g.elim
    | _ => exact g.elim
  | mod =>
    refine OpR.imp op_mod fun x y H Q h => ?_
    obtain ⟨F, ⟨s, a⟩, ⟨t, b⟩, sm, ra, rb, g⟩ := h
    cases a with
    | int i =>
      cases b with
      | int j =>
        obtain ⟨g1, g2⟩ := g.guard
        exact ⟨i, j, ra.int sm, rb.int sm, of_decide_eq_true g1, g2.of sm int_is⟩
      | _ => exact g.elim
    | _ => exact g.elim
  | pow =>
    refine OpR.imp op_pow fun x y H Q h => ?_
    obtain ⟨F, ⟨s, a⟩, ⟨t, b⟩, sm, ra, rb, g⟩ := h
    cases a with
    | int i =>
      cases b with
      | int j =>
        obtain ⟨g1, g2⟩ := g.guard
        simp only [powOk, Bool.and_eq_true, decide_eq_true_eq] at g1
        exact ⟨i, j, ra.int sm, rb.int sm, ⟨g1.1.1, g1.1.2, g1.2⟩, g2.of sm int_is⟩
      | _ => exact g.elim
    | _ => exact g.elim
  | shl =>
    refine OpR.imp op_shl fun x y H Q h => ?_
    obtain ⟨F, ⟨s, a⟩, ⟨t, b⟩, sm, ra, rb, g⟩ := h
    cases a with
    | int i =>
      cases b with
      | int j =>
        obtain ⟨g1, g2⟩ := g.guard
        simp only [powOk, Bool.and_eq_true, decide_eq_true_eq] at g1
        exact ⟨i, j, ra.int sm, rb.int sm, ⟨g1.1.1, g1.1.2, g1.2⟩, g2.of sm int_is⟩
      | _ => exact g.elim
    | _ => exact g.elim
  | shr =>
    refine OpR.imp op_shr fun x y H Q h => ?_
    obtain ⟨F, ⟨s, a⟩, ⟨t, b⟩, sm, ra, rb, g⟩ := h
    cases a with
    | int i =>
      cases b with
      | int j =>
        obtain ⟨g1, g2⟩ := g.guard
        exact ⟨i, j, ra.int sm, rb.int sm, of_decide_eq_true g1, g2.of sm int_is⟩
      | _ => exact g.elim
    | _ => exact g.elim
  | band =>
    refine OpR.imp op_and fun x y H Q h => ?_
    obtain ⟨F, ⟨s, a⟩, ⟨t, b⟩, sm, ra, rb, g⟩ := h
    cases a with
    | int i =>
      cases b with
      | int j => exact ⟨i, j, ra.int sm, rb.int sm, g.of sm int_is⟩
      | _ => exact g.elim
    | _ => exact g.elim
theorem un_negD : UnR X (unaryOp .USub) (rNeg X.K) := by
  refine UnR.imp un_neg fun x H Q h => ?_
  obtain ⟨F, d, sm, ra, g⟩ := h
  cases d with
  | int i => exact ⟨i, is_int ra, g.of sm int_is⟩
  | _ => exact g.elim
theorem gB_ok {c b r : Bool} (h : gB c b = .ok r) : c = true ∧ b = r := by
  unfold gB at h
  cases c with
  | true =>
    simp only [if_true] at h
    cases h
    exact ⟨rfl, rfl⟩
  | false => simp at h
theorem both_ok {d e : D} (h : both d e = true) : SeqAt.shaped d = true ∧ SeqAt.shaped e = true := by
  simpa only [both, Bool.and_eq_true] using h
theorem isNone_dec {H : Hp} {d : D} {x : V} (h : Is K H d x) : decide (x = V.non) = isNone d := by
  cases d with
  | none => rw [is_none h]; rfl
  | bool _ => rw [is_bool h]; rfl
  | int _ => rw [is_int h]; rfl
  | str _ => rw [is_str h]; rfl
  | list _ => obtain ⟨a, vs, rfl, _⟩ := (by simpa only [Is] using h : ∃ a vs, x = .ref a ∧ _); rfl
  | tuple _ => obtain ⟨a, vs, rfl, _⟩ := (by simpa only [Is] using h : ∃ a vs, x = .ref a ∧ _); rfl
  | dict _ => obtain ⟨a, vs, rfl, _⟩ := (by simpa only [Is] using h : ∃ a vs, x = .ref a ∧ _); rfl
theorem evEq_cases (d e : D) : (∃ x y, d = .str x ∧ e = .str y ∧ evEq d e = .ok (decide (x = y))) ∨ (∃ a b, d = .dict a ∧ e = .dict b ∧ evEq d e = if dSame a b then .ok true else .stuck) ∨ evEq d e = gB (both d e) (PyData.eqv d e) := by
  cases d <;> cases e <;> first | exact .inr (.inr rfl) | exact .inl ⟨_, _, rfl, rfl, rfl⟩ | exact .inr (.inl ⟨_, _, rfl, rfl, rfl⟩)
theorem evNe_cases (d e : D) : (∃ x y, d = .str x ∧ e = .str y ∧ evNe d e = .ok (!decide (x = y))) ∨ (∃ a b, d = .dict a ∧ e = .dict b ∧ evNe d e = if dSame a b then .ok false else .stuck) ∨ evNe d e = gB (both d e) (!PyData.eqv d e) := by
  cases d <;> cases e <;> first | exact .inr (.inr rfl) | exact .inl ⟨_, _, rfl, rfl, rfl⟩ | exact .inr (.inl ⟨_, _, rfl, rfl, rfl⟩)
theorem dkey_of (k : Key) : dkey (keyD k) = some k := by cases k <;> rfl
theorem intKV_is {H : Hp} : ∀ {kvs : List (D × D)} {l : List (Key × Int)} {es : List (Key × V)}, intKV kvs = some l → IsK X.K H kvs es → es = l.map fun p => (p.1, V.int p.2)
  | [], l, es, e, h => by
    cases e
    simpa only [IsK, List.map_nil] using h
  | (k, d) :: r, l, es, e, h => by
    simp only [IsK] at h
    obtain ⟨kk, v, es', rfl, rfl, hv, t⟩ := h
    cases d with
    | int i =>
      unfold intKV at e
      rw [dkey_of] at e
      cases q : intKV r with
      | none => rw [q] at e; cases e
      | some m =>
        rw [q] at e
        cases e
        rw [intKV_is q t, is_int hv]
        rfl
    | _ => cases e
theorem nodup_val {l : List (Key × Int)} (h : (l.map (·.1)).Nodup) : ∀ p ∈ l, valV (l.map fun p => (p.1, V.int p.2)) p.1 = some (.int p.2) := by
  induction l with
  | nil => intro p hp; cases hp
  | cons q r ih =>
    intro p hp
    rw [List.map_cons, List.nodup_cons] at h
    rcases List.mem_cons.mp hp with rfl | hp
    · exact valV_pos rfl
    · have ne : q.1 ≠ p.1 := fun z => h.1 (by rw [z]; exact List.mem_map_of_mem hp)
      have := ih h.2 p hp
      unfold valV at this ⊢
      rw [List.map_cons, List.find?_cons]
      show Option.map _ (match decide (q.1 = p.1) with | true => _ | false => _) = _
      rw [decide_eq_false ne]
      exact this
theorem dict_same {H : Hp} {a b : List (D × D)} {x y : V} (h : dSame a b = true) (ha : Is X.K H (.dict a) x) (hb : Is X.K H (.dict b) y) :
    ∃ p q ks, x = .ref p ∧ y = .ref q ∧ H p = some (.dK ks) ∧ H q = some (.dK ks) ∧ ks.length = ks.length ∧ ∀ e ∈ ks, valV ks e.1 = some e.2 ∧ flatB e.2 = true := by
  simp only [Is] at ha hb
  obtain ⟨p, es, rfl, h1, h2⟩ := ha
  obtain ⟨q, fs, rfl, h3, h4⟩ := hb
  unfold dSame at h
  cases e1 : intKV a with
  | none => rw [e1] at h; cases h
  | some l =>
    cases e2 : intKV b with
    | none => rw [e1, e2] at h; cases h
    | some m =>
      rw [e1, e2] at h
      simp only [Bool.and_eq_true, decide_eq_true_eq] at h
      obtain ⟨rfl, nd⟩ := h
      have g1 := intKV_is e1 h2
      have g2 := intKV_is e2 h4
      subst g1
      subst g2
      refine ⟨p, q, _, rfl, rfl, h1, h3, rfl, fun e he => ?_⟩
      obtain ⟨z, hz, rfl⟩ := List.mem_map.mp he
      exact ⟨nodup_val nd z hz, rfl⟩
theorem dec_strs {x y : Str} : decide (V.str x = V.str y) = decide (x = y) := by
  by_cases h : x = y
  · subst h; simp
  · rw [decide_eq_false h, decide_eq_false fun z => h (by cases z; rfl)]
theorem op_cmp (hu2 : X.A.units + 65 < cLine) (o : Cop) : OpR X (compareOp (copE o)) (rCmp X.K o) := by
  have hu : X.A.units + 64 < cLine := by omega
  cases o with
  | eq =>
    refine OpR.imp (OpR.or op_eq (OpR.or (op_eq_dictA (by omega)) (op_eqD hu))) fun x y H Q h => ?_
    obtain ⟨d, e, b, hd, he, hb, q⟩ := h
    have hb : evEq d e = .ok b := hb
    rcases evEq_cases d e with ⟨u, v, rfl, rfl, z⟩ | ⟨a, b', rfl, rfl, z⟩ | z
    · rw [z] at hb
      cases hb
      rw [is_str hd, is_str he]
      exact .inl ⟨rfl, by rw [dec_strs]; exact q⟩
    · rw [z] at hb
      by_cases c : dSame a b' = true
      · rw [if_pos c] at hb
        cases hb
        obtain ⟨p1, p2, ks, rfl, rfl, e1, e2, e3, e4⟩ := dict_same (X := X) c hd he
        exact .inr (.inl ⟨p1, p2, ks, ks, rfl, rfl, e1, e2, e3, e4, q⟩)
      · rw [if_neg c] at hb
        cases hb
    · rw [z] at hb
      obtain ⟨h1, h2⟩ := gB_ok hb
      obtain ⟨s1, s2⟩ := both_ok h1
      exact .inr (.inr ⟨d, e, hd.dp (SeqAt.canLay_of_shaped s1), he.dp (SeqAt.canLay_of_shaped s2), s1, s2, by rw [h2]; exact q⟩)
  | ne =>
    refine OpR.imp (OpR.or op_ne (OpR.or (op_ne_dictA (by omega)) (op_neD hu))) fun x y H Q h => ?_
    obtain ⟨d, e, b, hd, he, hb, q⟩ := h
    have hb : evNe d e = .ok b := hb
    rcases evNe_cases d e with ⟨u, v, rfl, rfl, z⟩ | ⟨a, b', rfl, rfl, z⟩ | z
    · rw [z] at hb
      cases hb
      rw [is_str hd, is_str he]
      exact .inl ⟨rfl, by rw [dec_strs]; exact q⟩
    · rw [z] at hb
      by_cases c : dSame a b' = true
      · rw [if_pos c] at hb
        cases hb
        obtain ⟨p1, p2, ks, rfl, rfl, e1, e2, e3, e4⟩ := dict_same (X := X) c hd he
        exact .inr (.inl ⟨p1, p2, ks, ks, rfl, rfl, e1, e2, e3, e4, q⟩)
      · rw [if_neg c] at hb
        cases hb
    · rw [z] at hb
      obtain ⟨h1, h2⟩ := gB_ok hb
      obtain ⟨s1, s2⟩ := both_ok h1
      exact .inr (.inr ⟨d, e, hd.dp (SeqAt.canLay_of_shaped s1), he.dp (SeqAt.canLay_of_shaped s2), s1, s2, by rw [h2]; exact q⟩)
  | lt =>
    refine OpR.imp op_lt fun x y H Q h => ?_
    obtain ⟨d, e, b, hd, he, hb, q⟩ := h
    cases d with
    | int i =>
      cases e with
      | int j => cases hb; exact ⟨i, j, is_int hd, is_int he, q⟩
      | _ => cases hb
    | _ => cases hb
  | le =>
    refine OpR.imp op_le fun x y H Q h => ?_
    obtain ⟨d, e, b, hd, he, hb, q⟩ := h
    cases d with
    | int i =>
      cases e with
      | int j => cases hb; exact ⟨i, j, is_int hd, is_int he, q⟩
      | _ => cases hb
    | _ => cases hb
  | gt =>
    refine OpR.imp op_gt fun x y H Q h => ?_
    obtain ⟨d, e, b, hd, he, hb, q⟩ := h
    cases d with
    | int i =>
      cases e with
      | int j => cases hb; exact ⟨i, j, is_int hd, is_int he, q⟩
      | _ => cases hb
    | _ => cases hb
  | ge =>
    refine OpR.imp op_ge fun x y H Q h => ?_
    obtain ⟨d, e, b, hd, he, hb, q⟩ := h
    cases d with
    | int i =>
      cases e with
      | int j => cases hb; exact ⟨i, j, is_int hd, is_int he, q⟩
      | _ => cases hb
    | _ => cases hb
  | is =>
    refine OpR.imp (OpR.or op_isN op_isBl) fun x y H Q h => ?_
    obtain ⟨d, e, b, hd, he, hb, q⟩ := h
    have hb' : (e = .none ∧ b = isNone d) ∨ ∃ u v, d = .bool u ∧ e = .bool v ∧ b = decide (u = v) := by
      cases e <;> first | (cases hb; exact .inl ⟨rfl, rfl⟩) | (cases d <;> first | (cases hb; done) | (cases hb; exact .inr ⟨_, _, rfl, rfl, rfl⟩))
    rcases hb' with ⟨rfl, rfl⟩ | ⟨u, v, rfl, rfl, rfl⟩
    · exact .inl ⟨is_none he, by rw [isNone_dec hd]; exact q⟩
    · exact .inr ⟨u, v, is_bool hd, is_bool he, q⟩
  | isn =>
    refine OpR.imp (OpR.or op_notN op_notBl) fun x y H Q h => ?_
    obtain ⟨d, e, b, hd, he, hb, q⟩ := h
    have hb' : (e = .none ∧ b = !isNone d) ∨ ∃ u v, d = .bool u ∧ e = .bool v ∧ b = !decide (u = v) := by
      cases e <;> first | (cases hb; exact .inl ⟨rfl, rfl⟩) | (cases d <;> first | (cases hb; done) | (cases hb; exact .inr ⟨_, _, rfl, rfl, rfl⟩))
    rcases hb' with ⟨rfl, rfl⟩ | ⟨u, v, rfl, rfl, rfl⟩
    · exact .inl ⟨is_none he, by rw [isNone_dec hd]; exact q⟩
    · exact .inr ⟨u, v, is_bool hd, is_bool he, q⟩
  | inn =>
    refine OpR.imp (op_inD hu2) fun x y H Q h => ?_
    obtain ⟨d, e, b, hd, he, hb, q⟩ := h
    cases e with
    | list xs =>
      obtain ⟨h1, h2⟩ := gB_ok (show gB (both d (.list xs)) (xs.any fun z => PyData.eqv z d) = .ok b by cases d <;> exact hb)
      obtain ⟨s1, s2⟩ := both_ok h1
      exact ⟨d, xs, hd.dp (SeqAt.canLay_of_shaped s1), he.dp (SeqAt.canLay_of_shaped s2), s1, s2, by rw [h2]; exact q⟩
    | _ => cases d <;> cases hb
  | nin =>
    refine OpR.imp (op_notInD hu2) fun x y H Q h => ?_
    obtain ⟨d, e, b, hd, he, hb, q⟩ := h
    cases e with
    | list xs =>
      obtain ⟨h1, h2⟩ := gB_ok (show gB (both d (.list xs)) (!xs.any fun z => PyData.eqv z d) = .ok b by cases d <;> exact hb)
      obtain ⟨s1, s2⟩ := both_ok h1
      exact ⟨d, xs, hd.dp (SeqAt.canLay_of_shaped s1), he.dp (SeqAt.canLay_of_shaped s2), s1, s2, by rw [h2]; exact q⟩
    | _ => cases d <;> cases hb
theorem atI_isL {H : Hp} {ds : List D} {vs : List V} {i : Int} {d : D} (h : IsL K H ds vs) (e : atI ds i = some d) : ∃ v, atI vs i = some v ∧ Is K H d v := by
  unfold atI at e ⊢
  rw [h.len]
  cases q : ixN ds.length i with
  | none => rw [q] at e; cases e
  | some j =>
    rw [q] at e
    exact h.get (show ds[j]? = some d from e)
theorem ix_D : IxR X (rIxD X.K) := by
  refine IxR.imp ix_seq fun x y H Q h => ?_
  obtain ⟨F, ⟨t, a⟩, d, sm, ra, rb, g⟩ := h
  cases d with
  | int i =>
    cases a with
    | list xs =>
      obtain ⟨l, vs, rfl, h1, h2⟩ := ra.list sm
      cases q : atI xs i with
      | none =>
        simp only [evIx, q] at g
        exact g.elim
      | some d =>
        simp only [evIx, q] at g
        obtain ⟨v, e1, e2⟩ := atI_isL h2 q
        exact .inl ⟨l, vs, i, v, rfl, is_int rb, h1.seq, e1, g v F H (Ext.refl sm) (Res.nt (x := (t.kid, d)) (of_kid e2) sm)⟩
    | tuple xs =>
      obtain ⟨l, vs, rfl, h1, h2⟩ := ra.tuple sm
      cases q : atI xs i with
      | none =>
        simp only [evIx, q] at g
        exact g.elim
      | some d =>
        simp only [evIx, q] at g
        obtain ⟨v, e1, e2⟩ := atI_isL h2 q
        exact .inr (.inl ⟨l, vs, i, v, rfl, is_int rb, h1, e1, g v F H (Ext.refl sm) (Res.nt (x := (t.kid, d)) (of_kid e2) sm)⟩)
    | str z =>
      obtain ⟨g1, g2⟩ := g.guard
      cases q : atI z.cps.toList i with
      | none =>
        simp only [q] at g2
        exact g2.elim
      | some c =>
        simp only [q] at g2
        exact .inr (.inr ⟨z, i, c, ra.str sm, is_int rb, Nat.le_trans (of_decide_eq_true g1) lim_le, q, g2.of sm str_is⟩)
    | _ => exact g.elim
  | _ => cases a <;> exact g.elim
/-- a new tuple of such items -/
theorem new_tup {F H : Hp} {t : Tag} {ds : List D} {vs : List V} {Q : VK} (ht : t = .sh ∨ t = .pk) (s : Same F H) (h : IsL K (hp t F H) ds vs) (g : Give K F H (.ok (t, .tuple ds)) Q) :
    ∀ p, H p = none → Q (.ref p) (upd H p (.tup vs)) := fun p np => by
  rcases ht with rfl | rfl
  · refine g (.ref p) (upd F p (.tup vs)) _ (Ext.new s np) ?_
    show Is K (upd F p (.tup vs)) (.tuple ds) (.ref p)
    simp only [Is]
    exact ⟨p, vs, rfl, SqT.of upd_same, h.mono (same_upd (s.free np))⟩
  · refine g (.ref p) F _ (Ext.new0 s np) ?_
    show Is K (upd H p (.tup vs)) (.tuple ds) (.ref p)
    simp only [Is]
    exact ⟨p, vs, rfl, SqT.of upd_same, h.mono (same_upd np)⟩
theorem sl_D : SlR X (rSlD X.K) := by
  refine SlR.imp (SlR.or (SlR.or sl_list sl_str) sl_tupA) fun x lo hi H Q h => ?_
  obtain ⟨F, ⟨t, a⟩, sm, ra, g⟩ := h
  cases a with
  | list xs =>
    obtain ⟨l, vs, rfl, h1, h2⟩ := ra.list sm
    exact .inl (.inl ⟨l, vs, rfl, h1.seq, new_list (kid_cases t) sm (h2.cut lo hi) g⟩)
  | str z =>
    obtain ⟨c, g⟩ := g.guard
    have := of_decide_eq_true c
    exact .inl (.inr ⟨z, ra.str sm, Nat.le_trans this lim_le, g.of sm str_is⟩)
  | tuple xs =>
    obtain ⟨l, vs, rfl, h1, h2⟩ := ra.tuple sm
    refine .inr ⟨l, vs, rfl, h1, fun w => ?_, fun _ => new_tup (kid_cases t) sm (h2.cut lo hi) g⟩
    have hl := h2.len
    have e : cutD xs lo hi = xs := by
      unfold cutD
      rw [← hl, w.1, w.2, Nat.sub_zero, List.drop_zero, List.take_of_length_le (by omega)]
    have g : Give X.K F H (.ok (t.kid, .tuple (cutD xs lo hi))) Q := g
    rw [e] at g
    refine g (.ref l) F H (Ext.refl sm) ?_
    exact of_kid (by
      cases t with
      | sh => exact (by simpa only [Res] using ra : Is X.K F (.tuple xs) (.ref l))
      | pk => exact (by simpa only [Res] using ra : Is X.K H (.tuple xs) (.ref l))
      | tr =>
        show Is X.K H (.tuple xs) (.ref l)
        simp only [Is]
        exact ⟨l, vs, rfl, h1, h2⟩
      | rt => obtain ⟨p, _, z⟩ := ra; exact z.elim
      | ow => obtain ⟨p, _, _, z⟩ := ra; exact z.elim)
  | _ => exact g.elim
theorem strL_is {H : Hp} : ∀ {xs : List D} {ys : List Str} {vs : List V}, strL xs = some ys → IsL X.K H xs vs → vs = ys.map V.str
  | [], ys, vs, e, h => by
    cases e
    simpa only [IsL, List.map_nil] using h
  | .str z :: r, ys, vs, e, h => by
    unfold strL at e
    cases q : strL r with
    | none => rw [q] at e; cases e
    | some zs =>
      rw [q] at e
      cases e
      simp only [IsL, Is] at h
      obtain ⟨v, w, rfl, rfl, t⟩ := h
      rw [strL_is q t, List.map_cons]
  | .none :: _, _, _, e, _ => by cases e
  | .bool _ :: _, _, _, e, _ => by cases e
  | .int _ :: _, _, _, e, _ => by cases e
  | .list _ :: _, _, _, e, _ => by cases e
  | .tuple _ :: _, _, _, e, _ => by cases e
  | .dict _ :: _, _, _, e, _ => by cases e
theorem isK_val {H : Hp} {k : Key} : ∀ {kvs : List (D × D)} {es : List (Key × V)} {d : D}, IsK K H kvs es → dGetK kvs k = some d → ∃ v, valV es k = some v ∧ Is K H d v
  | [], es, d, h, e => by cases e
  | (kd, c) :: r, es, d, h, e => by
    simp only [IsK] at h
    obtain ⟨kk, v, es', rfl, rfl, hv, t⟩ := h
    unfold dGetK at e
    rw [List.find?_cons] at e
    show ∃ u, Option.map (·.2) (List.find? _ ((kk, v) :: es')) = some u ∧ _
    rw [List.find?_cons]
    rw [dkey_of] at e
    by_cases c : kk = k
    · subst c
      rw [decide_eq_true rfl] at e
      cases e
      exact ⟨v, by simp, hv⟩
    · rw [decide_eq_false (fun z => c (by cases z; rfl))] at e
      obtain ⟨u, h1, h2⟩ := isK_val t (show dGetK r k = some d from e)
      refine ⟨u, ?_, h2⟩
      rw [decide_eq_false c]
      exact h1
theorem isK_any {H : Hp} {k : Key} : ∀ {kvs : List (D × D)} {es : List (Key × V)}, IsK K H kvs es → (kvs.any fun kv => decide (dkey kv.1 = some k)) = es.any fun kv => decide (kv.1 = k)
  | [], es, h => by
    simp only [IsK] at h
    subst h
    rfl
  | (kd, c) :: r, es, h => by
    simp only [IsK] at h
    obtain ⟨kk, v, es', rfl, rfl, hv, t⟩ := h
    rw [List.any_cons, List.any_cons, isK_any t, dkey_of]
    congr 1
    by_cases c : kk = k
    · subst c; simp
    · rw [decide_eq_false c, decide_eq_false fun z => c (by cases z; rfl)]
theorem isK_map {H : Hp} {k : Key} {d : D} {u : V} (hd : Is K H d u) : ∀ {kvs : List (D × D)} {es : List (Key × V)}, IsK K H kvs es → IsK K H (kvs.map fun kv => if dkey kv.1 = some k then (kv.1, d) else kv) (es.map fun kv => if kv.1 = k then (kv.1, u) else kv)
  | [], es, h => by
    simp only [IsK] at h
    subst h
    simp only [List.map_nil, IsK]
  | (kd, c) :: r, es, h => by
    simp only [IsK] at h
    obtain ⟨kk, v, es', rfl, rfl, hv, t⟩ := h
    rw [List.map_cons, List.map_cons, dkey_of]
    simp only [IsK]
    by_cases c : kk = k
    · subst c
      rw [if_pos rfl, if_pos rfl]
      exact ⟨kk, u, _, rfl, rfl, hd, isK_map hd t⟩
    · rw [if_neg c, if_neg fun z => c (by cases z; rfl)]
      exact ⟨kk, v, _, rfl, rfl, hv, isK_map hd t⟩
theorem isK_app {H : Hp} {k : Key} {d : D} {u : V} (hd : Is K H d u) : ∀ {kvs : List (D × D)} {es : List (Key × V)}, IsK K H kvs es → IsK K H (kvs ++ [(dKey k, d)]) (es ++ [(k, u)])
  | [], es, h => by
    simp only [IsK] at h
    subst h
    simp only [List.nil_append, IsK]
    exact ⟨k, u, [], rfl, by cases k <;> rfl, hd, rfl⟩
  | (kd, c) :: r, es, h => by
    simp only [IsK] at h
    obtain ⟨kk, v, es', rfl, rfl, hv, t⟩ := h
    simp only [List.cons_append, IsK]
    exact ⟨kk, v, _, rfl, rfl, hv, isK_app hd t⟩
theorem isK_put {H : Hp} {k : Key} {d : D} {u : V} {kvs : List (D × D)} {es : List (Key × V)} (h : IsK K H kvs es) (hd : Is K H d u) : IsK K H (dPutK kvs k d) (putK es k u) := by
  unfold dPutK putK
  rw [isK_any h]
  split
  · exact isK_map hd h
  · exact isK_app hd h
theorem isK_len {H : Hp} : ∀ {kvs : List (D × D)} {es : List (Key × V)}, IsK K H kvs es → es.length = kvs.length
  | [], es, h => by
    simp only [IsK] at h
    subst h
    rfl
  | (kd, c) :: r, es, h => by
    simp only [IsK] at h
    obtain ⟨kk, v, es', rfl, rfl, hv, t⟩ := h
    rw [List.length_cons, List.length_cons, isK_len t]
theorem key_is {H : Hp} {d : D} {k : Key} {v : V} (h : Is K H d v) (e : dkey d = some k) : v = kV k := by
  cases d with
  | int i => cases e; exact is_int h
  | str s => cases e; exact is_str h
  | _ => cases e
theorem res_dict {H1 F H : Hp} {t : Tag} {kvs : List (D × D)} {v : V} (h : Res K H1 F H v (t, .dict kvs)) (s : Same F H) : ∃ a es, v = .ref a ∧ H a = some (.dK es) ∧ IsK K (hp t.kid F H) kvs es := by
  cases t with
  | sh =>
    have h : Is K F (.dict kvs) v := h
    simp only [Is] at h
    obtain ⟨a, es, h1, h2, h3⟩ := h
    exact ⟨a, es, h1, s _ _ h2, h3⟩
  | pk =>
    have h : Is K H (.dict kvs) v := h
    simp only [Is] at h
    exact h
  | rt =>
    obtain ⟨p, h1, _, es, h2, h3⟩ := h
    exact ⟨p, es, h1, h2, h3⟩
  | ow =>
    obtain ⟨p, h1, _, _, es, h2, h3⟩ := h
    exact ⟨p, es, h1, h2, h3⟩
  | tr =>
    obtain ⟨fp, _, q⟩ := h
    simp only [Own] at q
    obtain ⟨p, es, fq, rfl, rfl, h1, h2, h3, h4⟩ := q
    exact ⟨p, es, rfl, h3, h4.is fun _ _ => rfl⟩
end
end PV

/-! PvBi: the built-in functions of the language. -/
namespace PV
open PySem PySem.Spec PyProof.Rows L2

def ResL (K : PySem.W.Frag) (H F' H' : Hp) : List V → List TD → Prop
  | vs, [] => vs = []
  | vs, x :: r => ∃ v ws, vs = v :: ws ∧ Res K H F' H' v x ∧ ResL K H F' H' ws r
def rBi (K : PySem.W.Frag) (b : Bi) : List V → Hp → VK → Prop := fun vs H Q => ∃ F l, Same F H ∧ ResL K H0 F H vs l ∧ Give K F H (evBi b l) Q
section
variable {X : Cx} {K : PySem.W.Frag}
theorem ResL.one {H1 F H : Hp} {vs : List V} {x : TD} (h : ResL K H1 F H vs [x]) : ∃ v, vs = [v] ∧ Res K H1 F H v x := by
  obtain ⟨v, ws, rfl, h1, h2⟩ := h
  have h3 : ws = [] := h2
  subst h3
  exact ⟨v, rfl, h1⟩
theorem ResL.two {H1 F H : Hp} {vs : List V} {x y : TD} (h : ResL K H1 F H vs [x, y]) : ∃ v w, vs = [v, w] ∧ Res K H1 F H v x ∧ Res K H1 F H w y := by
  obtain ⟨v, ws, rfl, h1, h2⟩ := h
  obtain ⟨w, rfl, h3⟩ := h2.one
  exact ⟨v, w, rfl, h1, h3⟩
theorem CallR.orr {f : Value} {r r' : List V → Hp → VK → Prop} (h : CallR X f r) (h' : CallR X f r') : CallR X f (fun xs H Q => r xs H Q ∨ r' xs H Q) := L2.CallR.or h h'
theorem foldl_min_le : ∀ (r : List Int) (n : Int), r.foldl min n ≤ n ∧ (∀ y ∈ r, r.foldl min n ≤ y) ∧ (r.foldl min n = n ∨ r.foldl min n ∈ r)
  | [], n => ⟨Int.le_refl _, by simp, .inl rfl⟩
  | x :: r, n => by
    obtain ⟨h1, h2, h3⟩ := foldl_min_le r (min n x)
    rw [List.foldl_cons]
    refine ⟨by omega, fun y hy => ?_, ?_⟩
    · rcases List.mem_cons.mp hy with rfl | hy
      · omega
      · exact h2 y hy
    · rcases h3 with h3 | h3
      · by_cases c : n ≤ x
        · exact .inl (by omega)
        · exact .inr (by rw [h3, show min n x = x by omega]; exact List.mem_cons_self)
      · exact .inr (List.mem_cons_of_mem _ h3)
theorem foldl_max_le : ∀ (r : List Int) (n : Int), n ≤ r.foldl max n ∧ (∀ y ∈ r, y ≤ r.foldl max n) ∧ (r.foldl max n = n ∨ r.foldl max n ∈ r)
  | [], n => ⟨Int.le_refl _, by simp, .inl rfl⟩
  | x :: r, n => by
    obtain ⟨h1, h2, h3⟩ := foldl_max_le r (max n x)
    rw [List.foldl_cons]
    refine ⟨by omega, fun y hy => ?_, ?_⟩
    · rcases List.mem_cons.mp hy with rfl | hy
      · omega
      · exact h2 y hy
    · rcases h3 with h3 | h3
      · by_cases c : x ≤ n
        · exact .inl (by omega)
        · exact .inr (by rw [h3, show max n x = x by omega]; exact List.mem_cons_self)
      · exact .inr (List.mem_cons_of_mem _ h3)
theorem min_is {n m : Int} {r : List Int} (h1 : m ∈ n :: r) (h2 : ∀ y, y ∈ n :: r → m ≤ y) : m = r.foldl min n := by
  obtain ⟨a, b, c⟩ := foldl_min_le r n
  have e1 : r.foldl min n ≤ m := by
    rcases List.mem_cons.mp h1 with rfl | h
    · exact a
    · exact b m h
  have e2 : m ≤ r.foldl min n := by
    rcases c with c | c
    · rw [c]
      exact h2 n List.mem_cons_self
    · exact h2 _ (List.mem_cons_of_mem _ c)
  omega
theorem max_is {n m : Int} {r : List Int} (h1 : m ∈ n :: r) (h2 : ∀ y, y ∈ n :: r → y ≤ m) : m = r.foldl max n := by
  obtain ⟨a, b, c⟩ := foldl_max_le r n
  have e1 : m ≤ r.foldl max n := by
    rcases List.mem_cons.mp h1 with rfl | h
    · exact a
    · exact b m h
  have e2 : r.foldl max n ≤ m := by
    rcases c with c | c
    · rw [c]
      exact h2 n List.mem_cons_self
    · exact h2 _ (List.mem_cons_of_mem _ c)
  omega
theorem hp_intL {F H : Hp} {t : Tag} {xs : List D} {ns : List Int} {vs : List V} (h : IsL K (hp t F H) xs vs) (e : intL xs = some ns) : vs = ns.map V.int := by
  rw [intL_map e] at h
  exact isL_ints h
theorem hp_boolL {F H : Hp} {t : Tag} {xs : List D} {ns : List Bool} {vs : List V} (h : IsL K (hp t F H) xs vs) (e : boolL xs = some ns) : vs = ns.map V.bl := by
  rw [boolL_map e] at h
  exact isL_bools h

theorem bi_len : CallR X (.builtin "len") (rBi X.K .len) := by
  refine CallR.imp (CallR.orr call_len_seq call_len_str) fun vs H Q h => ?_
  obtain ⟨F, l, sm, hl, g⟩ := h
  match l, hl, g with
  | [(t, .list xs)], hl, g =>
    obtain ⟨v, rfl, r⟩ := hl.one
    obtain ⟨a, ws, rfl, h1, h2⟩ := r.list sm
    exact .inl ⟨a, ws, rfl, .inl h1.seq, by rw [h2.len]; exact g.of sm int_is⟩
  | [(t, .tuple xs)], hl, g =>
    obtain ⟨v, rfl, r⟩ := hl.one
    obtain ⟨a, ws, rfl, h1, h2⟩ := r.tuple sm
    exact .inl ⟨a, ws, rfl, .inr h1, by rw [h2.len]; exact g.of sm int_is⟩
  | [(t, .str z)], hl, g =>
    obtain ⟨v, rfl, r⟩ := hl.one
    obtain ⟨g1, g2⟩ := g.guard
    exact .inr ⟨z, by rw [r.str sm], Nat.le_trans (of_decide_eq_true g1) lim_le, g2.of sm int_is⟩
  | [(_, .none)], _, g => exact g.elim
  | [(_, .bool _)], _, g => exact g.elim
  | [(_, .int _)], _, g => exact g.elim
  | [(_, .dict _)], _, g => exact g.elim
  | [], _, g => exact g.elim
  | (_, a) :: _ :: _, _, g => cases a <;> exact g.elim
theorem bi_abs : CallR X (.builtin "abs") (rBi X.K .abs) := by
  refine CallR.imp call_abs fun vs H Q h => ?_
  obtain ⟨F, l, sm, hl, g⟩ := h
  match l, hl, g with
  | [(t, .int i)], hl, g =>
    obtain ⟨v, rfl, r⟩ := hl.one
    exact ⟨i, by rw [r.int sm], g.of sm int_is⟩
  | [(_, .none)], _, g => exact g.elim
  | [(_, .bool _)], _, g => exact g.elim
  | [(_, .str _)], _, g => exact g.elim
  | [(_, .list _)], _, g => exact g.elim
  | [(_, .tuple _)], _, g => exact g.elim
  | [(_, .dict _)], _, g => exact g.elim
  | [], _, g => exact g.elim
  | (_, a) :: _ :: _, _, g => cases a <;> exact g.elim
theorem bi_min (hc : X.calm = true) : CallR X (.builtin "min") (rBi X.K .min) := by
  refine CallR.imp (CallR.orr (call_min2 hc) (cr_min hc)) fun vs H Q h => ?_
  obtain ⟨F, l, sm, hl, g⟩ := h
  match l, hl, g with
  | [(t, .list xs)], hl, g =>
    obtain ⟨v, rfl, r⟩ := hl.one
    obtain ⟨a, ws, rfl, h1, h2⟩ := r.list sm
    cases q : intL xs with
    | none => simp only [evBi, q] at g; exact g.elim
    | some ns =>
      cases ns with
      | nil => simp only [evBi, q] at g; exact g.elim
      | cons n r =>
        simp only [evBi, q] at g
        have e := hp_intL h2 q
        subst e
        exact .inr ⟨a, n :: r, rfl, h1.seq, by simp, fun m m1 m2 => by rw [min_is m1 m2]; exact g.of sm int_is⟩
  | [(_, .none)], _, g => exact g.elim
  | [(_, .bool _)], _, g => exact g.elim
  | [(_, .str _)], _, g => exact g.elim
  | [(_, .int _)], _, g => exact g.elim
  | [(_, .tuple _)], _, g => exact g.elim
  | [(_, .dict _)], _, g => exact g.elim
  | [], _, g => exact g.elim
  | (_, a) :: (_, b) :: [], hl, g =>
    cases a with
    | int i =>
      cases b with
      | int j =>
        obtain ⟨v, w, rfl, r1, r2⟩ := hl.two
        exact .inl ⟨i, j, by rw [r1.int sm, r2.int sm], g.of sm int_is⟩
      | _ => exact g.elim
    | _ => cases b <;> exact g.elim
  | (_, a) :: (_, b) :: _ :: _, _, g => cases a <;> cases b <;> exact g.elim
theorem bi_max (hc : X.calm = true) : CallR X (.builtin "max") (rBi X.K .max) := by
  refine CallR.imp (CallR.orr (call_max2 hc) (cr_max hc)) fun vs H Q h => ?_
  obtain ⟨F, l, sm, hl, g⟩ := h
  match l, hl, g with
  | [(t, .list xs)], hl, g =>
    obtain ⟨v, rfl, r⟩ := hl.one
    obtain ⟨a, ws, rfl, h1, h2⟩ := r.list sm
    cases q : intL xs with
    | none => simp only [evBi, q] at g; exact g.elim
    | some ns =>
      cases ns with
      | nil => simp only [evBi, q] at g; exact g.elim
      | cons n r =>
        simp only [evBi, q] at g
        have e := hp_intL h2 q
        subst e
        exact .inr ⟨a, n :: r, rfl, h1.seq, by simp, fun m m1 m2 => by rw [max_is m1 m2]; exact g.of sm int_is⟩
  | [(_, .none)], _, g => exact g.elim
  | [(_, .bool _)], _, g => exact g.elim
  | [(_, .str _)], _, g => exact g.elim
  | [(_, .int _)], _, g => exact g.elim
  | [(_, .tuple _)], _, g => exact g.elim
  | [(_, .dict _)], _, g => exact g.elim
  | [], _, g => exact g.elim
  | (_, a) :: (_, b) :: [], hl, g =>
    cases a with
    | int i =>
      cases b with
      | int j =>
        obtain ⟨v, w, rfl, r1, r2⟩ := hl.two
        exact .inl ⟨i, j, by rw [r1.int sm, r2.int sm], g.of sm int_is⟩
      | _ => exact g.elim
    | _ => cases b <;> exact g.elim
  | (_, a) :: (_, b) :: _ :: _, _, g => cases a <;> cases b <;> exact g.elim
theorem bi_int : CallR X (.type "int") (rBi X.K .int) := by
  refine CallR.imp call_int1 fun vs H Q h => ?_
  obtain ⟨F, l, sm, hl, g⟩ := h
  match l, hl, g with
  | [(t, .int i)], hl, g =>
    obtain ⟨v, rfl, r⟩ := hl.one
    exact .inl ⟨i, by rw [r.int sm], g.of sm int_is⟩
  | [(_, .bool b)], hl, g =>
    obtain ⟨v, rfl, r⟩ := hl.one
    exact .inr ⟨b, by rw [is_bool (r.is sm)], g.of sm int_is⟩
  | [(_, .none)], _, g => exact g.elim
  | [(_, .str _)], _, g => exact g.elim
  | [(_, .list _)], _, g => exact g.elim
  | [(_, .tuple _)], _, g => exact g.elim
  | [(_, .dict _)], _, g => exact g.elim
  | [], _, g => exact g.elim
  | (_, a) :: _ :: _, _, g => cases a <;> exact g.elim
theorem bi_list : CallR X (.type "list") (rBi X.K .list) := by
  refine CallR.imp call_list_of fun vs H Q h => ?_
  obtain ⟨F, l, sm, hl, g⟩ := h
  match l, hl, g with
  | [(t, .list xs)], hl, g =>
    obtain ⟨v, rfl, r⟩ := hl.one
    obtain ⟨a, ws, rfl, h1, h2⟩ := r.list sm
    exact ⟨a, ws, rfl, .inl h1.seq, new_list (kid_cases t) sm h2 g⟩
  | [(t, .tuple xs)], hl, g =>
    obtain ⟨v, rfl, r⟩ := hl.one
    obtain ⟨a, ws, rfl, h1, h2⟩ := r.tuple sm
    exact ⟨a, ws, rfl, .inr h1, new_list (kid_cases t) sm h2 g⟩
  | [(_, .none)], _, g => exact g.elim
  | [(_, .bool _)], _, g => exact g.elim
  | [(_, .str _)], _, g => exact g.elim
  | [(_, .int _)], _, g => exact g.elim
  | [(_, .dict _)], _, g => exact g.elim
  | [], _, g => exact g.elim
  | (_, a) :: _ :: _, _, g => cases a <;> exact g.elim
theorem bi_tuple : CallR X (.type "tuple") (rBi X.K .tuple) := by
  refine CallR.imp call_tuple_of fun vs H Q h => ?_
  obtain ⟨F, l, sm, hl, g⟩ := h
  match l, hl, g with
  | [(t, .list xs)], hl, g =>
    obtain ⟨v, rfl, r⟩ := hl.one
    obtain ⟨a, ws, rfl, h1, h2⟩ := r.list sm
    exact ⟨a, ws, rfl, .inl ⟨h1.seq, new_tup (kid_cases t) sm h2 g⟩⟩
  | [(_, .none)], _, g => exact g.elim
  | [(_, .bool _)], _, g => exact g.elim
  | [(_, .str _)], _, g => exact g.elim
  | [(_, .int _)], _, g => exact g.elim
  | [(_, .tuple _)], _, g => exact g.elim
  | [(_, .dict _)], _, g => exact g.elim
  | [], _, g => exact g.elim
  | (_, a) :: _ :: _, _, g => cases a <;> exact g.elim
theorem bi_sum (hc : X.calm = true) : CallR X (.builtin "sum") (rBi X.K .sum) := by
  refine CallR.imp (cr_sum hc) fun vs H Q h => ?_
  obtain ⟨F, l, sm, hl, g⟩ := h
  match l, hl, g with
  | [(t, .list xs)], hl, g =>
    obtain ⟨v, rfl, r⟩ := hl.one
    obtain ⟨a, ws, rfl, h1, h2⟩ := r.list sm
    cases q : intL xs with
    | none => simp only [evBi, q] at g; exact g.elim
    | some ns =>
      simp only [evBi, q] at g
      have e := hp_intL h2 q
      subst e
      exact ⟨a, ns, rfl, h1.seq, g.of sm int_is⟩
  | [(_, .none)], _, g => exact g.elim
  | [(_, .bool _)], _, g => exact g.elim
  | [(_, .str _)], _, g => exact g.elim
  | [(_, .int _)], _, g => exact g.elim
  | [(_, .tuple _)], _, g => exact g.elim
  | [(_, .dict _)], _, g => exact g.elim
  | [], _, g => exact g.elim
  | (_, a) :: _ :: _, _, g => cases a <;> exact g.elim
theorem bi_any (hc : X.calm = true) : CallR X (.builtin "any") (rBi X.K .any) := by
  refine CallR.imp (cr_any hc) fun vs H Q h => ?_
  obtain ⟨F, l, sm, hl, g⟩ := h
  match l, hl, g with
  | [(t, .list xs)], hl, g =>
    obtain ⟨v, rfl, r⟩ := hl.one
    obtain ⟨a, ws, rfl, h1, h2⟩ := r.list sm
    cases q : boolL xs with
    | none => simp only [evBi, q] at g; exact g.elim
    | some ns =>
      simp only [evBi, q] at g
      have e := hp_boolL h2 q
      subst e
      exact ⟨a, ns, rfl, h1.seq, g.of sm bool_is⟩
  | [(_, .none)], _, g => exact g.elim
  | [(_, .bool _)], _, g => exact g.elim
  | [(_, .str _)], _, g => exact g.elim
  | [(_, .int _)], _, g => exact g.elim
  | [(_, .tuple _)], _, g => exact g.elim
  | [(_, .dict _)], _, g => exact g.elim
  | [], _, g => exact g.elim
  | (_, a) :: _ :: _, _, g => cases a <;> exact g.elim
theorem bi_all (hc : X.calm = true) : CallR X (.builtin "all") (rBi X.K .all) := by
  refine CallR.imp (cr_all hc) fun vs H Q h => ?_
  obtain ⟨F, l, sm, hl, g⟩ := h
  match l, hl, g with
  | [(t, .list xs)], hl, g =>
    obtain ⟨v, rfl, r⟩ := hl.one
    obtain ⟨a, ws, rfl, h1, h2⟩ := r.list sm
    cases q : boolL xs with
    | none => simp only [evBi, q] at g; exact g.elim
    | some ns =>
      simp only [evBi, q] at g
      have e := hp_boolL h2 q
      subst e
      exact ⟨a, ns, rfl, h1.seq, g.of sm bool_is⟩
  | [(_, .none)], _, g => exact g.elim
  | [(_, .bool _)], _, g => exact g.elim
  | [(_, .str _)], _, g => exact g.elim
  | [(_, .int _)], _, g => exact g.elim
  | [(_, .tuple _)], _, g => exact g.elim
  | [(_, .dict _)], _, g => exact g.elim
  | [], _, g => exact g.elim
  | (_, a) :: _ :: _, _, g => cases a <;> exact g.elim
theorem bi_str : CallR X (.type "str") (rBi X.K .str) := by
  refine CallR.imp call_str_int fun vs H Q h => ?_
  obtain ⟨F, l, sm, hl, g⟩ := h
  match l, hl, g with
  | [(t, .int i)], hl, g =>
    obtain ⟨v, rfl, r⟩ := hl.one
    obtain ⟨g1, g2⟩ := g.guard
    exact ⟨i, by rw [r.int sm], of_decide_eq_true g1, g2.of sm str_is⟩
  | [(_, .none)], _, g => exact g.elim
  | [(_, .bool _)], _, g => exact g.elim
  | [(_, .str _)], _, g => exact g.elim
  | [(_, .list _)], _, g => exact g.elim
  | [(_, .tuple _)], _, g => exact g.elim
  | [(_, .dict _)], _, g => exact g.elim
  | [], _, g => exact g.elim
  | (_, a) :: _ :: _, _, g => cases a <;> exact g.elim

/-! ### repr of data -/
theorem bi_repr (hu : X.A.units + 190 < cLine) (hg : X.A.guards = some []) : CallR X (.builtin "repr") (rBi X.K .repr) := by
  intro pins s σ H vs us Q I rv h
  obtain ⟨F, l, sm, hl, g⟩ := h
  have go : ∀ (t : Tag) (d : D), (∃ xs, d = .list xs ∨ d = .tuple xs) → ResL X.K H0 F H vs [(t, d)] → Give X.K F H (guard (reprOk d) (ok1 (.str d.shown))) Q → wpAny (model X.prog X.w) X.A (PySem.call (.builtin "repr") us) (EP X pins σ Q) X.xe s := by
    intro t d hd hl g
    obtain ⟨v, rfl, r⟩ := hl.one
    obtain ⟨g1, g2⟩ := g.guard
    simp only [reprOk, Bool.and_eq_true, decide_eq_true_eq] at g1
    obtain ⟨⟨⟨c1, c2⟩, c3⟩, c4⟩ := g1
    obtain ⟨u, rfl, ru⟩ := Vals.one rv
    have hi := r.is sm
    obtain ⟨as, hR⟩ := Dp.reads I d v u (hi.dp c2) ru
    obtain ⟨a, rfl⟩ : ∃ a, v = .ref a := by
      obtain ⟨xs, e | e⟩ := hd
      · subst e
        obtain ⟨a, ws, e, _⟩ := (by simpa only [Is] using hi : ∃ a vs, v = .ref a ∧ _)
        exact ⟨a, e⟩
      · subst e
        obtain ⟨a, ws, e, _⟩ := (by simpa only [Is] using hi : ∃ a vs, v = .ref a ∧ _)
        exact ⟨a, e⟩
    have ru' : u = Value.ref a := ru
    subst ru'
    refine repr_of_reads' hR c1 (PyData.noDict_hsm (PyData.hasDict_of_canLay d c2)) hg (by omega) (fun _ _ e => e) (fun h' u tk hk => ?_) (Nat.le_trans c3 lim_le)
    exact ⟨.str d.shown, H, I.kept (t' := tk) hk, ⟨_, rfl⟩, g2.of sm str_is⟩
  match l, hl, g with
  | [(t, .list xs)], hl, g => exact go t _ ⟨xs, .inl rfl⟩ hl g
  | [(t, .tuple xs)], hl, g => exact go t _ ⟨xs, .inr rfl⟩ hl g
  | [(_, .none)], _, g => exact g.elim
  | [(_, .bool _)], _, g => exact g.elim
  | [(_, .str _)], _, g => exact g.elim
  | [(_, .int _)], _, g => exact g.elim
  | [(_, .dict _)], _, g => exact g.elim
  | [], _, g => exact g.elim
  | (_, a) :: _ :: _, _, g => cases a <;> exact g.elim

/-! ### sorted of data -/
theorem isL_zip {H : Hp} : ∀ {ds : List D} {vs : List V}, IsL K H ds vs → ∀ p ∈ vs.zip ds, Is K H p.2 p.1
  | [], _, h, p, hp => by
    simp only [IsL] at h
    subst h
    simp at hp
  | d :: ds, _, h, p, hp => by
    simp only [IsL] at h
    obtain ⟨v, r, rfl, q, u⟩ := h
    rw [List.zip_cons_cons] at hp
    rcases List.mem_cons.mp hp with rfl | hp
    · exact q
    · exact isL_zip u p hp
theorem isL_of {H : Hp} : ∀ {l : List (V × D)}, (∀ p ∈ l, Is K H p.2 p.1) → IsL K H (l.map (·.2)) (l.map (·.1))
  | [], _ => .nil
  | p :: l, h => .cons (h p List.mem_cons_self) (isL_of fun q hq => h q (List.mem_cons_of_mem _ hq))
theorem each_of {its : List Value} {P : Value → V × D → Prop} : ∀ {vs : List V} {ds : List D}, Vals vs its → vs.length = ds.length → (∀ v u d, RelV v u → (v, d) ∈ vs.zip ds → P u (v, d)) → PySem.W.EachIs P its (vs.zip ds) := by
  induction its with
  | nil =>
    intro vs ds r hl hP
    cases r
    exact .nil
  | cons u us ih =>
    intro vs ds r hl hP
    cases r with
    | cons r1 r2 =>
      rename_i v vs
      cases ds with
      | nil => simp at hl
      | cons d ds =>
        rw [List.zip_cons_cons]
        refine .cons (hP v u d r1 (by simp)) (ih r2 (by simpa using hl) fun v u d a b => hP v u d a (by rw [List.zip_cons_cons]; exact List.mem_cons_of_mem _ b))
theorem zip_snd {α β : Type} : ∀ {xs : List α} {ys : List β}, xs.length = ys.length → (xs.zip ys).map (·.2) = ys
  | [], [], _ => rfl
  | [], _ :: _, h => by simp at h
  | _ :: _, [], h => by simp at h
  | x :: xs, y :: ys, h => by
    rw [List.zip_cons_cons, List.map_cons, zip_snd (by simpa using h)]
theorem vals_each : ∀ {out : List Value} {l : List (V × D)}, PySem.W.EachIs (fun u p => RelV p.1 u) out l → Vals (l.map (·.1)) out
  | _, _, .nil => .nil
  | _, _, .cons h t => .cons h (vals_each t)
theorem sortOk_of {xs : List D} (h : sortOk xs = true) : PySem.W.AllAlike xs ∧ PySem.W.Sortable xs ∧ ∀ d ∈ xs, d.depth ≤ 60 ∧ d.canLay0 = true := by
  simp only [sortOk, Bool.and_eq_true, Bool.or_eq_true, List.all_eq_true, decide_eq_true_eq] at h
  obtain ⟨⟨h1, h2⟩, h3⟩ := h
  refine ⟨fun d hd e he => h1 d hd e he, ?_, h3⟩
  rcases h2 with h2 | h2
  · refine .inl fun d hd => ?_
    have q := h2 d hd
    match d, q with
    | .tuple (x :: r), _ => exact ⟨x, r, rfl⟩
  · refine .inr fun d hd => ?_
    have q := h2 d hd
    constructor
    · rintro rfl
      simp at q
    · rintro xs rfl
      simp at q
theorem bi_sorted {k : Nat} (hr : Room k X.A) : CallR X (.builtin "sorted") (rBi X.K .sorted) := by
  intro pins s σ H vs us Q I rv h
  obtain ⟨F, l, sm, hl, g⟩ := h
  match l, hl, g with
  | [(t, .list xs)], hl, g =>
    obtain ⟨v, rfl, r⟩ := hl.one
    obtain ⟨g1, g2⟩ := g.guard
    obtain ⟨a, ws, rfl, h1, h2⟩ := r.list sm
    obtain ⟨its, rw', pl, hz⟩ := I.list h1.seq
    rw [Vals.ref1 rv]
    obtain ⟨o1, o2, o3⟩ := sortOk_of g1
    have hlen := h2.len
    have hu := hr.un
    have sn := zip_snd (xs := ws) (ys := xs) hlen
    have hlz : (ws.zip xs).length ≤ sizeLine := by
      rw [List.length_zip]
      omega
    -- how each item reads
    have lay : ∀ p ∈ ws.zip xs, ∀ u, RelV p.1 u → ∃ as, Reads s.heap u p.2 as := fun p hp u ru => by
      have hi := isL_zip h2 p hp
      have cl : p.2.canLay0 = true := by
        have hm : p.2 ∈ xs := by
          rw [← sn]
          exact List.mem_map_of_mem hp
        exact (o3 _ hm).2
      exact Dp.reads I p.2 p.1 u ((hi.mono (hp_same sm)).dp cl) ru
    refine PySem.W.sorted_data (bs := ws.zip xs) (enc := fun p : V × D => p.2) (R := fun u p => RelV p.1 u) pl.isList (each_of rw' hlen fun v u d ru _ => ru) (each_of rw' hlen fun v u d ru hm => lay _ hm u ru)
      (by rw [sn]; exact o1) (by rw [sn]; exact o2) hlz (fun b hb => ?_) fun out e1 e2 => ?_
    · have hm : b.2 ∈ xs := by
        rw [← sn]
        exact List.mem_map_of_mem hb
      have := (o3 _ hm).1
      omega
    · obtain ⟨ep, he'⟩ := PyProof.Rows.sortedAll_at s.heap its out.toArray
      have em : ((ws.zip xs).mergeSort (PySem.W.dataLe false fun p : V × D => p.2)).map (·.2) = xs.mergeSort leD := by
        rw [List.map_mergeSort (r := PySem.W.dataLe false fun p : V × D => p.2) (s := leD) (f := fun p : V × D => p.2) (fun _ _ _ _ => rfl), sn]
      have hI : IsL X.K (hp t.kid F H) (xs.mergeSort leD) (((ws.zip xs).mergeSort (PySem.W.dataLe false fun p : V × D => p.2)).map (·.1)) := by
        rw [← em]
        exact isL_of fun p hp => isL_zip h2 p ((List.mergeSort_perm _ _).mem_iff.mp hp)
      have hlen2 : (((ws.zip xs).mergeSort (PySem.W.dataLe false fun p : V × D => p.2)).map (·.1)).length ≤ sizeLine := by
        rw [List.length_map, List.length_mergeSort]
        exact hlz
      exact ⟨.ref _, _, I.laid (a := s.heap.objs.size + 1) (o := .lst (((ws.zip xs).mergeSort (PySem.W.dataLe false fun p : V × D => p.2)).map (·.1))) (t' := s.toks) (fun _ _ => PyProof.Rows.sortedAll_old) (Nat.le_succ _) ⟨hlen2, out, ep, vals_each e2, he'⟩, rfl,
        new_list (kid_cases t) sm hI g2 _ (I.hok.fresh (Nat.le_succ _))⟩
  | [(_, .none)], _, g => exact g.elim
  | [(_, .bool _)], _, g => exact g.elim
  | [(_, .str _)], _, g => exact g.elim
  | [(_, .int _)], _, g => exact g.elim
  | [(_, .tuple _)], _, g => exact g.elim
  | [(_, .dict _)], _, g => exact g.elim
  | [], _, g => exact g.elim
  | (_, a) :: _ :: _, _, g => cases a <;> exact g.elim
end
end PV

/-! PvSnd: what the look finds is what the reckoning says: expressions, tests, sources. -/
namespace PV
open PySem PySem.Spec PyProof.Rows L2

/-! ### a def that keeps a promise while no repr runs around it -/
structure FnG (P : Program) (w : World) (K : PySem.W.Frag) (mg : Str → Option Value) (base : Heap) (k : Nat) (f : Addr) (fd : FuncData) (ps : List Str) (sp : Sp) : Prop where
  len : ∀ vs H Q E, sp vs H Q E → vs.length = ps.length
  run : ∀ (A : Around) (outer : List PySem.Env) (s : Shared) (H : Hp) (args : Args) (us : List Value) (vs : List V) (Q : VK) (E : XK), Room k A → A.guards = some [] →
    Env0 P w K mg base A outer s H → BindsTo s fd args (ps.zip us) → Vals vs us → sp vs H Q E → codeAny (model P w) A (.call (.ref f) args) (CR (L2.CX P w) outer P w H s Q E) s
structure ExcC (K : PySem.W.Frag) (mg : Str → Option Value) (cref : Str → Value) (c : Str) (C : Addr) : Prop where
  mg : mg c = some (.ref C)
  cr : cref c = .ref C
  ex : PySem.W.excIn K C [.type "ValueError", .type "Exception", .type "BaseException", .type "object"] "ValueError.__new__" = true
  kp : PySem.W.keepIn K (.ref C) = true
  sb : PySem.W.subIn K (.ref C) (.type "BaseException") = some true
  ty : PySem.W.typeIn K (.ref C) = some (.type "type")
/-- changed(counts, place, change): a count that is a number is changed in place -/
def spCh : Sp := fun vs H Q _ => ∃ p xs k c j v, vs = [.ref p, .int k, .int c] ∧ H p = some (.lst xs) ∧ ixN xs.length k = some j ∧ xs[j]? = some v ∧ ((v = .non ∧ Q .non H) ∨ ∃ m, v = .int m ∧ Q .non (upd H p (.lst (xs.set j (.int (m + c))))))
/-- what is asked of an error of class c -/
def ErrF (K : PySem.W.Frag) (mg : Str → Option Value) (cref : Str → Value) (cs : List Str) (c : Str) : Prop := ∃ D, cref c = .ref D ∧ L2.ExcC K D ∧ ∀ x, (x ∈ cs ∨ x = "LegionError" ∨ x = "ValueError") →
  ∃ v, PySem.W.kitOne K (.ref D) v = some (subE c x) ∧ (x = "ValueError" → v = .type "ValueError") ∧ (x ≠ "ValueError" → ∃ C, v = .ref C ∧ mg x = some (.ref C)) ∧ (x ∈ cs → x ≠ "ValueError" ∧ PySem.W.exmOne K (.ref D) v = some (subE c x))
/-- the module around: the built-in names that are used, the defs by what they reckon, the exceptions -/
structure GC (P : Program) (w : World) (K : PySem.W.Frag) (mg : Str → Option Value) (base : Heap) (cref : Str → Value) (n : Nat) (G : Gam) (bs cs : List Str) : Prop where
  blt : ∀ x ∈ bs, mg x = none
  fns : ∀ (x : Str) g, bang x = false → G x = some g → ∃ f fd ps, mg x = some (.ref f) ∧ PySem.W.keepIn K (.ref f) = true ∧ Binds K fd ps [] ∧ FnG P w K mg base n f fd ps (spD K cref ps.length g) ∧ ∀ ds, g ds ≠ .stuck → ds.length = ps.length
  kwf : ∀ (x k : Str) g, G (kwn x k) = some g → ∃ f fd ps m, mg x = some (.ref f) ∧ PySem.W.keepIn K (.ref f) = true ∧ KBn K fd ps m [k] (fun us ws => us ++ ws) (fun vs zs => vs ++ zs) ∧ FnG P w K mg base n f fd ps (spD K cref ps.length g) ∧ (∀ ds, g ds ≠ .stuck → ds.length = ps.length) ∧ m + 1 = ps.length
  exs : ∀ c ∈ cs, ∃ C, ExcC K mg cref c C
  chg : ∀ g, G "!changed" = some g → ∃ f fd, mg "changed" = some (.ref f) ∧ PySem.W.keepIn K (.ref f) = true ∧ Binds K fd ["counts", "place", "change"] [] ∧ FnG P w K mg base n f fd ["counts", "place", "change"] spCh
  err : ("!try" : Str) ∈ bs → ∀ c ∈ cs, ErrF K mg cref cs c
  con : ∀ (x : Str) g, G (cgn x) = some g → ∃ d u v, g [] = .ok (.sh, d) ∧ mg x = some u ∧ RelV v u ∧ ∀ H, Is K H d v
  dfl : ∀ (x : Str) g, G (dfn x) = some g → ∃ f fd ps dus dvs dds g0, mg x = some (.ref f) ∧ PySem.W.keepIn K (.ref f) = true ∧ Binds K fd ps dus ∧ Vals dvs dus ∧ (∀ H, IsL K H dds dvs) ∧ FnG P w K mg base n f fd ps (spD K cref ps.length g0) ∧ (∀ ds, g ds = g0 (ds ++ dds)) ∧ ∀ ds, g0 ds ≠ .stuck → ds.length = ps.length
theorem room_s {k : Nat} {A : Around} (r : Room (k + 1) A) (env : PySem.Env) : Room k (A.deeper env) ∧ Room k (A.deeper env).in1.in1 :=
  ⟨r.deeper env, r.hd, by have := r.dp; show A.depth + 1 + 3 * k + 5 < _; omega, by have := r.un; show A.units + 3 + 1 + 1 + 16 * k + 200 < _; omega⟩
def wx (cref : Str → Value) (W : Str → L2.St → Hp → Prop) : WX := fun cls d σ H => d = none ∧ ∃ c, cls = cref c ∧ W c σ H
structure Fit (X : Cx) (W : Str → L2.St → Hp → Prop) (cref : Str → Value) (n : Nat) (G : Gam) (bs cs : List Str) (N : List Str) (sc : Scope) : Prop where
  gc : GC X.prog X.w X.K X.mg X.base cref n G bs cs
  hN : X.N = N
  nd : N.Nodup
  hsc : X.env.scope = sc
  calm : ("range" : Str) ∈ bs → X.calm = true
  un : X.A.units + 65 < cLine
  rm : (∃ f g, G f = some g) ∨ ("sorted" : Str) ∈ bs → Room n X.A ∧ Room n X.A.in1.in1
  rp : ("repr" : Str) ∈ bs → X.A.units + 190 < cLine
  gd : X.A.guards = some []
  tk : Takes X (wx cref W)

/-! ### small facts about the text -/
def noStar : Expr → Bool | .Starred .. => false | _ => true
theorem star_cons {e : Expr} {es : List Expr} {env : PySem.Env} (h : noStar e = true) : starEach (e :: es) env = (false, eval e env) :: starEach es env := by
  cases e <;> first | rfl | cases h
theorem star_any {env : PySem.Env} {pos : Pos} : ∀ {es : List Expr}, es.all noStar = true → (backTo pos (starEach es env)).any (·.1) = false
  | [], _ => rfl
  | e :: es, h => by
    simp only [List.all_cons, Bool.and_eq_true] at h
    rw [star_cons h.1]
    show (false || (backTo pos (starEach es env)).any (·.1)) = false
    rw [star_any h.2]
    rfl
theorem plainIx_of {e : Expr} (h : noSl e = true) : PlainIx e := fun o i => by
  cases e <;> first | rfl | cases h
section
variable {N bs cs : List Str}
theorem chk_noStar {ex : Ex} {sc : Scope} {e : Expr} (h : chkE N bs ex sc e = true) : noStar e = true := by
  cases e <;> first | rfl | (cases ex <;> simp [chkE, frzE, isLC] at h)
theorem chks_noStar : ∀ {es : Exs} {sc : Scope} {xs : List Expr}, chkEs N bs es sc xs = true → xs.all noStar = true
  | .nil, _, [], _ => rfl
  | .nil, _, _ :: _, h => by simp [chkEs] at h
  | .cons _ _, _, [], h => by simp [chkEs] at h
  | .cons e es, sc, x :: xs, h => by
    simp only [chkEs, Bool.and_eq_true] at h
    simp only [List.all_cons, Bool.and_eq_true]
    exact ⟨chk_noStar h.1, chks_noStar h.2⟩
theorem vis_of {sc : Scope} {x : Str} (h : visB sc x = true) : Vis sc x := by
  unfold visB at h
  unfold Vis
  split at h <;> simp_all
theorem gl_of {sc : Scope} {x : Str} (h : glB sc x = true) : sc.names.lookup x = some .globalImplicit := by
  unfold glB at h
  split at h <;> simp_all
theorem nm_of {x : Str} (h : nmB x = true) : (x == ("__debug__" : Str)) = false ∧ (x == ("__classdict__" : Str)) = false := by
  simpa only [nmB, Bool.and_eq_true, Bool.not_eq_true'] using h
theorem noSet_mark {op : CmpOp} {e : Expr} (h : noSet e = true) : behindInMarks op e = false := by
  cases e <;> first | rfl | cases h
theorem chk_noSet {ex : Ex} {sc : Scope} {e : Expr} (h : chkE N bs ex sc e = true) : noSet e = true := by
  cases e <;> first | rfl | (cases ex <;> simp [chkE, frzE, isLC] at h)
end

/-! ### readings -/
section
variable (K : PySem.W.Frag) (W : Str → L2.St → Hp → Prop) (G : Gam)
def tE (ex : Ex) : TE := fun σ H Q => ∃ F env, Rel K F H σ env ∧ Aft F H (fun c H' => W c σ H') (ev G ex env) fun x F' H' => ∀ v, Res K H F' H' v x → Q v H'
def tP (p : Pt) : TO := fun σ H Q => ∃ F env, Rel K F H σ env ∧ Aft F H (fun c H' => W c σ H') (evP G p env) fun x F' H' => Q x H'
def tEs (es : Exs) : TA := fun σ H Q => ∃ F env, Rel K F H σ env ∧ Aft F H (fun c H' => W c σ H') (evs G es env) fun l F' H' => ∀ vs, ResL K H F' H' vs l → Q vs H'
def tT (t : Te) : TT := fun σ H Q => ∃ F env, Rel K F H σ env ∧ Aft F H (fun c H' => W c σ H') (evT G t env) fun b F' H' => Q b H'
def tTA (t : Tes) : TT := fun σ H Q => ∃ F env, Rel K F H σ env ∧ Aft F H (fun c H' => W c σ H') (evTA G t env) fun b F' H' => Q b H'
def tTO (t : Tes) : TT := fun σ H Q => ∃ F env, Rel K F H σ env ∧ Aft F H (fun c H' => W c σ H') (evTO G t env) fun b F' H' => Q b H'
def tAn (es : Exs) : TE := fun σ H Q => ∃ F env, Rel K F H σ env ∧ Aft F H (fun c H' => W c σ H') (evAnd G es env) fun x F' H' => ∀ v, Res K H F' H' v x → Q v H'
def tOn (es : Exs) : TE := fun σ H Q => ∃ F env, Rel K F H σ env ∧ Aft F H (fun c H' => W c σ H') (evOr G es env) fun x F' H' => ∀ v, Res K H F' H' v x → Q v H'
end
/-- an iterator walks the items ds: Po keeps what it walks, Pi bears the items -/
structure ItOk (K : PySem.W.Frag) (Po Pi : Hp) (J : It) (ds : List D) : Prop where
  go : ∀ H1 (i : Nat), Same Po H1 → i < ds.length → J.go i H1
  stop : ∀ H1, Same Po H1 → J.stop ds.length H1
  yld : ∀ F1 H1 (i : Nat) x H2 d, Same Po H1 → Same F1 H1 → ds[i]? = some d → (Same Pi F1 ∨ scal d = true) → J.yld i H1 x H2 → ∃ F2, Ext F1 H1 F2 H2 ∧ Is K F2 d x
def tSrc (K : PySem.W.Frag) (W : Str → L2.St → Hp → Prop) (G : Gam) (src : Src) : TI := fun σ H R' => ∃ F env, Rel K F H σ env ∧ Aft F H (fun c H' => W c σ H') (evSrc G src env) fun s F' H' =>
  ∀ J, ItOk K H' (hp s.1.kid F' H') J s.2 → (s.1.dm = .sh → ∃ F2, Ext F H F2 H' ∧ ItOk K F2 F2 J s.2) → R' J H'
theorem pe_imp {X : Cx} {e : Expr} {t t' : TE} (h : PE X e t) (k : ∀ σ H Q, t' σ H Q → t σ H Q) : PE X e t' := ⟨fun pins s σ H Q I q => h.run pins s σ H Q I (k σ H Q q)⟩
theorem pt_imp {X : Cx} {e : Expr} {t t' : TT} (h : PT X e t) (k : ∀ σ H Q, t' σ H Q → t σ H Q) : PT X e t' := ⟨fun pins s σ H Q I q => h.run pins s σ H Q I (k σ H Q q)⟩
theorem pw_imp {X : Cx} {e : Expr} {t t' : TT} (h : PW X e t) (k : ∀ σ H Q, t' σ H Q → t σ H Q) : PW X e t' := ⟨fun wh pins s σ H Q I q => h.run wh pins s σ H Q I (k σ H Q q)⟩
theorem po_imp {X : Cx} {e : Option Expr} {t t' : TO} (h : PO X e t) (k : ∀ σ H Q, t' σ H Q → t σ H Q) : PO X e t' := ⟨fun pins s σ H Q I q => h.run pins s σ H Q I (k σ H Q q)⟩
theorem pa_imp {X : Cx} {e : List Expr} {t t' : TA} (h : PA X e t) (k : ∀ σ H Q, t' σ H Q → t σ H Q) : PA X e t' := ⟨fun pos pins s σ H Q I q => h.run pos pins s σ H Q I (k σ H Q q)⟩
theorem pi_imp {X : Cx} {tg e : Expr} {t t' : TI} (h : PI X tg e t) (k : ∀ σ H Q, t' σ H Q → t σ H Q) : PI X tg e t' := ⟨fun pins s σ H R I q => h.run pins s σ H R I (k σ H R q)⟩

section
variable {X : Cx} {W : Str → L2.St → Hp → Prop} {cref : Str → Value} {n : Nat} {G : Gam} {bs cs N : List Str} {sc : Scope}
theorem Fit.gl (f : Fit X W cref n G bs cs N sc) {x : Str} (h : glB sc x = true) : Gl X x := by
  show X.env.scope.names.lookup x = _
  rw [f.hsc]
  exact gl_of h
theorem Fit.glN (f : Fit X W cref n G bs cs N sc) {x : Str} (h : glN sc bs x = true) : Gl X x ∧ X.mg x = none := by
  simp only [PV.glN, Bool.and_eq_true, decide_eq_true_eq] at h
  exact ⟨f.gl h.1, f.gc.blt x h.2⟩

/-! ### the call of a def -/
theorem run_g {pins : List (Addr × Obj)} {σ : L2.St} {H : Hp} {s : Shared} {Q : VK} {us : List Value} {vs : List V} {f : Addr} {fd : FuncData} {ps : List Str} {sp : Sp} {E : L2.St → XK} {k : Nat} (F : FnG X.prog X.w X.K X.mg X.base k f fd ps sp) (hr : Room k X.A) (hg : X.A.guards = some [])
    (hb : Binds X.K fd ps []) (hx : PassesAt (L2.CX X.prog X.w) X σ (E σ)) (I : Inv X pins σ H s) (r : Vals vs us) (h : sp vs H Q (E σ)) : wpAny (model X.prog X.w) X.A (PySem.call (.ref f) us) (EP X pins σ Q) X.xe s := by
  have hl : us.length = ps.length := r.length.symm.trans (F.len _ _ _ _ h)
  have b := hb s us I.kIn (by simpa using hl)
  rw [List.append_nil] at b
  have run := F.run X.A X.stack s H ⟨us, []⟩ us vs Q (E σ) hr hg I.env0 b r h
  refine wpAny_call (codeAny_mono run fun res s' q => ?_)
  match res, q with
  | .error e, q => exact hx pins H s e s' I q
  | .ok (.ret u), q => exact I.after q
  | .ok .next, q => exact False.elim q
  | .ok .brk, q => exact False.elim q
  | .ok .cont, q => exact False.elim q
theorem run_gd {pins : List (Addr × Obj)} {σ : L2.St} {H : Hp} {s : Shared} {Q : VK} {us dus : List Value} {vs dvs : List V} {f : Addr} {fd : FuncData} {ps : List Str} {sp : Sp} {E : L2.St → XK} {k : Nat} (F : FnG X.prog X.w X.K X.mg X.base k f fd ps sp) (hr : Room k X.A) (hg : X.A.guards = some [])
    (hb : Binds X.K fd ps dus) (hd : Vals dvs dus) (hx : PassesAt (L2.CX X.prog X.w) X σ (E σ)) (I : Inv X pins σ H s) (r : Vals vs us) (h : sp (vs ++ dvs) H Q (E σ)) : wpAny (model X.prog X.w) X.A (PySem.call (.ref f) us) (EP X pins σ Q) X.xe s := by
  have r2 := r.append hd
  have hl : (us ++ dus).length = ps.length := r2.length.symm.trans (F.len _ _ _ _ h)
  have b := hb s us I.kIn hl
  have run := F.run X.A X.stack s H ⟨us, []⟩ (us ++ dus) (vs ++ dvs) Q (E σ) hr hg I.env0 b r2 h
  refine wpAny_call (codeAny_mono run fun res s' q => ?_)
  match res, q with
  | .error e, q => exact hx pins H s e s' I q
  | .ok (.ret u), q => exact I.after q
  | .ok .next, q => exact False.elim q
  | .ok .brk, q => exact False.elim q
  | .ok .cont, q => exact False.elim q
theorem pe_gd {f : Addr} {fd : FuncData} {ps : List Str} {sp : Sp} {dus : List Value} {dvs : List V} {E : L2.St → XK} {k : Nat} {x : Str} {p pos : Pos} {e : Expr} {es : List Expr} {t : TA} (F : FnG X.prog X.w X.K X.mg X.base k f fd ps sp) (hr : Room k X.A) (hg : X.A.guards = some []) (gx : Gl X x)
    (hm : X.mg x = some (.ref f)) (hk : PySem.W.keepIn X.K (.ref f) = true) (hb : Binds X.K fd ps dus) (hv : Vals dvs dus) (hx : ∀ σ, PassesAt (L2.CX X.prog X.w) X σ (E σ)) (ha : PA X (e :: es) t) (hs : (e :: es).all noStar = true) (hd : (x == ("__debug__" : Str)) = false) :
    PE X (.Call (.Name x p) (e :: es) [] pos) (fun σ H Q => t σ H fun vs H1 => sp (vs ++ dvs) H1 Q (E σ)) := by
  simp only [List.all_cons, Bool.and_eq_true] at hs
  refine ⟨fun pins s σ H Q I h => wpAny_Call_Name_kw (ld_glob I gx hm ?_ hd)⟩
  exact PySem.W.callWith_K (h₀ := X.base) I.ok.mod.kin hk (thn (ha.run pos pins s σ H _ I h) fun us s1 ⟨vs, H1, I1, r, q⟩ => ⟨I1.kIn, run_gd F hr hg hb hv (hx σ) I1 r q⟩) (star_cons hs.1) (star_any hs.2)
theorem pe_g {f : Addr} {fd : FuncData} {ps : List Str} {sp : Sp} {E : L2.St → XK} {k : Nat} {x : Str} {p pos : Pos} {e : Expr} {es : List Expr} {t : TA} (F : FnG X.prog X.w X.K X.mg X.base k f fd ps sp) (hr : Room k X.A) (hg : X.A.guards = some []) (gx : Gl X x)
    (hm : X.mg x = some (.ref f)) (hk : PySem.W.keepIn X.K (.ref f) = true) (hb : Binds X.K fd ps []) (hx : ∀ σ, PassesAt (L2.CX X.prog X.w) X σ (E σ)) (ha : PA X (e :: es) t) (hs : (e :: es).all noStar = true) (hd : (x == ("__debug__" : Str)) = false) :
    PE X (.Call (.Name x p) (e :: es) [] pos) (tCallS sp E t) := by
  simp only [List.all_cons, Bool.and_eq_true] at hs
  refine ⟨fun pins s σ H Q I h => wpAny_Call_Name_kw (ld_glob I gx hm ?_ hd)⟩
  exact PySem.W.callWith_K (h₀ := X.base) I.ok.mod.kin hk (thn (ha.run pos pins s σ H _ I h) fun us s1 ⟨vs, H1, I1, r, q⟩ => ⟨I1.kIn, run_g F hr hg hb (hx σ) I1 r q⟩) (star_cons hs.1) (star_any hs.2)
end

section
variable {X : Cx}
/-- f(.., k = v) -/
def tCallG (sp : Sp) (m : Nat) (E : L2.St → XK) (t tk : TA) : TE := fun σ H Q => t σ H fun vs H1 => tk σ H1 fun zs H2 => vs.length = m ∧ zs.length = 1 ∧ sp (vs ++ zs) H2 Q (E σ)
theorem pe_gk {f : Addr} {fd : FuncData} {ps : List Str} {sp : Sp} {E : L2.St → XK} {lv m : Nat} {x k : Str} {p pos kp : Pos} {e v : Expr} {es : List Expr} {t tk : TA} (F : FnG X.prog X.w X.K X.mg X.base lv f fd ps sp) (hr : Room lv X.A) (hg : X.A.guards = some []) (gx : Gl X x)
    (hm : X.mg x = some (.ref f)) (hk : PySem.W.keepIn X.K (.ref f) = true) (hb : KBn X.K fd ps m [k] (fun us ws => us ++ ws) (fun vs zs => vs ++ zs)) (hx : ∀ σ, PassesAt (L2.CX X.prog X.w) X σ (E σ)) (ha : PA X (e :: es) t) (hs : (e :: es).all noStar = true)
    (hkw : PK X [⟨some k, v, kp⟩] tk) (hd : (x == ("__debug__" : Str)) = false) : PE X (.Call (.Name x p) (e :: es) [⟨some k, v, kp⟩] pos) (tCallG sp m E t tk) := by
  simp only [List.all_cons, Bool.and_eq_true] at hs
  refine ⟨fun pins s σ H Q I h => wpAny_Call_Name_kw (ld_glob I gx hm ?_ hd)⟩
  refine PySem.W.callWith_KW (h₀ := X.base) I.ok.mod.kin hk rfl (thn (ha.run pos pins s σ H _ I h) fun us s1 ⟨vs, H1, I1, r, q⟩ => ?_) (by rw [star_any (es := e :: es) (by simp only [List.all_cons, Bool.and_eq_true]; exact hs)]; rfl) (star_cons hs.1)
  refine thn (hkw.run pos pins s1 σ H1 _ I1 q) fun ws s2 ⟨zs, H2, I2, rz, l1, l2, q2⟩ => ⟨I2.kIn, ?_⟩
  show wpAny _ _ (PySem.call (.ref f) us ([k].zip ws)) _ _ _
  have hw : ws.length = 1 := by rw [← rz.length]; exact l2
  have hu : us.length = m := by rw [← r.length]; exact l1
  have run := F.run X.A X.stack s2 H2 ⟨us, [k].zip ws⟩ (us ++ ws) (vs ++ zs) Q (E σ) hr hg I2.env0 (hb.to s2 us ws I2.kIn hu hw) (hb.rel r rz) q2
  refine wpAny_call (codeAny_mono run fun res s' qq => ?_)
  match res, qq with
  | .error e, qq => exact hx σ pins H2 s2 e s' I2 qq
  | .ok (.ret u), qq => exact I2.after qq
  | .ok .next, qq => exact False.elim qq
  | .ok .brk, qq => exact False.elim qq
  | .ok .cont, qq => exact False.elim qq
end
section
variable {K : PySem.W.Frag}
theorem ResL.snoc {H F1 H1 F2 H2 : Hp} {x : TD} {v : V} : ∀ {l : List TD} {vs : List V}, ResL K H F1 H1 vs l → Ext F1 H1 F2 H2 → Res K H F2 H2 v x → ResL K H F2 H2 (vs ++ [v]) (l ++ [x])
  | [], _, h, _, r => by
    have h' : _ = [] := h
    subst h'
    exact ⟨v, [], rfl, r, rfl⟩
  | y :: l, _, ⟨u, ws, e, h1, h2⟩, z, r => by
    subst e
    exact ⟨u, ws ++ [v], rfl, h1.mono z, ResL.snoc h2 z r⟩
end
/-! ### arguments: new roots frozen -/
section
variable {K : PySem.W.Frag}
theorem ResL.mono {H F' H' F2 H2 : Hp} : ∀ {vs : List V} {l : List TD}, ResL K H F' H' vs l → Ext F' H' F2 H2 → ResL K H F2 H2 vs l
  | _, [], h, _ => h
  | _, x :: l, ⟨v, ws, e, h1, h2⟩, z => ⟨v, ws, e, h1.mono z, ResL.mono h2 z⟩
theorem ResL.back {H H0 F' H' : Hp} (s : Same H0 H) : ∀ {vs : List V} {l : List TD}, ResL K H F' H' vs l → ResL K H0 F' H' vs l
  | _, [], h => h
  | _, x :: l, ⟨v, ws, e, h1, h2⟩ => ⟨v, ws, e, h1.back s, ResL.back s h2⟩
theorem ResL.is {H F' H' : Hp} (s : Same F' H') : ∀ {vs : List V} {l : List TD}, ResL K H F' H' vs l → IsL K H' (l.map (·.2)) vs
  | _, [], h => by
    have h' : _ = [] := h
    subst h'
    exact .nil
  | _, x :: l, ⟨v, ws, e, h1, h2⟩ => by
    subst e
    exact .cons (h1.is s) (ResL.is s h2)
/-- one new root more in the frozen part, whether it is there already or not -/
theorem dm_one {F H F' H' Fa : Hp} {v : V} {x : TD} (h : Res K H F' H' v x) (c : x.1.dm = .sh) (e : Ext F H Fa H') (s : Same F' Fa) : ∃ F2, Ext F H F2 H' ∧ Same Fa F2 ∧ Is K F2 x.2 v := by
  obtain ⟨t, d⟩ := x
  cases t with
  | sh => exact ⟨Fa, e, Same.refl _, Is.mono s h⟩
  | pk => cases c
  | rt => cases c
  | ow =>
    obtain ⟨p, rfl, n, q⟩ := h
    have fin : ∀ o, H' p = some o → (∀ F2, Same F' F2 → F2 p = some o → Is K F2 d (.ref p)) → ∃ F2, Ext F H F2 H' ∧ Same Fa F2 ∧ Is K F2 d (.ref p) := fun o ho k => by
      cases hF : Fa p with
      | none =>
        refine ⟨upd Fa p o, ⟨e.f.trans (same_upd hF), e.h, same_updF e.s ho, fun b z => ?_⟩, same_upd hF, k _ (s.trans (same_upd hF)) upd_same⟩
        by_cases c : b = p
        · subst c
          exact .inr n
        · rw [upd_ne c] at z
          exact e.n b z
      | some u =>
        have := e.s p u hF
        rw [ho] at this
        cases this
        exact ⟨Fa, e, Same.refl _, k Fa s hF⟩
    cases d with
    | list ds =>
      obtain ⟨_, vs, h1, h2⟩ := q
      refine fin _ h1 fun F2 s2 h3 => ?_
      simp only [Is]
      exact ⟨p, vs, rfl, .of h3, h2.mono s2⟩
    | dict ds =>
      obtain ⟨_, vs, h1, h2⟩ := q
      refine fin _ h1 fun F2 s2 h3 => ?_
      simp only [Is]
      exact ⟨p, vs, rfl, h3, h2.mono s2⟩
    | _ => exact q.elim
  | tr =>
    obtain ⟨fp, n, q⟩ := h
    refine ⟨frzAt Fa H' fp, ⟨e.f.trans (frzAt_same e.s), e.h, frzAt_sub e.s, fun b z => ?_⟩, frzAt_same e.s, q.frozen⟩
    by_cases c : b ∈ fp
    · exact .inr (n b c)
    · rw [frzAt_out c] at z
      exact e.n b z
theorem jnL_cons {x : TD} {l : List TD} (j : jnL (x :: l) = .sh) : x.1.dm = .sh ∧ jnL l = .sh := by
  unfold jnL at j
  cases a : x.1.dm <;> cases b : jnL l <;> simp [a, b, Tag.jn] at j ⊢
theorem ResL.dm {F H F' H' : Hp} : ∀ {vs : List V} {l : List TD} {Fa : Hp}, ResL K H F' H' vs l → jnL l = .sh → Ext F H Fa H' → Same F' Fa → ∃ F2, Ext F H F2 H' ∧ Same Fa F2 ∧ IsL K F2 (l.map (·.2)) vs
  | _, [], Fa, h, _, e, s => by
    have h' : _ = [] := h
    subst h'
    exact ⟨Fa, e, Same.refl _, .nil⟩
  | _, x :: l, Fa, ⟨v, ws, e1, h1, h2⟩, j, e, s => by
    subst e1
    obtain ⟨j1, j2⟩ := jnL_cons j
    obtain ⟨F2, e2, s2, q2⟩ := dm_one h1 j1 e s
    obtain ⟨F3, e3, s3, q3⟩ := ResL.dm h2 j2 e2 (s.trans s2)
    exact ⟨F3, e3, s2.trans s3, .cons (Is.mono s3 q2) q3⟩
end
end PV

/-! PvKey: sorted(xs, key=f), f a def that keeps a promise. -/
namespace PV
open PySem PySem.Spec PyProof.Rows L2
section
variable {X : Cx} {pins : List (Addr × Obj)} {σ : L2.St} {H : Hp} {s : Shared}
structure Frs (X : Cx) (pins : List (Addr × Obj)) (a : Addr) : Prop where
  sz : X.s_0.heap.objs.size ≤ a
  lo : a ≠ X.env.locals
  ce : ∀ x c, X.env.cells.lookup x = some c → c ≠ a
  pi : ∀ p ∈ X.pn ++ pins, p.1 ≠ a
  fs : a ∉ X.fs
theorem frs_of (I : Inv X pins σ H s) {a : Addr} (h : s.heap.objs.size ≤ a) : Frs X pins a := by
  have no : ∀ b : Addr, b < s.heap.objs.size → b ≠ a := fun b hb z => Nat.lt_irrefl _ (Nat.lt_of_lt_of_le (z ▸ hb) h)
  refine ⟨Nat.le_trans I.sz h, (no _ I.lt).symm, fun x c e => ?_, fun p hp => no _ (Heap.lt_size (I.pin p hp).1), I.nofs h⟩
  obtain ⟨v, o, ho, _⟩ := I.cell x c e
  exact no _ (Heap.lt_size ho)
/-- two untracked things of ours have changed, one of them is tracked now -/
theorem inv_two {a k : Addr} {o : HO} {h' : Heap} {t' : Nat} (I : Inv X pins σ H s) (fa : Frs X pins a) (fk : Frs X pins k) (na : H a = none) (nk : H k = none) (kp : ∀ b u, b ≠ a → b ≠ k → s.heap.get? b = some u → h'.get? b = some u)
    (new : ObjOk X.prog X.w (upd H a o) h' a o) : Inv X pins σ (upd H a o) { s with heap := h', toks := t' } := by
  have nt : ∀ b u, H b = some u → b ≠ a ∧ b ≠ k := fun b u e => ⟨fun z => (by rw [z, na] at e; cases e), fun z => (by rw [z, nk] at e; cases e)⟩
  refine I.step (g' := s.gens) (d' := s.drawn) (ch := [a, k]) (fun b hb => ?_) (fun b o _ _ hc e _ => kp b o (fun z => hc (by simp [z])) (fun z => hc (by simp [z])) e) (fun b o _ _ hc e _ => ⟨o.slots, kp b o (fun z => hc (by simp [z])) (fun z => hc (by simp [z])) e⟩)
    (fun b _ hc _ n => by rw [upd_ne (fun z => hc (by simp [z]))]; exact n) (fun b o hc e => ⟨o, kp b o (fun z => hc (by simp [z])) (fun z => hc (by simp [z])) e⟩)
    (fun b _ e => by rw [upd_ne (nt b _ e).1]; exact e) (fun b _ _ e => by rw [upd_ne (nt b _ e).1]; exact e) (fun b ps e => ⟨#[], by rw [upd_ne (nt b _ e).1, e]; simp⟩) (fun m hm => ?_) (fun b u e => ?_) I.bare
  · simp only [List.mem_cons, List.not_mem_nil, or_false] at hb
    rcases hb with rfl | rfl
    · exact ⟨.inr fa.sz, fa.lo, fa.ce, fa.pi⟩
    · exact ⟨.inr fk.sz, fk.lo, fk.ce, fk.pi⟩
  · obtain ⟨o, es, ep, ho, r⟩ := hm
    exact ⟨o, es, ep, kp _ o (Ne.symm fa.lo) (Ne.symm fk.lo) ho, r⟩
  · by_cases c : b = a
    · subst c
      rw [upd_same] at e
      cases e
      exact new
    · rw [upd_ne c] at e
      refine (I.hok b u e).stay (fun c v hc q => ?_) (fun b e => by rw [upd_ne (nt b _ e).1]; exact e) fun b _ e => by rw [upd_ne (nt b _ e).1]; exact e
      have : c ≠ a ∧ c ≠ k := by
        rcases hc with z | z
        · rw [z]; exact nt b u e
        · exact nt c _ z
      exact kp c v this.1 this.2 q
end
section
variable {X : Cx} {pins : List (Addr × Obj)} {σ : L2.St} {H : Hp} {s : Shared} {cref : Str → Value} {n : Nat} {g : List D → R TD} {G : Gam} {f l : Addr} {fd : FuncData} {ps : List Str}
theorem each_map {α β γ : Type} {R : α → γ → Prop} (f : β → γ) : ∀ {as : List α} {bs : List β}, PySem.W.EachIs (fun a b => R a (f b)) as bs → PySem.W.EachIs R as (bs.map f)
  | _, _, .nil => .nil
  | _, _, .cons h t => .cons h (each_map f t)
theorem sortedK {its : List Value} {ws : List V} {xs ks : List D} {Q : VK} (I : Inv X pins σ H s) (hl : s.heap.IsList l its.toArray) (rv : Vals ws its) (hz : ws.length ≤ sizeLine) (hI : IsL X.K H xs ws)
    (F : FnG X.prog X.w X.K X.mg X.base n f fd ps (spD X.K cref ps.length g)) (hb : Binds X.K fd ps []) (hps : ∀ ds, g ds ≠ .stuck → ds.length = ps.length) (hr : Room n X.A.in1.in1) (hg : X.A.guards = some [])
    (hk : ∀ (i : Nat) (d : D), xs[i]? = some d → ∃ (t : Tag) (k : D), ks[i]? = some k ∧ g [d] = .ok (t, k)) (lk : ks.length = xs.length) (o : sortOk ks = true)
    (q : ∀ H' p, Same H H' → H p = none → H' p = none → Q (.ref p) (upd H' p (.lst (sortV ws ks)))) :
    wpAny (model X.prog X.w) X.A (PySem.call (.builtin "sorted") [.ref l] [(Str.ofString "key", .ref f)]) (EP X pins σ Q) X.xe s := by
  have hlen := hI.len
  have hil := rv.length
  obtain ⟨o1, o2, o3⟩ := sortOk_of o
  have hL : its.length ≤ sizeLine := by omega
  refine PySem.W.sorted_of_sort hl hL (PyProof.Rows.ksk_s1 _ _) (fun _ => PyProof.Rows.ksk_l1 _ _) fun E' => ?_
  rw [PyProof.Rows.ksk_t1]
  have ho := PySem.W.copyHeap_at s.heap its
  have fa : Frs X pins (s.heap.objs.size + 1) := frs_of I (Nat.le_succ _)
  have na0 : H (s.heap.objs.size + 1) = none := I.hok.fresh (Nat.le_succ _)
  have nolda : ∀ b o, s.heap.get? b = some o → b ≠ s.heap.objs.size + 1 := fun b o e => Nat.ne_of_lt (Nat.lt_succ_of_lt (Heap.lt_size e))
  have old0 : ∀ b o, s.heap.get? b = some o → (PySem.W.copyHeap s.heap its).get? b = some o := fun b o e => PySem.W.copyHeap_old e
  have hs0 : s.heap.objs.size ≤ (PySem.W.copyHeap s.heap its).objs.size := Nat.le_of_lt (Nat.lt_of_succ_lt (Heap.lt_size ho))
  generalize s.heap.objs.size + 1 = a at ho fa na0 nolda
  have ha : a < (PySem.W.copyHeap s.heap its).objs.size := Heap.lt_size ho
  generalize PySem.W.copyHeap s.heap its = h0 at ho old0 ha hs0
  obtain ⟨e1, ho1⟩ : ∃ e1, (h0.update a (Obj.mapSeq fun _ => (#[] : Array Value))).get? a = some (seqObj "list" #[] e1) := ⟨_, get?_update_seq ho fun _ => #[]⟩
  unfold PyProof.Rows.ksk_tree
  refine wpAny_bind (listItems_at ho rfl ?_)
  refine wpAny_bind (listUpdate_at ho rfl ?_ (by rw [List.size_toArray]; exact hL) (Nat.zero_le _))
  refine wpAny_bind (seqEpoch_at ho1 rfl ?_)
  refine wpAny_bind (wpAny_newTuple ?_ (by show its.length ≤ _; exact hL))
  refine wpAny_bind (wpAny_newList ?_ (Nat.zero_le _))
  refine wpAny_holding ?_
  have old1 : ∀ b o, s.heap.get? b = some o → (PySem.W.sortingHeap h0 a its).get? b = some o := fun b o e => PySem.W.sortingHeap_old (nolda b o e) (old0 b o e)
  have hkS : ((h0.update a (Obj.mapSeq fun _ => (#[] : Array Value))).push (seqObj "tuple" its.toArray 0)).objs.size = h0.objs.size + 1 := by rw [size_push', Heap.size_update]
  have I1 : Inv X pins σ H { s with heap := PySem.W.sortingHeap h0 a its } := I.kept (t' := s.toks) old1
  have g1 : (PySem.W.sortingHeap h0 a its).get? a = some (seqObj "list" #[] e1) := Heap.get?_push_of_some _ (Heap.get?_push_of_some _ ho1)
  have g2 : (PySem.W.sortingHeap h0 a its).get? ((h0.update a (Obj.mapSeq fun _ => (#[] : Array Value))).push (seqObj "tuple" its.toArray 0)).objs.size = some (seqObj "list" #[] 0) := Heap.get?_push_size _ rfl
  show wpAny (model X.prog X.w) X.A.in1.in1 (PyProof.Rows.ksk_rest a (.ref f) false its.toArray e1 (.ref ((h0.update a (Obj.mapSeq fun _ => (#[] : Array Value))).push (seqObj "tuple" its.toArray 0)).objs.size)) _ _ { s with heap := PySem.W.sortingHeap h0 a its }
  have nka : ((h0.update a (Obj.mapSeq fun _ => (#[] : Array Value))).push (seqObj "tuple" its.toArray 0)).objs.size ≠ a := by rw [hkS]; exact Nat.ne_of_gt (Nat.lt_succ_of_lt ha)
  have fk : Frs X pins ((h0.update a (Obj.mapSeq fun _ => (#[] : Array Value))).push (seqObj "tuple" its.toArray 0)).objs.size := frs_of I (by rw [hkS]; exact Nat.le_succ_of_le hs0)
  have nk0 : H ((h0.update a (Obj.mapSeq fun _ => (#[] : Array Value))).push (seqObj "tuple" its.toArray 0)).objs.size = none := I.hok.fresh (by rw [hkS]; exact Nat.le_succ_of_le hs0)
  clear hkS
  generalize ((h0.update a (Obj.mapSeq fun _ => (#[] : Array Value))).push (seqObj "tuple" its.toArray 0)).objs.size = kS at g2 nka fk nk0
  generalize PySem.W.sortingHeap h0 a its = h1 at old1 I1 g1 g2
  unfold PyProof.Rows.ksk_rest
  refine wpAny_bind (wpAny_rule ?_)
  first
    | rw [List.forIn_toArray]
    | (rw [← Array.forIn_toList]; simp only [List.toList_toArray])
    | rw [← Array.forIn_toList]
  refine wpAny_bind (ksk_fold (fun i s' => ∃ H' kA e kvs, Inv X pins σ H' s' ∧ Same H H' ∧ H' a = none ∧ H' kS = none ∧ s'.heap.get? kS = some (seqObj "list" kA e) ∧ s'.heap.get? a = some (seqObj "list" #[] e1) ∧ Vals kvs kA.toList ∧ IsL X.K H' (ks.take i) kvs) its 0 _
    ⟨H, #[], 0, [], I1, Same.refl _, na0, nk0, g2, g1, .nil, by rw [List.take_zero]; exact .nil⟩ ?step ?done)
  case step =>
    rintro j x s' hx ⟨H', kA, e, kvs, I', sm, na, nk, gk, ga, rk, ik⟩
    simp only [Nat.zero_add] at ik ⊢
    have hj : j < its.length := (List.getElem?_eq_some_iff.mp hx).1
    obtain ⟨v, hv, rvx⟩ : ∃ v, ws[j]? = some v ∧ RelV v x := by
      have hw : j < ws.length := by omega
      obtain ⟨u, h1, h2⟩ := rv.get (List.getElem?_eq_getElem hw)
      rw [hx] at h1
      cases h1
      exact ⟨_, List.getElem?_eq_getElem hw, h2⟩
    obtain ⟨d, hd, isd⟩ := hI.getV hv
    obtain ⟨t, k, hkj, hgd⟩ := hk j d hd
    have Ip : Inv X ((a, seqObj "list" #[] e1) :: (kS, seqObj "list" kA e) :: pins) σ H' s' := I'.pins_of fun p hp => by
      rcases List.mem_cons.mp hp with rfl | hp
      · exact ⟨ga, na, fa.lo, fa.fs, fun v z => by cases z⟩
      · rcases List.mem_cons.mp hp with rfl | hp
        · exact ⟨gk, nk, fk.lo, fk.fs, fun v z => by cases z⟩
        · exact I'.pin p (List.mem_append_right _ hp)
    have hz2 : kA.size ≤ its.length := by
      have q1 : kvs.length = kA.size := rk.length.trans (Array.length_toList ..)
      have q2 : kvs.length = min j ks.length := by rw [ik.len, List.length_take]
      rw [← q1, q2]
      exact Nat.le_trans (Nat.min_le_left _ _) (Nat.le_of_lt hj)
    have e0 : L2.Env0 X.prog X.w X.K X.mg X.base X.A.in1.in1 X.stack s' H' := I'.env0.in1.in1
    have hps1 : ps.length = 1 := (hps [d] (by rw [hgd]; intro z; cases z)).symm
    have hbt := hb s' [x] I'.kIn (by simpa using hps1.symm)
    rw [List.append_nil] at hbt
    have run := F.run X.A.in1.in1 X.stack s' H' ⟨[x], []⟩ [x] [v] (fun v' H2 => Same H' H2 ∧ Is X.K H2 k v') (fun _ _ _ => False) hr hg e0 hbt (.cons rvx .nil) ⟨by simpa using hps1.symm, H', [d], Same.refl _, .one (isd.mono sm), by
      rw [hgd]
      exact fun v' F2 H2 e4 r4 => ⟨e4.h, r4.is e4.s⟩⟩
    refine wpAny_bind (wpAny_attempt (wpAny_call (codeAny_mono run fun res s2 qq => ?_)))
    match res, qq with
    | .error e, qq =>
      obtain ⟨_, _, _, _, _, _, _, _, _, _, _, _, z⟩ := qq
      exact z.elim
    | .ok .next, qq => exact False.elim qq
    | .ok .brk, qq => exact False.elim qq
    | .ok .cont, qq => exact False.elim qq
    | .ok (.ret u), qq =>
    obtain ⟨v', H2, I2, r2, sm2, ik2⟩ := Ip.after qq
    have pa := I2.pin (a, seqObj "list" #[] e1) (List.mem_append_right _ List.mem_cons_self)
    have pk := I2.pin (kS, seqObj "list" kA e) (List.mem_append_right _ (List.mem_cons_of_mem _ List.mem_cons_self))
    have nk2 : s2.heap.get? kS = some (seqObj "list" kA e) := pk.1
    have na2 : s2.heap.get? a = some (seqObj "list" #[] e1) := pa.1
    have s1 := Heap.SameBut.update s2.heap kS (Obj.mapSeq (·.push u))
    obtain ⟨c2, hc2⟩ : ∃ c2, (s2.heap.update kS (Obj.mapSeq (·.push u))).get? kS = some (seqObj "list" (kA.push u) c2) := ⟨_, get?_update_seq nk2 (·.push u)⟩
    refine wpAny_bind (listUpdate_at nk2 rfl ?_ (Nat.le_trans hz2 hL) (Nat.le_trans (Nat.le_of_eq (Array.size_push ..)) (Nat.succ_le_succ (Nat.le_trans hz2 hL))))
    have I3 : Inv X pins σ H2 s2 := I2.pins_of fun p hp => I2.pin p (List.mem_append_right _ (List.mem_cons_of_mem _ (List.mem_cons_of_mem _ hp)))
    have I4 := I3.turned (t' := s2.toks) (it := kS) (h' := s2.heap.update kS (Obj.mapSeq (·.push u))) (fun b o hb e => (s1.2 b hb).trans e) pk.2.1 fk.lo (.inr fk.sz) fk.ce fk.pi
    refine wpAny_pure ⟨rfl, H2, kA.push u, c2, kvs ++ [v'], I4, sm.trans sm2, pa.2.1, pk.2.1, hc2, (s1.2 a nka.symm).trans na2, ?_, ?_⟩
    · rw [Array.toList_push]
      exact rk.append (.cons r2 .nil)
    · rw [show ks.take (j + 1) = ks.take j ++ [k] from by rw [List.take_add_one, hkj]; rfl]
      exact (ik.mono sm2).app (.one ik2)
  case done =>
    rintro s' ⟨H', kA, e, kvs, I', sm, na, nk, gk, ga, rk, ik⟩
    rw [Nat.zero_add, List.take_of_length_le (by omega)] at ik
    have hks : kA.toList.length = ks.length := rk.length.symm.trans ik.len
    have hsz : kA.size = its.length := by
      rw [← Array.length_toList, hks]
      omega
    have sn := zip_snd (xs := kA.toList) (ys := ks) hks
    have hk' : PySem.W.EachIs (fun v k => ∃ as, Reads s'.heap v k as) kA.toList ks := by
      have := each_of (P := fun u p => ∃ as, Reads s'.heap u p.2 as) rk ik.len fun v u d ru hm => by
        have hi := isL_zip ik _ hm
        have cl : d.canLay0 = true := (o3 d (List.of_mem_zip hm).2).2
        exact Dp.reads I' d v u (hi.dp cl) ru
      have e2 : (kvs.zip ks).map (·.2) = ks := zip_snd ik.len
      have := each_map (R := fun (u : Value) (d : D) => ∃ as, Reads s'.heap u d as) (fun p : V × D => p.2) this
      rwa [e2] at this
    try dsimp only
    refine wpAny_bind (listItems_at gk rfl ?_)
    obtain ⟨h2, r1, r2⟩ := L2.restrict s'.heap fun b => decide (b ≠ kS)
    have kp : PySem.W.KeepsBut a h2 s'.heap := fun b o hb eo => by
      by_cases c : b = kS
      · rw [c, r2 kS (by simp)] at eo
        cases eo
      · rw [← r1 b (by simpa using c)]
        exact eo
    refine PySem.W.keyH_end (κ := PySem.W.dataKind s'.heap ks) (h₁ := h2) kp (r2 kS (by simp)) gk ga nka (PySem.W.SortsAt.data (s := s') hk' o1 o2 fun d hd => ?_) hsz hL fun h3 tk3 c kp3 g3 => ⟨rfl, ?_⟩
    · have := (o3 d hd).1
      have := hr.un
      omega
    · have hb0 : (ws.zip ks).map (·.2) = ks := zip_snd (by omega)
      have ko : PySem.W.KeyedOut false ((ws.zip ks).map fun p : V × D => p.2) its (PySem.W.sortVals (PySem.W.dataKind s'.heap ks) false kA.toList its) := by
        rw [hb0]
        exact ⟨s'.heap, kA.toList, o1, rfl, hk'⟩
      have eo := PySem.W.keyedOut_each (fun p : V × D => p.2) ko (each_of (P := fun u p => RelV p.1 u) rv (by omega) fun v u d ru _ => ru)
      refine ⟨.ref a, _, inv_two (t' := tk3) (o := .lst (sortV ws ks)) I' fa fk na nk (fun b u h1 h2 e => kp3 b u h1 (by rw [r1 b (by simpa using h2)]; exact e)) ⟨?_, _, c, vals_each eo, g3⟩, rfl, q H' a sm na0 na⟩
      unfold sortV
      rw [List.length_map, List.length_mergeSort, List.length_zip]
      omega
theorem keysOf_spec {g : List D → R TD} : ∀ {xs ks : List D}, keysOf g xs = some ks → ks.length = xs.length ∧ ∀ (i : Nat) (d : D), xs[i]? = some d → ∃ (t : Tag) (k : D), ks[i]? = some k ∧ g [d] = .ok (t, k)
  | [], ks, h => by
    cases h
    exact ⟨rfl, fun i d e => by simp at e⟩
  | x :: r, ks, h => by
    unfold keysOf at h
    cases hg : g [x] with
    | ok p =>
      obtain ⟨t, k⟩ := p
      rw [hg] at h
      have h : (keysOf g r).map (k :: ·) = some ks := h
      cases hr : keysOf g r with
      | none => rw [hr] at h; cases h
      | some q =>
        rw [hr] at h
        cases h
        obtain ⟨l, f⟩ := keysOf_spec hr
        refine ⟨by simp [l], fun i d e => ?_⟩
        match i, e with
        | 0, e =>
          cases e
          exact ⟨t, k, rfl, hg⟩
        | i + 1, e => exact f i d e
    | exc c => rw [hg] at h; cases h
    | stuck => rw [hg] at h; cases h
theorem evSrk_exc (G : Gam) (f : Str) (x : TD) : ∀ c, evSrk G f x ≠ .exc c := by
  intro c h
  obtain ⟨t, d⟩ := x
  cases d with
  | list xs =>
    simp only [evSrk] at h
    cases hG : G f with
    | none => rw [hG] at h; cases h
    | some g =>
      rw [hG] at h
      cases hk : keysOf g xs with
      | none => simp only [hk] at h; cases h
      | some ks =>
        simp only [hk] at h
        cases ho : sortOk ks <;> rw [ho] at h <;> cases h
  | _ => simp only [evSrk] at h; cases h
/-- what sorted(xs, key=f) asks -/
def rSrk (K : PySem.W.Frag) (G : Gam) (f : Str) (fa : Addr) : List V → List V → Hp → VK → Prop := fun vs zs H Q => zs = [.ref fa] ∧ ∃ F v x, vs = [v] ∧ Same F H ∧ Res K H0 F H v x ∧ Give K F H (evSrk G f x) Q
theorem zip3a : ∀ {ws : List V} {xs ks : List D}, ws.length = xs.length → ws.zip ks = ((ws.zip xs).zip ks).map fun p => (p.1.1, p.2)
  | [], [], _, _ => by simp
  | [], _ :: _, _, h => by simp at h
  | _ :: _, [], _, h => by simp at h
  | _ :: _, _ :: _, [], _ => by simp
  | w :: ws, x :: xs, k :: ks, h => by
    rw [List.zip_cons_cons, List.zip_cons_cons, List.zip_cons_cons, List.map_cons, ← zip3a (by simpa using h)]
theorem zip3b : ∀ {ws : List V} {xs ks : List D}, ws.length = xs.length → xs.zip ks = ((ws.zip xs).zip ks).map fun p => (p.1.2, p.2)
  | [], [], _, _ => by simp
  | [], _ :: _, _, h => by simp at h
  | _ :: _, [], _, h => by simp at h
  | _ :: _, _ :: _, [], _ => by simp
  | w :: ws, x :: xs, k :: ks, h => by
    rw [List.zip_cons_cons, List.zip_cons_cons, List.zip_cons_cons, List.map_cons, ← zip3b (by simpa using h)]
theorem isL_sort {H : Hp} {xs ks : List D} {ws : List V} (h : IsL X.K H xs ws) : IsL X.K H (sortV xs ks) (sortV ws ks) := by
  have hl := h.len
  unfold sortV
  rw [zip3a (xs := xs) hl, zip3b (ws := ws) hl]
  rw [← List.map_mergeSort (r := PySem.W.dataLe false fun p : (V × D) × D => p.2) (s := PySem.W.dataLe false fun p : V × D => p.2) (f := fun p : (V × D) × D => (p.1.1, p.2)) (fun _ _ _ _ => rfl),
    ← List.map_mergeSort (r := PySem.W.dataLe false fun p : (V × D) × D => p.2) (s := PySem.W.dataLe false fun p : D × D => p.2) (f := fun p : (V × D) × D => (p.1.2, p.2)) (fun _ _ _ _ => rfl)]
  have mem : ∀ p ∈ (((ws.zip xs).zip ks).mergeSort (PySem.W.dataLe false fun p : (V × D) × D => p.2)).map (·.1), Is X.K H p.2 p.1 := fun p hp => by
    obtain ⟨q, hq, rfl⟩ := List.mem_map.mp hp
    have := (List.mergeSort_perm _ _).mem_iff.mp hq
    exact isL_zip h _ (List.of_mem_zip this).1
  have := isL_of mem
  rw [List.map_map, List.map_map] at this
  rw [List.map_map, List.map_map]
  exact this
theorem cr_srk {k : Nat} {fa : Addr} {x : Str} {gg : List D → R TD} (hG : G x = some gg) (F : FnG X.prog X.w X.K X.mg X.base k fa fd ps (spD X.K cref ps.length gg)) (hb : Binds X.K fd ps []) (hps : ∀ ds, gg ds ≠ .stuck → ds.length = ps.length)
    (hr : Room k X.A.in1.in1) (hg : X.A.guards = some []) : CallRK X (.builtin "sorted") [Str.ofString "key"] (rSrk X.K G x fa) := by
  intro pins s σ H vs zs us ws Q I r rz h
  obtain ⟨rfl, F1, v, y, rfl, sm, rv, gv⟩ := h
  obtain ⟨u, rfl, ru⟩ := vals1 r
  obtain ⟨w1, rfl, e1⟩ := vals1 rz
  obtain rfl : w1 = Value.ref fa := e1
  obtain ⟨t, d⟩ := y
  cases d with
  | list xs =>
    simp only [evSrk] at gv
    rw [hG] at gv
    cases hk : keysOf gg xs with
    | none => simp only [hk] at gv; exact gv.elim
    | some ks =>
      simp only [hk] at gv
      obtain ⟨g1, g2⟩ := gv.guard
      obtain ⟨lk, hki⟩ := keysOf_spec hk
      obtain ⟨a, vs, rfl, h1, h2⟩ := rv.list sm
      obtain ⟨its, rw', pl, hz⟩ := I.list h1.seq
      obtain rfl : u = Value.ref a := ru
      refine sortedK I pl.isList rw' hz (h2.mono (hp_same sm)) F hb hps hr hg hki lk g1 fun H' p sm2 np np' => ?_
      refine g2 (.ref p) F1 _ ⟨Same.refl _, sm2.trans (same_upd np'), sm.trans (sm2.trans (same_upd np')), fun b z => .inl z⟩ ?_
      have hI := isL_sort (X := X) (ks := ks) h2
      rcases kid_cases t with e | e
      · rw [e] at hI ⊢
        exact ⟨p, rfl, np, sm.free np, _, upd_same, hI⟩
      · rw [e] at hI ⊢
        show Is X.K (upd H' p (.lst _)) (.list _) (.ref p)
        simp only [Is]
        exact ⟨p, _, rfl, .of upd_same, hI.mono (sm2.trans (same_upd np'))⟩
  | _ => simp only [evSrk] at gv; exact gv.elim
/-- what sorted(xs, key=f) asks, told by the items themselves -/
def rSrt (K : PySem.W.Frag) (G : Gam) (f : Str) (fa : Addr) : List V → List V → Hp → VK → Prop := fun vs zs H Q => zs = [.ref fa] ∧ ∃ l ws xs ks g, vs = [.ref l] ∧ H l = some (.lst ws) ∧ IsL K H xs ws ∧ G f = some g ∧ keysOf g xs = some ks ∧ sortOk ks = true ∧
  ∀ H' p, Same H H' → H p = none → H' p = none → Q (.ref p) (upd H' p (.lst (sortV ws ks)))
theorem cr_srt {k : Nat} {fa : Addr} {x : Str} {gg : List D → R TD} (hG : G x = some gg) (F : FnG X.prog X.w X.K X.mg X.base k fa fd ps (spD X.K cref ps.length gg)) (hb : Binds X.K fd ps []) (hps : ∀ ds, gg ds ≠ .stuck → ds.length = ps.length)
    (hr : Room k X.A.in1.in1) (hg : X.A.guards = some []) : CallRK X (.builtin "sorted") [Str.ofString "key"] (rSrt X.K G x fa) := by
  intro pins s σ H vs zs us ws Q I r rz h
  obtain ⟨rfl, l, vs2, xs, ks, g, rfl, h1, h2, h3, hk, g1, q⟩ := h
  rw [hG] at h3
  cases h3
  obtain ⟨u, rfl, ru⟩ := vals1 r
  obtain ⟨w1, rfl, e1⟩ := vals1 rz
  obtain rfl : w1 = Value.ref fa := e1
  obtain ⟨lk, hki⟩ := keysOf_spec hk
  obtain ⟨its, rw', pl, hz⟩ := I.list (LL.of (K := X.K) h1).seq
  obtain rfl : u = Value.ref l := ru
  exact sortedK I pl.isList rw' hz h2 F hb hps hr hg hki lk g1 q
theorem ownL_perm {F H : Hp} {ps qs : List (V × D)} (h : List.Perm ps qs) : ∀ {fq : List Addr}, OwnL X.K F H (ps.map (·.2)) (ps.map (·.1)) fq → ∃ fp, OwnL X.K F H (qs.map (·.2)) (qs.map (·.1)) fp ∧ ∀ a, a ∈ fp ↔ a ∈ fq := by
  induction h with
  | nil => exact fun {fq} h => ⟨fq, h, fun _ => Iff.rfl⟩
  | cons x _ ih =>
    intro fq h
    simp only [List.map_cons, OwnL] at h ⊢
    obtain ⟨v, w, f, g, e, rfl, h0, h1, h2⟩ := h
    obtain ⟨rfl, rfl⟩ := List.cons.inj e
    obtain ⟨g', h3, h4⟩ := ih h2
    exact ⟨f ++ g', ⟨_, _, f, g', rfl, rfl, fun a ha z => h0 a ha ((h4 a).mp z), h1, h3⟩, fun a => by rw [List.mem_append, List.mem_append, h4]⟩
  | swap x y l =>
    intro fq h
    simp only [List.map_cons, OwnL] at h ⊢
    obtain ⟨v, w, f, g, e, rfl, h0, h1, v2, w2, f2, g2, e2, rfl, k0, k1, k2⟩ := h
    obtain ⟨rfl, rfl⟩ := List.cons.inj e
    obtain ⟨rfl, rfl⟩ := List.cons.inj e2
    refine ⟨f2 ++ (f ++ g2), ⟨_, _, f2, f ++ g2, rfl, rfl, fun a ha z => ?_, k1, _, _, f, g2, rfl, rfl, fun a ha z => h0 a ha (List.mem_append_right _ z), h1, k2⟩, fun a => ?_⟩
    · rcases List.mem_append.mp z with z | z
      · exact h0 a z (List.mem_append_left _ ha)
      · exact k0 a ha z
    · simp only [List.mem_append]
      constructor
      · rintro (z | z | z)
        · exact .inr (.inl z)
        · exact .inl z
        · exact .inr (.inr z)
      · rintro (z | z | z)
        · exact .inr (.inl z)
        · exact .inl z
        · exact .inr (.inr z)
  | trans _ _ ih1 ih2 =>
    intro fq h
    obtain ⟨f1, h1, k1⟩ := ih1 h
    obtain ⟨f2, h2, k2⟩ := ih2 h1
    exact ⟨f2, h2, fun a => (k2 a).trans (k1 a)⟩
theorem ownL_sort {F H : Hp} {xs ks : List D} {ws : List V} {fq : List Addr} (h : OwnL X.K F H xs ws fq) (hl : ws.length = xs.length) (lk : ks.length = xs.length) : ∃ fp, OwnL X.K F H (sortV xs ks) (sortV ws ks) fp ∧ ∀ a, a ∈ fp ↔ a ∈ fq := by
  have e1 : sortV ws ks = ((((ws.zip xs).zip ks).mergeSort (PySem.W.dataLe false fun p : (V × D) × D => p.2)).map (·.1)).map (·.1) := by
    unfold sortV
    rw [zip3a (xs := xs) hl, ← List.map_mergeSort (r := PySem.W.dataLe false fun p : (V × D) × D => p.2) (s := PySem.W.dataLe false fun p : V × D => p.2) (f := fun p : (V × D) × D => (p.1.1, p.2)) (fun _ _ _ _ => rfl), List.map_map, List.map_map]
    rfl
  have e2 : sortV xs ks = ((((ws.zip xs).zip ks).mergeSort (PySem.W.dataLe false fun p : (V × D) × D => p.2)).map (·.1)).map (·.2) := by
    unfold sortV
    rw [zip3b (ws := ws) hl, ← List.map_mergeSort (r := PySem.W.dataLe false fun p : (V × D) × D => p.2) (s := PySem.W.dataLe false fun p : D × D => p.2) (f := fun p : (V × D) × D => (p.1.2, p.2)) (fun _ _ _ _ => rfl), List.map_map, List.map_map]
    rfl
  have pm := (List.mergeSort_perm ((ws.zip xs).zip ks) (PySem.W.dataLe false fun p : (V × D) × D => p.2)).map (·.1)
  have e3 : ((ws.zip xs).zip ks).map (·.1) = ws.zip xs := List.map_fst_zip (by rw [List.length_zip]; omega)
  rw [e3] at pm
  have e4 : (ws.zip xs).map (·.1) = ws := List.map_fst_zip (by omega)
  have e5 : (ws.zip xs).map (·.2) = xs := List.map_snd_zip (by omega)
  rw [e1, e2]
  exact ownL_perm pm.symm (by rw [e4, e5]; exact h)
end
end PV

/-! PvSrc: what is walked, and the targets. -/
namespace PV
open PySem PySem.Spec PyProof.Rows L2
section
variable {K : PySem.W.Frag}
theorem seq_inj {a : Addr} {P : Hp} {vs : List V} (h : LL K P a vs) {H1 : Hp} (s : Same P H1) : SqL K H1 a vs := (h.mono s).seq
theorem ok_list {a : Addr} {Po Pi : Hp} {vs : List V} {ds : List D} (h : LL K Po a vs) (q : IsL K Pi ds vs) : ItOk K Po Pi (Itl K a) ds where
  go := fun H1 i s hi => ⟨vs, vs[i]'(by rw [q.len]; exact hi), seq_inj h s, List.getElem?_eq_getElem _⟩
  stop := fun H1 s => ⟨vs, seq_inj h s, by rw [q.len]; exact Nat.le_refl _⟩
  yld := fun F1 H1 i x H2 d s sf hd hs y => by
    obtain ⟨rfl, hx⟩ := y
    obtain ⟨v, e1, e2⟩ := q.get hd
    have e3 := hx vs (seq_inj h s)
    rw [e1] at e3
    cases e3
    refine ⟨F1, Ext.refl sf, ?_⟩
    rcases hs with hs | hs
    · exact e2.mono hs
    · exact e2.scal hs
theorem ok_tup {a : Addr} {Po Pi : Hp} {vs : List V} {ds : List D} (h : SqT K Po a vs) (q : IsL K Pi ds vs) : ItOk K Po Pi (Itt K a) ds where
  go := fun H1 i s hi => ⟨vs, vs[i]'(by rw [q.len]; exact hi), sqT_mono s h, List.getElem?_eq_getElem _⟩
  stop := fun H1 s => ⟨vs, sqT_mono s h, by rw [q.len]; exact Nat.le_refl _⟩
  yld := fun F1 H1 i x H2 d s sf hd hs y => by
    obtain ⟨rfl, hx⟩ := y
    obtain ⟨v, e1, e2⟩ := q.get hd
    have e3 := hx vs (sqT_mono s h)
    rw [e1] at e3
    cases e3
    refine ⟨F1, Ext.refl sf, ?_⟩
    rcases hs with hs | hs
    · exact e2.mono hs
    · exact e2.scal hs
theorem ranged_len (a b : Int) : (ranged a b).length = (b - a).toNat := by simp [ranged]
theorem ranged_get {a b : Int} {i : Nat} (h : i < (b - a).toNat) : (ranged a b)[i]? = some (.int (a + (i : Nat))) := by
  simp [ranged, List.getElem?_map, List.getElem?_range h]
theorem ok_rng {lo hi : Int} {Po Pi : Hp} : ItOk K Po Pi (Itr lo (hi - lo).toNat) (ranged lo hi) where
  go := fun H1 i s h => by
    rw [ranged_len] at h
    exact h
  stop := fun H1 s => by
    rw [ranged_len]
    exact Nat.le_refl _
  yld := fun F1 H1 i x H2 d s sf hd hs y => by
    obtain ⟨rfl, rfl⟩ := y
    have hi : i < (hi - lo).toNat := by
      have := (List.getElem?_eq_some_iff.mp hd).1
      rwa [ranged_len] at this
    rw [ranged_get hi] at hd
    cases hd
    exact ⟨F1, Ext.refl sf, int_is⟩
theorem rangedD_len (a b : Int) : (rangedD a b).length = (a - b).toNat := by simp [rangedD]
theorem rangedD_get {a b : Int} {i : Nat} (h : i < (a - b).toNat) : (rangedD a b)[i]? = some (.int (a - (i : Nat))) := by
  simp [rangedD, List.getElem?_map, List.getElem?_range h]
theorem ok_rgd {hi lo : Int} {Po Pi : Hp} : ItOk K Po Pi (Itc hi (-1) (hi - lo).toNat) (rangedD hi lo) where
  go := fun H1 i s h => by
    rw [rangedD_len] at h
    exact h
  stop := fun H1 s => by
    rw [rangedD_len]
    exact Nat.le_refl _
  yld := fun F1 H1 i x H2 d s sf hd hs y => by
    obtain ⟨rfl, rfl⟩ := y
    have hi : i < (hi - lo).toNat := by
      have := (List.getElem?_eq_some_iff.mp hd).1
      rwa [rangedD_len] at this
    rw [rangedD_get hi] at hd
    cases hd
    refine ⟨F1, Ext.refl sf, ?_⟩
    rw [Int.mul_neg, Int.mul_one, ← Int.sub_eq_add_neg]
    exact int_is
theorem enum_len : ∀ (ds : List D) (k : Nat), (enumD k ds).length = ds.length
  | [], _ => rfl
  | _ :: r, k => by
    unfold enumD
    rw [List.length_cons, List.length_cons, enum_len r]
theorem enum_get : ∀ (ds : List D) (k i : Nat) (d : D), (enumD k ds)[i]? = some d → ∃ e, ds[i]? = some e ∧ d = .tuple [.int ((k + i : Nat) : Int), e]
  | [], _, _, _, h => by simp [enumD] at h
  | e :: r, k, 0, d, h => by
    simp [enumD] at h
    exact ⟨e, rfl, by rw [← h]; rfl⟩
  | e :: r, k, i + 1, d, h => by
    unfold enumD at h
    obtain ⟨e', h1, h2⟩ := enum_get r (k + 1) i d (by simpa using h)
    exact ⟨e', by simpa using h1, by rw [h2, show k + 1 + i = k + (i + 1) by omega]⟩
theorem ok_enum {a : Addr} {Po Pi : Hp} {vs : List V} {ds : List D} (h : LL K Po a vs) (q : IsL K Pi ds vs) : ItOk K Po Pi (Ite K a) (enumD 0 ds) where
  go := fun H1 i s hi => by
    rw [enum_len] at hi
    exact ⟨vs, vs[i]'(by rw [q.len]; exact hi), seq_inj h s, List.getElem?_eq_getElem _⟩
  stop := fun H1 s => ⟨vs, seq_inj h s, by rw [q.len, enum_len]; exact Nat.le_refl _⟩
  yld := fun F1 H1 i x H2 d s sf hd hs y => by
    obtain ⟨T, x1, rfl, hT, rfl, hx⟩ := y
    obtain ⟨e, he, rfl⟩ := enum_get ds 0 i d hd
    obtain ⟨v, e1, e2⟩ := q.get he
    have e3 := hx vs (seq_inj h s)
    rw [e1] at e3
    cases e3
    have hs' : Same Pi F1 := by
      rcases hs with hs | hs
      · exact hs
      · simp [scal] at hs
    refine ⟨upd F1 T (.tup [.int (i : Nat), x1]), Ext.new sf hT, ?_⟩
    simp only [Is]
    refine ⟨T, _, rfl, SqT.of upd_same, .cons (by rw [Nat.zero_add]; exact int_is) (.cons ((e2.mono hs').mono (same_upd (sf.free hT))) .nil)⟩
theorem zipD_get : ∀ (ds es : List D) (i : Nat) (d : D), (zipD ds es)[i]? = some d → ∃ a b, ds[i]? = some a ∧ es[i]? = some b ∧ d = .tuple [a, b]
  | [], _, _, _, h => by simp [zipD] at h
  | _ :: _, [], _, _, h => by simp [zipD] at h
  | a :: r, b :: s, 0, d, h => by
    simp [zipD] at h
    exact ⟨a, b, rfl, rfl, h.symm⟩
  | a :: r, b :: s, i + 1, d, h => by
    unfold zipD at h
    obtain ⟨x, y, h1, h2, h3⟩ := zipD_get r s i d (by simpa using h)
    exact ⟨x, y, by simpa using h1, by simpa using h2, h3⟩
theorem zipD_len : ∀ (ds es : List D), (zipD ds es).length = min ds.length es.length
  | [], es => by simp [zipD]
  | _ :: _, [] => by simp [zipD]
  | a :: r, b :: s => by
    unfold zipD
    rw [List.length_cons, List.length_cons, List.length_cons, zipD_len r s]
    omega
theorem ok_zip {a b : Addr} {Po Pi : Hp} {vs ws : List V} {ds es : List D} (h : LL K Po a vs) (q : IsL K Pi ds vs) (h' : LL K Po b ws) (q' : IsL K Pi es ws) : ItOk K Po Pi (Itz K a b) (zipD ds es) where
  go := fun H1 i s hi => by
    rw [zipD_len] at hi
    have l1 : i < vs.length := by rw [q.len]; omega
    have l2 : i < ws.length := by rw [q'.len]; omega
    exact ⟨vs, ws, vs[i], ws[i], seq_inj h s, seq_inj h' s, List.getElem?_eq_getElem _, List.getElem?_eq_getElem _⟩
  stop := fun H1 s => ⟨vs, ws, seq_inj h s, seq_inj h' s, by rw [q.len, q'.len, zipD_len]; omega⟩
  yld := fun F1 H1 i x H2 d s sf hd hs y => by
    obtain ⟨T, x1, y1, rfl, hT, rfl, hx, hy⟩ := y
    obtain ⟨d1, d2, g1, g2, rfl⟩ := zipD_get ds es i d hd
    obtain ⟨v, e1, e2⟩ := q.get g1
    obtain ⟨u, e1', e2'⟩ := q'.get g2
    have e3 := hx vs (seq_inj h s)
    rw [e1] at e3
    cases e3
    have e3 := hy ws (seq_inj h' s)
    rw [e1'] at e3
    cases e3
    have hs' : Same Pi F1 := by
      rcases hs with hs | hs
      · exact hs
      · simp [scal] at hs
    refine ⟨upd F1 T (.tup [x1, y1]), Ext.new sf hT, ?_⟩
    have m := same_upd (o := .tup [x1, y1]) (sf.free hT)
    simp only [Is]
    exact ⟨T, _, rfl, SqT.of upd_same, .cons ((e2.mono hs').mono m) (.cons ((e2'.mono hs').mono m) .nil)⟩
theorem ok_rev {a : Addr} {Po Pi : Hp} {vs : List V} {ds : List D} (h : LL K Po a vs) (q : IsL K Pi ds vs) : ItOk K Po Pi (Itv K a vs.length) ds.reverse where
  go := fun H1 i s hi => by
    rw [List.length_reverse, ← q.len] at hi
    have l1 : vs.length - 1 - i < vs.length := by omega
    exact ⟨hi, vs, vs[vs.length - 1 - i], seq_inj h s, List.getElem?_eq_getElem _⟩
  stop := fun H1 s => by
    rw [List.length_reverse, ← q.len]
    exact Nat.le_refl _
  yld := fun F1 H1 i x H2 d s sf hd hs y => by
    obtain ⟨rfl, hx⟩ := y
    have hi : i < ds.length := by
      have := (List.getElem?_eq_some_iff.mp hd).1
      rwa [List.length_reverse] at this
    rw [List.getElem?_reverse hi] at hd
    obtain ⟨v, e1, e2⟩ := q.get hd
    have e3 := hx vs (seq_inj h s)
    rw [q.len, e1] at e3
    cases e3
    refine ⟨F1, Ext.refl sf, ?_⟩
    rcases hs with hs | hs
    · exact e2.mono hs
    · exact e2.scal hs

/-! ### a source's value, whatever its tag: for a comprehension, for a loop -/
theorem res_dm2 {F H F' H' : Hp} {v : V} {x : TD} (e : Ext F H F' H') (h : Res K H F' H' v x) (c : x.1.dm = .sh) : ∃ F2, Ext F H F2 H' ∧ Same F' F2 ∧ Is K F2 x.2 v :=
  dm_one h c e (Same.refl _)
theorem is_list {P : Hp} {ds : List D} {v : V} (h : Is K P (.list ds) v) : ∃ a vs, v = .ref a ∧ LL K P a vs ∧ IsL K P ds vs := by simpa only [Is] using h
theorem is_tuple {P : Hp} {ds : List D} {v : V} (h : Is K P (.tuple ds) v) : ∃ a vs, v = .ref a ∧ SqT K P a vs ∧ IsL K P ds vs := by simpa only [Is] using h
theorem LL.inj_of {X : Cx} {pins : List (Addr × Obj)} {σ : L2.St} {H : Hp} {s : Shared} {a : Addr} {xs ys : List V} (I : Inv X pins σ H s) (h : LL X.K H a xs) (h' : LL X.K H a ys) : xs = ys := I.list_inj h.seq h'.seq
end

/-! ### targets -/
section
variable {X : Cx} {N : List Str} {sc : Scope} {cok : Str → Bool}
theorem st_of {i : Nat} {x : Str} (hN : X.N = N) (hsc : X.env.scope = sc) (hc : ∀ x, cok x = true → X.fn x = true) (h : stB N sc cok i x = true) : X.N[i]? = some x ∧ Loc X.env.scope x ∧ (X.fn x = true ∨ X.env.scope.names.lookup x = some .local) := by
  subst hN hsc
  simp only [stB, Bool.and_eq_true, decide_eq_true_eq] at h
  obtain ⟨h1, h2⟩ := h
  refine ⟨h1, ?_⟩
  split at h2
  · rename_i q
    exact ⟨.inl q, .inr q⟩
  · rename_i q
    exact ⟨.inr q, .inl (hc x h2)⟩
  · cases h2
def gNs : List Nat → TGs | [] => gNil | i :: r => gCons (gName i) (gNs r)
theorem gNs_go : ∀ {is : List Nat} {vs : List V} {σ : L2.St} {H : Hp} {Q : L2.St → Hp → Prop}, vs.length = is.length → Q ((is.zip vs).foldl (fun e p => e.set p.1 (some p.2)) σ) H → gNs is vs σ H Q
  | [], vs, σ, H, Q, hl, h => by
    have : vs = [] := List.length_eq_zero_iff.mp hl
    subst this
    exact ⟨rfl, h⟩
  | i :: is, [], _, _, _, hl, _ => by simp at hl
  | i :: is, v :: vs, σ, H, Q, hl, h => ⟨v, vs, rfl, gNs_go (by simpa using hl) (by simpa using h)⟩
def gTg (K : PySem.W.Frag) : Tg → TG | .nm i => gName i | .tp is => gTup K is.length (gNs is)
theorem names_each {cok : Str → Bool} : ∀ {is : List Nat} {es : List Expr}, chkTg.go N sc cok is es = true → (assignEach es X.env).length = is.length ∧ (assignEach es X.env).findIdx? (·.1) = none
  | [], [], _ => ⟨rfl, rfl⟩
  | [], _ :: _, h => by simp [chkTg.go] at h
  | _ :: _, [], h => by simp [chkTg.go] at h
  | i :: is, e :: es, h => by
    cases e with
    | Name x p =>
      simp only [chkTg.go, Bool.and_eq_true] at h
      obtain ⟨h1, h2⟩ := names_each h.2
      refine ⟨?_, ?_⟩
      · show (assignEach es X.env).length + 1 = is.length + 1
        rw [h1]
      · show List.findIdx? (·.1) ((false, assign (.Name x p) X.env) :: assignEach es X.env) = none
        rw [List.findIdx?_cons, h2]
        rfl
    | _ => simp [chkTg.go] at h
theorem pgs_of (hN : X.N = N) (nd : N.Nodup) (hsc : X.env.scope = sc) (hc : ∀ x, cok x = true → X.fn x = true) : ∀ {is : List Nat} {es : List Expr}, chkTg.go N sc cok is es = true → PGs X es (gNs is)
  | [], [], _ => pgs_nil
  | [], _ :: _, h => by simp [chkTg.go] at h
  | _ :: _, [], h => by simp [chkTg.go] at h
  | i :: is, e :: es, h => by
    cases e with
    | Name x p =>
      simp only [chkTg.go, Bool.and_eq_true] at h
      obtain ⟨a, b, c⟩ := st_of hN hsc hc h.1
      exact pgs_cons (pg_name (by rw [hN]; exact nd) a b c) (pgs_of hN nd hsc hc h.2) rfl
    | _ => simp [chkTg.go] at h
theorem pg_of (hN : X.N = N) (nd : N.Nodup) (hsc : X.env.scope = sc) (hc : ∀ x, cok x = true → X.fn x = true) (calm : X.calm = true) {tg : Tg} {e : Expr} (h : chkTg N sc cok tg e = true) : PG X e (gTg X.K tg) := by
  cases tg with
  | nm i =>
    cases e with
    | Name x p =>
      obtain ⟨a, b, c⟩ := st_of hN hsc hc (by simpa only [chkTg] using h)
      exact pg_name (by rw [hN]; exact nd) a b c
    | _ => simp [chkTg] at h
  | tp is =>
    cases e with
    | Tuple es k p =>
      have h' : chkTg.go N sc cok is es = true := by simpa only [chkTg] using h
      obtain ⟨l1, l2⟩ := names_each (X := X) h'
      exact pg_tup calm (pgs_of hN nd hsc hc h') l1 l2
    | _ => simp [chkTg] at h
end
section
variable {K : PySem.W.Frag}
theorem rel_sets {F H : Hp} : ∀ {is : List Nat} {ds : List D} {vs : List V} {σ : L2.St} {env : Env}, Rel K F H σ env → IsL K F ds vs → Rel K F H ((is.zip vs).foldl (fun e p => e.set p.1 (some p.2)) σ) ((is.zip ds).foldl (fun e p => e.set p.1 (.sh p.2)) env)
  | [], _, _, _, _, r, _ => r
  | i :: is, [], vs, _, _, r, h => by
    simp only [IsL] at h
    subst h
    exact r
  | i :: is, d :: ds, _, σ, env, r, h => by
    simp only [IsL] at h
    obtain ⟨v, w, rfl, h1, h2⟩ := h
    show Rel K F H ((is.zip w).foldl (fun e p => e.set p.1 (some p.2)) (σ.set i (some v))) ((is.zip ds).foldl (fun e p => e.set p.1 (.sh p.2)) (env.set i (.sh d)))
    exact rel_sets (r.set h1) h2
/-- a target bound -/
theorem bind_ok {F H : Hp} {σ : L2.St} {env env2 : Env} {tg : Tg} {d : D} {v : V} {Q : L2.St → Hp → Prop} {t : Tag} (r : Rel K F H σ env) (h : Is K F d v) (e : bindT tg (t, d) env = some env2)
    (k : ∀ σ2, Rel K F H σ2 env2 → (∀ vs : List Nat, tgIn tg vs = true → wipe σ2 vs = wipe σ vs) → Q σ2 H) : gTg K tg v σ H Q := by
  have ws : ∀ (vs : List Nat) (i : Nat) (x : Option V) (τ : L2.St), i ∈ vs → wipe (τ.set i x) vs = wipe τ vs := fun vs i x τ hi => by
    apply List.ext_getElem?
    intro j
    by_cases hj : j ∈ vs
    · have a1 : ∀ ρ : L2.St, ρ.length = τ.length → (wipe ρ vs)[j]? = if j < τ.length then some none else none := fun ρ hl => wiped ρ τ vs j hj hl
      rw [a1 _ (by rw [List.length_set]), a1 τ rfl]
    · rw [wipe_at hj, wipe_at hj, List.getElem?_set_ne (fun z => hj (by rw [← z]; exact hi))]
  cases tg with
  | nm i =>
    cases t <;> first | cases e | skip
    refine k _ (r.set h) fun vs hv => ws vs i _ σ (by simpa [tgIn] using hv)
  | tp is =>
    cases t <;> first | (cases d <;> cases e) | skip
    cases d with
    | tuple ds =>
      by_cases hl : ds.length = is.length
      · simp only [bindT, if_pos hl] at e
        cases e
        obtain ⟨a, vs, rfl, h1, h2⟩ := is_tuple h
        refine ⟨a, vs, rfl, sqT_mono r.sub h1, by rw [h2.len, hl], gNs_go (by rw [h2.len, hl]) (k _ (rel_sets r h2) fun us hu => ?_)⟩
        have : ∀ (is : List Nat) (ws' : List V) (τ : L2.St), (∀ i ∈ is, i ∈ us) → wipe ((is.zip ws').foldl (fun e p => e.set p.1 (some p.2)) τ) us = wipe τ us := by
          intro is
          induction is with
          | nil => intro ws' τ _; rfl
          | cons i r ih =>
            intro ws' τ hh
            cases ws' with
            | nil => rfl
            | cons v w =>
              show wipe ((r.zip w).foldl (fun e p => e.set p.1 (some p.2)) (τ.set i (some v))) us = _
              rw [ih w _ fun j hj => hh j (List.mem_cons_of_mem _ hj), ws us i _ τ (hh i List.mem_cons_self)]
        exact this is vs σ (by simpa [tgIn] using hu)
      · simp only [bindT, if_neg hl] at e
        cases e
    | _ => cases e
where
  wiped (ρ τ : L2.St) : ∀ (vs : List Nat) (j : Nat), j ∈ vs → ρ.length = τ.length → (wipe ρ vs)[j]? = if j < τ.length then some none else none
    | [], j, h, _ => by simp at h
    | v :: vs, j, h, hl => by
      unfold wipe
      by_cases c : v = j
      · subst c
        by_cases q : v < τ.length
        · rw [if_pos q, List.getElem?_set_self (by rw [wipe_length, hl]; exact q)]
        · rw [if_neg q, List.getElem?_eq_none (by rw [List.length_set, wipe_length, hl]; omega)]
      · rw [List.getElem?_set_ne c]
        exact wiped ρ τ vs j (by rcases List.mem_cons.mp h with z | z; exact absurd z.symm c; exact z) hl
end
end PV

/-! PvExp: every expression that the look takes is read by the reckoning. -/
namespace PV
open PySem PySem.Spec PyProof.Rows L2
def W0 : Str → L2.St → Hp → Prop := fun _ _ _ => False
theorem Ext.mut {F H F' H' : Hp} (e : Ext F H F' H') {p : Addr} {o : HO} (h : H p = none) (f : F' p = none) : Ext F H F' (upd H' p o) := by
  refine ⟨e.f, fun b u q => ?_, fun b u q => ?_, e.n⟩
  · rw [upd_ne (ne_of_none q h)]
    exact e.h _ _ q
  · rw [upd_ne (ne_of_none q f)]
    exact e.s _ _ q
theorem wipe_wipe (σ : L2.St) (vs : List Nat) : wipe (wipe σ vs) vs = wipe σ vs := by
  apply List.ext_getElem?
  intro j
  by_cases hj : j ∈ vs
  · rw [bind_ok.wiped (wipe σ vs) σ vs j hj (wipe_length σ vs), bind_ok.wiped σ σ vs j hj rfl]
  · rw [wipe_at hj]
theorem lim_lt : lim < sizeLine := by
  rw [sizeLine_eq]
  decide
section
variable {K : PySem.W.Frag} {G : Gam}
theorem cpl_cons {f : D → R (Option D)} {d : D} {r s : List D} (h : cpl f (d :: r) = .ok s) : ∃ o t, f d = .ok o ∧ cpl f r = .ok t ∧ s = (match o with | none => t | some x => x :: t) := by
  unfold cpl at h
  cases q : f d with
  | ok o =>
    rw [q] at h
    cases q2 : cpl f r with
    | ok t =>
      rw [q2] at h
      cases o with
      | none => exact ⟨none, t, rfl, rfl, by cases h; rfl⟩
      | some x => exact ⟨some x, t, rfl, rfl, by cases h; rfl⟩
    | exc c => rw [q2] at h; cases h
    | stuck => rw [q2] at h; cases h
  | exc c => rw [q] at h; cases h
  | stuck => rw [q] at h; cases h
theorem Rbind_ok {α β : Type} {r : R α} {f : α → R β} {b : β} (h : r.bind f = .ok b) : ∃ a, r = .ok a ∧ f a = .ok b := by
  cases r with
  | ok a => exact ⟨a, rfl, h⟩
  | exc c => cases h
  | stuck => cases h
theorem shOnly_ok {x : TD} {d : D} (h : shOnly x = .ok d) : (nt x.1 x.2).dm = .sh ∧ d = x.2 := by
  unfold shOnly at h
  split at h
  · rename_i q
    cases h
    exact ⟨q, rfl⟩
  · cases h
theorem treeOf_own {H F' H' : Hp} {v : V} {x : TD} {d : D} (h : Res K H F' H' v x) (s : Same F' H') (e : treeOf x = .ok d) : ∃ fp, (∀ a ∈ fp, H a = none) ∧ Own K F' H' d v fp := by
  obtain ⟨t, c⟩ := x
  have sc : (if scal c then R.ok c else .stuck) = .ok d → ∃ fp, (∀ a ∈ fp, H a = none) ∧ Own K F' H' d v fp := fun z => by
    split at z
    · rename_i k
      cases z
      exact ⟨[], (fun a z => by cases z), own_scal (h.is s) k⟩
    · cases z
  cases t with
  | tr => cases e; exact h
  | ow =>
    cases c with
    | list ds =>
      simp only [treeOf] at e
      split at e
      · rename_i k
        cases e
        obtain ⟨p, rfl, n, f, vs, h1, h2⟩ := h
        refine ⟨[p], fun a ha => ?_, ?_⟩
        · rcases List.mem_cons.mp ha with rfl | ha
          · exact n
          · cases ha
        · simp only [Own]
          exact ⟨p, vs, [], rfl, rfl, (fun z => by cases z), f, h1, ownL_scal h2 k⟩
      · cases e
    | dict kvs =>
      cases kvs with
      | nil =>
        cases e
        obtain ⟨p, rfl, n, f, es, h1, h2⟩ := h
        simp only [IsK] at h2
        subst h2
        refine ⟨[p], fun a ha => ?_, ?_⟩
        · rcases List.mem_cons.mp ha with rfl | ha
          · exact n
          · cases ha
        · simp only [Own]
          exact ⟨p, [], [], rfl, rfl, (fun z => by cases z), f, h1, by simp only [OwnK]; exact ⟨trivial, trivial⟩⟩
      | cons _ _ => exact sc e
    | _ => exact sc e
  | _ => exact sc e
theorem ownL_ext {F H F' H' : Hp} {d : List D} {v : List V} {fp : List Addr} (o : OwnL K F H d v fp) (e : Ext F H F' H') : OwnL K F' H' d v fp := o.keep fun a ha => ⟨e.gone (o.at a ha).1 (o.at a ha).2, e.stay (o.at a ha).2⟩
theorem ownL_len {F H : Hp} : ∀ {ds : List D} {vs : List V} {fp : List Addr}, OwnL K F H ds vs fp → vs.length = ds.length
  | [], _, _, h => by
    simp only [OwnL] at h
    rw [h.1]
    rfl
  | d :: r, _, _, h => by
    simp only [OwnL] at h
    obtain ⟨v, w, f, g, rfl, _, _, _, t⟩ := h
    rw [List.length_cons, List.length_cons, ownL_len t]
/-- a list comprehension -/
theorem lc_readS {W : Str → L2.St → Hp → Prop} {own : List (Str × Nat)} {tg : Tg} {src : Src} {c : Tes} {e : Ex} (hpr : isPr e = false) (hw : tgIn tg (own.map (·.2)) = true) (σ : L2.St) (H : Hp) (Q : VK) (h : tE K W G (.cpr own tg src c e) σ H Q) :
    tLc (tSrc K W G src) (gTg K tg) (tTA K W0 G c) (tE K W0 G e) (own.map (·.2)) σ H Q := by
  obtain ⟨F, env, rel, h⟩ := h
  unfold ev at h
  have hI : ∀ x, itm e x = shOnly x := fun x => by unfold itm; rw [hpr]; rfl
  have hT : cpTag e = .ow := by unfold cpTag; rw [hpr]; rfl
  simp only [hI, hT] at h
  refine ⟨F, env, rel, h.bind.imp fun s F1 H1 hs e1 h1 => ?_⟩
  intro J hJ _ Dl hD
  -- the whole comprehension is reckoned
  generalize hf : (fun d => match bindT tg (nt s.1.kid d, d) (wipeE env (own.map (·.2))) with
        | none => .stuck
        | some env2 => (evTA G c env2).bind fun t => match t with | true => (ev G e env2).bind fun x => (shOnly x).bind fun d => .ok (some d) | false => .ok none : D → R (Option D)) = f at h1
  cases hc : cpl f s.2 with
  | exc z => rw [hc] at h1; exact h1.elim
  | stuck => rw [hc] at h1; exact h1.elim
  | ok r =>
    rw [hc] at h1
    have h2 : Aft F1 H1 (fun c H' => W c σ H') (PV.guard (decide (s.2.length ≤ lim)) (.ok (.ow, .list r))) (fun x F' H' => ∀ v, Res K H F' H' v x → Q v H') := h1
    have hz : s.2.length ≤ lim := by
      by_cases q : s.2.length ≤ lim
      · exact q
      · rw [decide_eq_false q] at h2
        exact h2.elim
    rw [decide_eq_true hz] at h2
    have fin : ∀ F' H', Ext F1 H1 F' H' → ∀ v, Res K H F' H' v (.ow, .list r) → Q v H' := h2
    clear h1 h2
    refine ⟨fun i m H2 => m = s.2.length - i ∧ i ≤ s.2.length ∧ ∃ F2 es acc rest, Ext F1 H1 F2 H2 ∧ F2 Dl = none ∧ H2 Dl = some (.lst acc) ∧ IsL K F2 es acc ∧ es.length ≤ i ∧ cpl f (s.2.drop i) = .ok rest ∧ es ++ rest = r,
      ⟨s.2.length, rfl, Nat.zero_le _, F1, [], [], r, Ext.new0 e1.s hD, e1.s.free hD, upd_same, .nil, Nat.le_refl _, by rw [List.drop_zero]; exact hc, rfl⟩, ?_⟩
    rintro i m H2 ⟨rfl, hi, F2, es, acc, rest, x1, x2, x3, x4, x5, x6, x7⟩
    by_cases hlt : i < s.2.length
    · refine .inr ⟨hJ.go H2 i x1.h hlt, _, fun H' z => ⟨s.2.length - (i + 1), by omega, z⟩, fun x H3 y => ?_⟩
      rw [List.drop_eq_getElem_cons hlt] at x6
      obtain ⟨o, t, y1, y2, y3⟩ := cpl_cons x6
      have hd : s.2[i]? = some s.2[i] := List.getElem?_eq_getElem hlt
      generalize s.2[i] = d at y1 hd
      rw [← hf] at y1
      cases hb : bindT tg (nt s.1.kid d, d) (wipeE env (own.map (·.2))) with
      | none => simp only [hb] at y1; cases y1
      | some env2 =>
        simp only [hb] at y1
        obtain ⟨b, z1, z2⟩ := Rbind_ok y1
        have hsc : Same (hp s.1.kid F1 H1) F2 ∨ scal d = true := by
          rcases kid_cases s.1 with q | q
          · rw [q]
            exact .inl x1.f
          · rw [q] at hb
            unfold nt at hb
            by_cases q2 : scal d = true
            · exact .inr q2
            · rw [if_neg q2] at hb
              cases tg <;> cases d <;> cases hb
        obtain ⟨F3, w1, w2⟩ := hJ.yld F2 H2 i x H3 d x1.h x1.s hd hsc y
        have g3 : F3 Dl = none := w1.gone x2 (by rw [x3]; intro z; cases z)
        have h3 : H3 Dl = some (.lst acc) := w1.h _ _ x3
        have r3 : Rel K F3 H3 σ env := ((rel.ext e1).ext x1).ext w1
        refine bind_ok (r3.wipe _) w2 hb fun σ2 r2 hwp => ⟨by rw [hwp _ hw, wipe_wipe], F3, env2, r2, ?_⟩
        rw [z1]
        intro F4 H4 e4
        have g4 : F4 Dl = none := e4.gone g3 (by rw [h3]; intro z; cases z)
        have h4 : H4 Dl = some (.lst acc) := e4.h _ _ h3
        cases b with
        | false =>
          cases z2
          refine (if_neg Bool.false_ne_true).mpr ⟨rfl, by omega, F4, es, acc, t, (x1.trans w1).trans e4, g4, h4, (x4.mono w1.f).mono e4.f, by omega, y2, ?_⟩
          rw [← x7, y3]
        | true =>
          obtain ⟨x', z3, z4⟩ := Rbind_ok z2
          obtain ⟨dd, z5, z6⟩ := Rbind_ok z4
          cases z6
          obtain ⟨z7, z8⟩ := shOnly_ok z5
          subst z8
          refine (if_pos rfl).mpr ⟨F4, env2, r2.ext e4, ?_⟩
          rw [z3]
          intro F5 H5 e5 v rv
          have g5 : F5 Dl = none := e5.gone g4 (by rw [h4]; intro z; cases z)
          have h5 : H5 Dl = some (.lst acc) := e5.h _ _ h4
          obtain ⟨F6, e6, s6, i6⟩ := res_dm2 e5 (rv.nt e5.s) z7
          have g6 : F6 Dl = none := e6.gone g4 (by rw [h4]; intro z; cases z)
          have la : acc.length = es.length := x4.len
          have ll := lim_lt
          refine ⟨acc, h5, by omega, rfl, by omega, F6, es ++ [x'.2], acc ++ [v], t, (((x1.trans w1).trans e4).trans e6).mut hD g6, g6, upd_same, ?_, by rw [List.length_append, List.length_singleton]; omega, y2, ?_⟩
          · exact ((((x4.mono w1.f).mono e4.f).mono e5.f).mono s6).app (.one i6)
          · rw [← x7, y3, List.append_assoc]
            rfl
    · have e0 : i = s.2.length := by omega
      subst e0
      rw [List.drop_length] at x6
      cases x6
      refine .inl ⟨hJ.stop H2 x1.h, fin F2 H2 x1 _ ⟨Dl, rfl, e1.h.free hD, x2, acc, x3, ?_⟩⟩
      rw [← x7, List.append_nil]
      exact x4
/-- a list comprehension -/
theorem lc_readT {W : Str → L2.St → Hp → Prop} {own : List (Str × Nat)} {tg : Tg} {src : Src} {c : Tes} {e : Ex} (hpr : isPr e = true) (hw : tgIn tg (own.map (·.2)) = true) (σ : L2.St) (H : Hp) (Q : VK) (h : tE K W G (.cpr own tg src c e) σ H Q) :
    tLc (tSrc K W G src) (gTg K tg) (tTA K W0 G c) (tE K W0 G e) (own.map (·.2)) σ H Q := by
  obtain ⟨F, env, rel, h⟩ := h
  unfold ev at h
  have hI : ∀ x, itm e x = treeOf x := fun x => by unfold itm; rw [hpr]; rfl
  have hT : cpTag e = .tr := by unfold cpTag; rw [hpr]; rfl
  simp only [hI, hT] at h
  refine ⟨F, env, rel, h.bind.imp fun s F1 H1 hs e1 h1 => ?_⟩
  intro J hJ _ Dl hD
  -- the whole comprehension is reckoned
  generalize hf : (fun d => match bindT tg (nt s.1.kid d, d) (wipeE env (own.map (·.2))) with
        | none => .stuck
        | some env2 => (evTA G c env2).bind fun t => match t with | true => (ev G e env2).bind fun x => (treeOf x).bind fun d => .ok (some d) | false => .ok none : D → R (Option D)) = f at h1
  cases hc : cpl f s.2 with
  | exc z => rw [hc] at h1; exact h1.elim
  | stuck => rw [hc] at h1; exact h1.elim
  | ok r =>
    rw [hc] at h1
    have h2 : Aft F1 H1 (fun c H' => W c σ H') (PV.guard (decide (s.2.length ≤ lim)) (.ok (.tr, .list r))) (fun x F' H' => ∀ v, Res K H F' H' v x → Q v H') := h1
    have hz : s.2.length ≤ lim := by
      by_cases q : s.2.length ≤ lim
      · exact q
      · rw [decide_eq_false q] at h2
        exact h2.elim
    rw [decide_eq_true hz] at h2
    have fin : ∀ F' H', Ext F1 H1 F' H' → ∀ v, Res K H F' H' v (.tr, .list r) → Q v H' := h2
    clear h1 h2
    refine ⟨fun i m H2 => m = s.2.length - i ∧ i ≤ s.2.length ∧ ∃ F2 es acc rest fq, Ext F1 H1 F2 H2 ∧ F2 Dl = none ∧ H2 Dl = some (.lst acc) ∧ (OwnL K F2 H2 es acc fq ∧ Dl ∉ fq ∧ ∀ a ∈ fq, H1 a = none) ∧ es.length ≤ i ∧ cpl f (s.2.drop i) = .ok rest ∧ es ++ rest = r,
      ⟨s.2.length, rfl, Nat.zero_le _, F1, [], [], r, [], Ext.new0 e1.s hD, e1.s.free hD, upd_same, ⟨by simp only [OwnL]; exact ⟨trivial, trivial⟩, (fun z => by cases z), fun a z => by cases z⟩, Nat.le_refl _, by rw [List.drop_zero]; exact hc, rfl⟩, ?_⟩
    rintro i m H2 ⟨rfl, hi, F2, es, acc, rest, fq, x1, x2, x3, ⟨x4, x4b, x4c⟩, x5, x6, x7⟩
    by_cases hlt : i < s.2.length
    · refine .inr ⟨hJ.go H2 i x1.h hlt, _, fun H' z => ⟨s.2.length - (i + 1), by omega, z⟩, fun x H3 y => ?_⟩
      rw [List.drop_eq_getElem_cons hlt] at x6
      obtain ⟨o, t, y1, y2, y3⟩ := cpl_cons x6
      have hd : s.2[i]? = some s.2[i] := List.getElem?_eq_getElem hlt
      generalize s.2[i] = d at y1 hd
      rw [← hf] at y1
      cases hb : bindT tg (nt s.1.kid d, d) (wipeE env (own.map (·.2))) with
      | none => simp only [hb] at y1; cases y1
      | some env2 =>
        simp only [hb] at y1
        obtain ⟨b, z1, z2⟩ := Rbind_ok y1
        have hsc : Same (hp s.1.kid F1 H1) F2 ∨ scal d = true := by
          rcases kid_cases s.1 with q | q
          · rw [q]
            exact .inl x1.f
          · rw [q] at hb
            unfold nt at hb
            by_cases q2 : scal d = true
            · exact .inr q2
            · rw [if_neg q2] at hb
              cases tg <;> cases d <;> cases hb
        obtain ⟨F3, w1, w2⟩ := hJ.yld F2 H2 i x H3 d x1.h x1.s hd hsc y
        have g3 : F3 Dl = none := w1.gone x2 (by rw [x3]; intro z; cases z)
        have h3 : H3 Dl = some (.lst acc) := w1.h _ _ x3
        have r3 : Rel K F3 H3 σ env := ((rel.ext e1).ext x1).ext w1
        refine bind_ok (r3.wipe _) w2 hb fun σ2 r2 hwp => ⟨by rw [hwp _ hw, wipe_wipe], F3, env2, r2, ?_⟩
        rw [z1]
        intro F4 H4 e4
        have g4 : F4 Dl = none := e4.gone g3 (by rw [h3]; intro z; cases z)
        have h4 : H4 Dl = some (.lst acc) := e4.h _ _ h3
        cases b with
        | false =>
          cases z2
          refine (if_neg Bool.false_ne_true).mpr ⟨rfl, by omega, F4, es, acc, t, fq, (x1.trans w1).trans e4, g4, h4, ⟨ownL_ext (ownL_ext x4 w1) e4, x4b, x4c⟩, by omega, y2, ?_⟩
          rw [← x7, y3]
        | true =>
          obtain ⟨x', z3, z4⟩ := Rbind_ok z2
          obtain ⟨dd, z5, z6⟩ := Rbind_ok z4
          cases z6
          refine (if_pos rfl).mpr ⟨F4, env2, r2.ext e4, ?_⟩
          rw [z3]
          intro F5 H5 e5 v rv
          have g5 : F5 Dl = none := e5.gone g4 (by rw [h4]; intro z; cases z)
          have h5 : H5 Dl = some (.lst acc) := e5.h _ _ h4
          obtain ⟨fp, nn, oo⟩ := treeOf_own rv e5.s z5
          have la : acc.length = es.length := ownL_len x4
          have ll := lim_lt
          have nd : Dl ∉ fp := fun z => by have := nn Dl z; rw [h4] at this; cases this
          have x5' := ownL_ext (ownL_ext (ownL_ext x4 w1) e4) e5
          have dj : ∀ a ∈ fq, a ∉ fp := fun a ha z => ((ownL_ext (ownL_ext x4 w1) e4).at a ha).2 (nn a z)
          have ku : ∀ a ∈ fq, F5 a = none ∧ upd H5 Dl (.lst (acc ++ [v])) a = H5 a := fun a ha => ⟨(x5'.at a ha).1, upd_ne fun z => x4b (by rw [← z]; exact ha)⟩
          have kv : ∀ a ∈ fp, F5 a = none ∧ upd H5 Dl (.lst (acc ++ [v])) a = H5 a := fun a ha => ⟨(oo.at a ha).1, upd_ne fun z => nd (by rw [← z]; exact ha)⟩
          refine ⟨acc, h5, by omega, rfl, by omega, F5, es ++ [dd], acc ++ [v], t, fq ++ fp, (((x1.trans w1).trans e4).trans e5).mut hD g5, g5, upd_same, ⟨OwnL.app (.one (oo.keep kv)) (x5'.keep ku) dj, ?_, ?_⟩, by rw [List.length_append, List.length_singleton]; omega, y2, ?_⟩
          · intro z
            rcases List.mem_append.mp z with z | z
            · exact x4b z
            · exact nd z
          · intro a ha
            rcases List.mem_append.mp ha with z | z
            · exact x4c a z
            · exact ((x1.trans w1).trans e4).h.free (nn a z)
          · rw [← x7, y3, List.append_assoc]
            rfl
    · have e0 : i = s.2.length := by omega
      subst e0
      rw [List.drop_length] at x6
      cases x6
      refine .inl ⟨hJ.stop H2 x1.h, fin F2 H2 x1 _ ⟨Dl :: fq, ?_, ?_⟩⟩
      · intro a ha
        rcases List.mem_cons.mp ha with rfl | ha
        · exact e1.h.free hD
        · exact e1.h.free (x4c a ha)
      · simp only [Own]
        exact ⟨Dl, acc, fq, rfl, rfl, x4b, x2, x3, by rw [← x7, List.append_nil]; exact x4⟩
theorem lc_read {W : Str → L2.St → Hp → Prop} {own : List (Str × Nat)} {tg : Tg} {src : Src} {c : Tes} {e : Ex} (hw : tgIn tg (own.map (·.2)) = true) (σ : L2.St) (H : Hp) (Q : VK) (h : tE K W G (.cpr own tg src c e) σ H Q) :
    tLc (tSrc K W G src) (gTg K tg) (tTA K W0 G c) (tE K W0 G e) (own.map (·.2)) σ H Q := by
  cases hp : isPr e with
  | true => exact lc_readT hp hw σ H Q h
  | false => exact lc_readS hp hw σ H Q h
end

section
variable {cref : Str → Value} {n : Nat} {G : Gam} {bs cs N : List Str}
theorem Fit.nm {X : Cx} {W : Str → L2.St → Hp → Prop} {sc : Scope} (f : Fit X W cref n G bs cs N sc) {i : Nat} {x : Str} (h : N[i]? = some x) (v : visB sc x = true) (d : nmB x = true) {pos : Pos} : PE X (.Name x pos) (tVar i) :=
  pe_var (by rw [f.hN]; exact h) (by rw [f.hsc]; exact vis_of v) (nm_of d).1 (nm_of d).2
theorem Fit.blk {X : Cx} {W : Str → L2.St → Hp → Prop} {sc : Scope} (f : Fit X W cref n G bs cs N sc) (s : Shared) (H : Hp) (scope : Scope) (cl : List (Str × Addr)) (C : Addr) (fp : List Addr) :
    Fit (X.blk s H scope (compEnvC scope cl C X.env) fp) W0 cref n G bs cs N (relS scope sc) where
  gc := f.gc
  hN := f.hN
  nd := f.nd
  hsc := by
    rw [← f.hsc]
    rfl
  calm := f.calm
  un := f.un
  rm := f.rm
  rp := f.rp
  gd := f.gd
  tk := takes0.imp fun c d σ H q => by
    obtain ⟨_, c, _, z⟩ := q
    exact z
theorem nofold {e : Expr} {env : PySem.Env} (h : noSet e = true) (x : Value) : foldedSetIterable e env x = pure x := by
  cases e <;> first | rfl | cases h
theorem Bi.rule {X : Cx} {W : Str → L2.St → Hp → Prop} {sc : Scope} (f : Fit X W cref n G bs cs N sc) (b : Bi) {p pos : Pos} {e : Expr} {es : List Expr} {t : TA} (hg : Gl X b.name) (hm : X.mg b.name = none) (hb : b.name ∈ bs) (hq : (b.calm || decide (("range" : Str) ∈ bs)) = true) (ha : PA X (e :: es) t) (hs : (e :: es).all noStar = true) :
    PE X (.Call (.Name b.name p) (e :: es) [] pos) (tCB (rBi X.K b) t) := by
  simp only [List.all_cons, Bool.and_eq_true] at hs
  have h1 := star_cons (es := es) (env := X.env) hs.1
  have h2 := star_any (env := X.env) (pos := pos) hs.2
  cases b with
  | len => exact pe_callB bi_len hg hm boot_len ha (by decide) (by decide) h1 h2
  | abs => exact pe_callB bi_abs hg hm boot_abs ha (by decide) (by decide) h1 h2
  | min => exact pe_callB (bi_min (f.calm (by simpa [Bi.calm] using hq))) hg hm boot_min ha (by decide) (by decide) h1 h2
  | max => exact pe_callB (bi_max (f.calm (by simpa [Bi.calm] using hq))) hg hm boot_max ha (by decide) (by decide) h1 h2
  | int => exact pe_callTy bi_int hg hm PyProof.Rows.boot_int ha (by decide) (by decide) h1 h2
  | list => exact pe_callTy bi_list hg hm PyProof.Rows.boot_list ha (by decide) (by decide) h1 h2
  | tuple => exact pe_callTy bi_tuple hg hm PyProof.Rows.boot_tuple ha (by decide) (by decide) h1 h2
  | sum => exact pe_callB (bi_sum (f.calm (by simpa [Bi.calm] using hq))) hg hm boot_sum ha (by decide) (by decide) h1 h2
  | any => exact pe_callB (bi_any (f.calm (by simpa [Bi.calm] using hq))) hg hm boot_any ha (by decide) (by decide) h1 h2
  | all => exact pe_callB (bi_all (f.calm (by simpa [Bi.calm] using hq))) hg hm boot_all ha (by decide) (by decide) h1 h2
  | sorted => exact pe_callB (bi_sorted (f.rm (.inr hb)).1) hg hm boot_sorted ha (by decide) (by decide) h1 h2
  | repr => exact pe_callB (bi_repr (f.rp hb) f.gd) hg hm boot_repr ha (by decide) (by decide) h1 h2
  | str => exact pe_callTy bi_str hg hm PyProof.Rows.boot_str ha (by decide) (by decide) h1 h2

/-! ### isinstance -/
theorem tyx_list {K : PySem.W.Frag} {H : Hp} {a : Addr} {vs : List V} (h : LL K H a vs) : TyX K H (.ref a) (.type "list") := by
  rcases h with (h | ⟨o, h⟩) | ⟨its, n, h, _⟩
  · exact .base (.lst h)
  · exact .base (.frz h)
  · exact .kList h rfl
theorem tyx_tuple {K : PySem.W.Frag} {H : Hp} {a : Addr} {vs : List V} (h : SqT K H a vs) : TyX K H (.ref a) (.type "tuple") := by
  rcases h with (h | ⟨o, h⟩) | ⟨o, its, n, h, c, _⟩
  · exact .base (.tup h)
  · exact .fTuple h
  · exact .kTuple h c
def tyName : D → String | .none => "NoneType" | .bool _ => "bool" | .int _ => "int" | .str _ => "str" | .list _ => "list" | .tuple _ => "tuple" | .dict _ => "dict"
theorem tyx_of {K : PySem.W.Frag} {H : Hp} {d : D} {v : V} (h : Is K H d v) (hd : ∀ kvs, d ≠ .dict kvs) : TyX K H v (.type (tyName d)) := by
  cases d with
  | none => rw [is_none h]; exact .base .non
  | bool b => rw [is_bool h]; exact .base (.bl b)
  | int i => rw [is_int h]; exact .base (.int i)
  | str s => rw [is_str h]; exact .base (.str s)
  | list ds => obtain ⟨a, vs, rfl, q, _⟩ := is_list h; exact tyx_list q
  | tuple ds => obtain ⟨a, vs, rfl, q, _⟩ := is_tuple h; exact tyx_tuple q
  | dict kvs => exact absurd rfl (hd kvs)
theorem kit_all {K : PySem.W.Frag} {t : Ty} {d : D} {b : Bool} (h : isT t d = some b) : PySem.W.kitOne K (.type (tyName d)) (.type t.name) = some b ∧ ∀ kvs, d ≠ .dict kvs := by
  cases t <;> cases d <;> first | (cases h; dsimp only [tyName, Ty.name]; exact ⟨kit_ty (by decide +kernel), fun _ z => by cases z⟩) | (cases h; done)
theorem ty_boot (t : Ty) : bootBuiltins (Str.ofString t.name) = some (.type t.name) := by
  cases t <;> decide +kernel
theorem ty_nm (t : Ty) : (Str.ofString t.name) ≠ "__name__" ∧ ((Str.ofString t.name) == ("__debug__" : Str)) = false := by
  cases t <;> decide +kernel
def rIs (K : PySem.W.Frag) (t : Ty) : List V → Hp → VK → Prop := fun vs H Q => ∃ v d b, vs = [v, .ty t.name] ∧ Is K H d v ∧ isT t d = some b ∧ Q (.bl b) H
theorem bi_isi {X : Cx} (t : Ty) : CallR X (.builtin "isinstance") (rIs X.K t) := by
  refine CallR.imp call_isi fun vs H Q h => ?_
  obtain ⟨v, d, b, rfl, h1, h2, q⟩ := h
  obtain ⟨k1, k2⟩ := kit_all (K := X.K) h2
  exact ⟨v, .ty t.name, _, _, b, rfl, .ty _, tyx_of h1 k2, k1, q⟩
end
end PV

/-! PvRev: list(reversed(a list)): a new list -/
namespace PV
open PySem PySem.Spec PyProof.Rows L2
section
variable {prog : Program} {w : World} {A : Around} {E : Value → Shared → Prop} {s : Shared}
/-- the list at S, empty, takes the items of the walker at it -/
theorem rev_extend {R : Result → Shared → Prop} {it l S : Addr} {items : Array Value} {c₀ : Nat} (hh : A.handled = none) (hit : s.heap.IsRevIter it l ((items.size : Int) - 1)) (hl : s.heap.IsList l items) (hne : l ≠ it) (hn : items.size ≤ sizeLine)
    (hSi : S ≠ it) (hSl : S ≠ l) (res : Value) (hS : s.heap.get? S = some { cls := .type "list", data := .seq #[] c₀ })
    (hR : ∀ h' tk acc' c', (∀ b o, b ≠ S → b ≠ it → s.heap.get? b = some o → h'.get? b = some o) → h'.get? S = some { cls := .type "list", dict := none, data := .seq acc' c', slots := #[] } → ItemsOf (fun i v => items[items.size - 1 - i]? = some v) acc' items.size → R (.ok (.ret res)) { s with heap := h', toks := tk }) :
    wpAny (model prog w) A.in1 (Builtin.List.listExtendWith (.ref S) (.ref it) res)
      (fun fin s' => match fin with | .done f => R (.ok f) s' | .again c' => c'.quiet = true ∧ codeAny (model prog w) A c' R s') (fun e s' => R (.error e) s') s := by
  have W := (Walks.listRev (prog := prog) (w := w) (A := A.in1) hh it l hne items).toS
  have hSf : S ∉ [it, l] := by simp only [List.mem_cons, List.not_mem_nil, or_false, not_or]; exact ⟨hSi, hSl⟩
  have hT : s.TypeIs (.ref it) "list_reverseiterator" := hit.typeIs
  have h1 : Builtin.List.listSameRef (.ref S) (.ref it) = false := by simp [Builtin.List.listSameRef, hSi]
  have e0 : ((items.size : Nat) : Int) - 1 - ((0 : Nat) : Int) = (items.size : Int) - 1 := by omega
  unfold Builtin.List.listExtendWith
  refine wpAny_bind (wpAny_typeOf hT ?_)
  rw [if_neg (by rw [h1]; decide)]
  refine wpAny_bind (wpAny_pyIter_revIter hit ?_)
  refine wpAny_bind (wpAny_holding ?_)
  unfold Builtin.List.listLengthHint
  refine wpAny_bind (wpAny_specialOf hT RT.nolen_lri ?_)
  show wpAny _ A.in1 (specialOf (Value.ref it) (Str.ofString "__length_hint__") >>= _) _ _ _
  refine wpAny_bind (wpAny_specialOf hT RT.hint_lri ?_)
  generalize hid : ("list_reverseiterator.__length_hint__" : String) = id0
  wp_delta
  rw [show splitId id0 = some ("list_reverseiterator", "__length_hint__") from by subst hid; decide +kernel]
  subst hid
  refine wpAny_bind (wpAny_isInstance (b := true) hT (by rw [isSubtype_type]; kernel_rfl) ?_)
  refine wpAny_pure ?_
  rw [if_neg (by decide)]
  refine wpAny_pure ⟨plainId_quiet PySem.F.plain_extend_loop _, codeAny_extend_loopS W hn S hSf res items.size 0 _ _ _ rfl (Nat.zero_le _) ⟨Nat.zero_le _, by rw [e0]; exact hit, hl⟩ hS (ItemsOf.nil _) fun s' acc' c' hm hS' hacc => ?_⟩
  rw [Moved.eq_with hm]
  refine hR s'.heap s'.toks acc' c' (fun b o hb hb2 e => hm.heap b o (fun hmem => ?_) e) hS' hacc
  rcases List.mem_cons.mp hmem with e' | hmem
  · exact hb e'
  · exact hb2 (List.mem_singleton.mp hmem)
theorem rev_call {it l : Addr} {items : Array Value} {Q : Value → Shared → Prop} (hh : A.handled = none) (hit : s.heap.IsRevIter it l ((items.size : Int) - 1)) (hl : s.heap.IsList l items) (hne : l ≠ it) (hn : items.size ≤ sizeLine)
    (hQ : ∀ h' tk acc' c', (∀ b o, b ≠ it → s.heap.get? b = some o → h'.get? b = some o) → h'.get? s.heap.objs.size = some { cls := .type "list", dict := none, data := .seq acc' c', slots := #[] } → ItemsOf (fun i v => items[items.size - 1 - i]? = some v) acc' items.size → Q (.ref s.heap.objs.size) { s with heap := h', toks := tk }) :
    wpAny (model prog w) A (call (.type "list") [.ref it]) Q E s := by
  refine callType_codes (Q₁ := fun obj s₁ => obj = .ref s.heap.objs.size ∧ s₁ = { s with heap := s.heap.push { cls := .type "list", data := .seq #[] } }) PySem.F.called_list (PySem.F.typeCall_list_1 _) PySem.F.entry_list_init
    (code_list_new _ ⟨rfl, rfl⟩) fun obj s₁ h₁ => ?_
  obtain ⟨rfl, rfl⟩ := h₁
  have hS : (s.heap.push { cls := .type "list", data := .seq #[] }).get? s.heap.objs.size = some { cls := .type "list", data := .seq #[] } := Heap.get?_push_size _ rfl
  obtain ⟨oi, hoi, _⟩ := id hit
  obtain ⟨ol, hol, _⟩ := id hl
  have n1 : s.heap.objs.size ≠ it := Nat.ne_of_gt (Heap.lt_size hoi)
  have n2 : s.heap.objs.size ≠ l := Nat.ne_of_gt (Heap.lt_size hol)
  refine ⟨⟨_, hS, rfl⟩, PySem.F.args_list_init_2 _ _, ?_⟩
  show wpAny _ _ (do let old ← Builtin.List.listItems (.ref s.heap.objs.size); Builtin.List.listUpdate (.ref s.heap.objs.size) (fun _ => #[]); letGo old.toList.reverse; Builtin.List.listExtendWith (.ref s.heap.objs.size) (.ref it) .none) _ _ _
  refine wpAny_bind ?_
  unfold Builtin.List.listItems
  refine wpAny_bind (wpAny_seqItems hS rfl (wpAny_pure ?_))
  show wpAny _ _ (updateSeq s.heap.objs.size (fun _ => #[]) >>= fun _ => letGo (#[] : Array Value).toList.reverse >>= fun _ => Builtin.List.listExtendWith (.ref s.heap.objs.size) (.ref it) .none) _ _ _
  refine wpAny_bind (wpAny_updateSeq hS rfl ?_)
  have hS₂ := Heap.get?_update_self (Obj.mapSeq (fun _ => (#[] : Array Value))) hS rfl
  have oth : ∀ b o, b ≠ s.heap.objs.size → s.heap.get? b = some o → ((s.heap.push { cls := .type "list", data := .seq #[] }).update s.heap.objs.size (Obj.mapSeq (fun _ => (#[] : Array Value)))).get? b = some o :=
    fun b o hb e => (Heap.get?_update_other _ _ (Ne.symm hb)).trans (Heap.get?_push_of_some _ e)
  refine wpAny_bind (wpAny_letGo ?_)
  refine rev_extend (A := A.in1) (s := { s with heap := (s.heap.push { cls := .type "list", data := .seq #[] }).update s.heap.objs.size (Obj.mapSeq (fun _ => (#[] : Array Value))) }) hh (hit.at fun o e => oth it o n1.symm e) (hl.at fun o e => oth l o n2.symm e) hne hn n1 n2 .none hS₂ fun h' tk acc' c' hk hS' hacc => ?_
  exact ⟨rfl, hQ h' tk acc' c' (fun b o hb e => hk b o (Nat.ne_of_lt (Heap.lt_size e)) hb (oth b o (Nat.ne_of_lt (Heap.lt_size e)) e)) hS' hacc⟩
end
/-- list(reversed(x)), x a list: a new list -/
def tLstRev (K : PySem.W.Frag) (te : TE) : TE := fun σ H Q => te σ H fun v H1 => ∃ (a : Addr) (xs : List V), v = .ref a ∧ SqL K H1 a xs ∧ ∀ q, H1 q = none → Q (.ref q) (upd H1 q (.lst xs.reverse))
theorem pe_listRev {X : Cx} {e : Expr} {te : TE} {p p2 pos pos2 : Pos} (hc : X.calm = true) (hg : Gl X "list") (hm : X.mg "list" = none) (hg2 : Gl X "reversed") (hm2 : X.mg "reversed" = none) (he : PE X e te)
    (hs : starEach [e] X.env = (false, eval e X.env) :: starEach [] X.env := by rfl)
    (hs2 : starEach [.Call (.Name "reversed" p2) [e] [] pos2] X.env = (false, eval (.Call (.Name "reversed" p2) [e] [] pos2) X.env) :: starEach [] X.env := by rfl) :
    PE X (.Call (.Name "list" p) [.Call (.Name "reversed" p2) [e] [] pos2] [] pos) (tLstRev X.K te) := by
  refine ⟨fun pins s σ H Q I h => ?_⟩
  refine Call_ (ld_blt I hg hm boot_list (PyProof.Rows.callWith_type1 (args_cons (Call_ (ld_blt I hg2 hm2 PyProof.Rows.boot_reversed (PyProof.Rows.callWith_type1 (args_cons (thn (he.run pins s σ H _ I h) fun u s1 ⟨v, H1, I1, r1, q1⟩ => args_nil ?_) hs) hs rfl))) hs2) hs2 rfl))
  obtain ⟨a, xs, ev, hq, q⟩ := q1
  subst ev
  obtain rfl : u = Value.ref a := r1
  obtain ⟨its, rv, p', hz⟩ := I1.list hq
  refine call_reversed_list p'.isList (args_nil ?_)
  have k0 : ∀ b o, s1.heap.get? b = some o → (s1.heap.push (revObj a ((its.toArray.size : Int) - 1))).get? b = some o := fun b o e => Heap.get?_push_of_some _ e
  have I2 : Inv X pins σ H1 { s1 with heap := s1.heap.push (revObj a ((its.toArray.size : Int) - 1)) } := I1.kept (t' := s1.toks) k0
  obtain ⟨ol, hol, _⟩ := id p'.isList
  have hne : a ≠ s1.heap.objs.size := Nat.ne_of_lt (Heap.lt_size hol)
  have hn : its.toArray.size ≤ sizeLine := by rw [List.size_toArray, ← rv.length]; exact hz
  refine rev_call (s := { s1 with heap := s1.heap.push (revObj a ((its.toArray.size : Int) - 1)) }) (I1.ok.hd hc) ⟨_, Heap.get?_push_size _ rfl, rfl, rfl⟩ (p'.isList.push _) hne hn fun h' tk acc c' hk e' hi => ?_
  have hk1 : ∀ b o, s1.heap.get? b = some o → h'.get? b = some o := fun b o e => hk b o (Nat.ne_of_lt (Heap.lt_size e)) (k0 b o e)
  refine ⟨.ref _, upd H1 (s1.heap.push (revObj a ((its.toArray.size : Int) - 1))).objs.size (.lst xs.reverse), I1.laid (t' := tk) hk1 ?_ (show ObjOk X.prog X.w _ _ _ (.lst xs.reverse) from ⟨by rw [List.length_reverse]; exact hz, acc.toList, c', RT.vals_rev rv hi, ?_⟩), rfl, q _ (I2.hok.fresh (Nat.le_refl _))⟩
  · simp [Heap.push]
  · rw [Array.toArray_toList]; exact e'
end PV

/-! PvAll: the look is right: expressions, argument lists, tests, sources at once. -/
namespace PV
open PySem PySem.Spec PyProof.Rows L2

section
variable {K : PySem.W.Frag} {G : Gam} {W : Str → L2.St → Hp → Prop}
theorem Aft.ok {α : Type} {F H : Hp} {W : Str → Hp → Prop} {a : α} {P : α → Hp → Hp → Prop} (s : Same F H) (h : Aft F H W (.ok a) P) : P a F H := h F H (Ext.refl s)
/-- an answer without a new object -/
theorem Aft.one {F H : Hp} {W : Str → Hp → Prop} {r : R TD} {Q : VK} (s : Same F H) (h : Aft F H W r fun x F' H' => ∀ v, Res K H F' H' v x → Q v H') (ne : ∀ c, r ≠ .exc c) : Give K F H r Q := by
  cases r with
  | ok x => exact fun v F' H' e q => h F' H' e v q
  | exc c => exact absurd rfl (ne c)
  | stuck => exact h
theorem guard_exc {b : Bool} {r : R TD} (h : ∀ c, r ≠ .exc c) : ∀ c, PV.guard b r ≠ .exc c := fun c => by
  cases b with
  | true => exact h c
  | false => intro z; cases z
theorem ok_exc {x : TD} : ∀ c, (R.ok x : R TD) ≠ .exc c := fun c z => by cases z
theorem evBin_exc (o : Bop) (a b : TD) : ∀ c, evBin o a b ≠ .exc c := by
  obtain ⟨s, a⟩ := a
  obtain ⟨t, b⟩ := b
  cases o <;> cases a <;> cases b <;> first | exact guard_exc ok_exc | exact ok_exc | (intro c z; cases z)
theorem evIx_exc (a : TD) (b : D) : ∀ c, evIx a b ≠ .exc c := by
  intro c
  unfold evIx
  split
  · split <;> (intro z; cases z)
  · split <;> (intro z; cases z)
  · refine guard_exc (fun c => ?_) c
    split <;> (intro z; cases z)
  · intro z
    cases z
theorem evSl_exc (a : TD) (l h : Option Int) : ∀ c, evSl a l h ≠ .exc c := by
  obtain ⟨s, a⟩ := a
  intro c
  cases a <;> first | exact guard_exc ok_exc c | (intro z; cases z)
theorem evJoin_exc (a : Str) (b : D) : ∀ c, evJoin a b ≠ .exc c := by
  intro c
  unfold evJoin
  split
  · split
    · exact guard_exc ok_exc c
    · intro z; cases z
  · intro z; cases z
theorem evNeg_exc (a : D) : ∀ c, evNeg a ≠ .exc c := by
  intro c
  cases a <;> (intro z; cases z)
theorem evBi_exc (b : Bi) (l : List TD) : ∀ c, evBi b l ≠ .exc c := by
  intro c
  unfold evBi
  split <;> first | exact guard_exc ok_exc c | exact ok_exc c | (split <;> first | exact ok_exc c | (intro z; cases z)) | (intro z; cases z)
theorem gB_exc {a b : Bool} : ∀ c, gB a b ≠ .exc c := fun c => by
  unfold gB
  split <;> (intro z; cases z)
theorem evEq_exc (a b : D) : ∀ c, evEq a b ≠ .exc c := by
  intro c
  rcases evEq_cases a b with ⟨u, v, rfl, rfl, z⟩ | ⟨u, v, rfl, rfl, z⟩ | z
  · rw [z]; intro h; cases h
  · rw [z]; split <;> (intro h; cases h)
  · rw [z]; exact gB_exc c
theorem evNe_exc (a b : D) : ∀ c, evNe a b ≠ .exc c := by
  intro c
  rcases evNe_cases a b with ⟨u, v, rfl, rfl, z⟩ | ⟨u, v, rfl, rfl, z⟩ | z
  · rw [z]; intro h; cases h
  · rw [z]; split <;> (intro h; cases h)
  · rw [z]; exact gB_exc c
theorem evCmp_exc (o : Cop) (a b : D) : ∀ c, evCmp o a b ≠ .exc c := by
  intro c
  unfold evCmp
  split <;> first | exact evEq_exc _ _ c | exact evNe_exc _ _ c | exact gB_exc c | (intro z; cases z)
theorem isBool_ok {d : D} {F H : Hp} {W : Str → Hp → Prop} {α : Type} {f : Bool → R α} {P : α → Hp → Hp → Prop} (h : Aft F H W ((isBool d).bind f) P) : ∃ b, d = .bool b ∧ Aft F H W (f b) P := by
  cases d with
  | bool b => exact ⟨b, rfl, h⟩
  | _ => exact h.elim
theorem isInt_ok {d : D} {F H : Hp} {W : Str → Hp → Prop} {α : Type} {f : Int → R α} {P : α → Hp → Hp → Prop} (h : Aft F H W ((isInt d).bind f) P) : ∃ b, d = .int b ∧ Aft F H W (f b) P := by
  cases d with
  | int b => exact ⟨b, rfl, h⟩
  | _ => exact h.elim
theorem evCmp_ok {o : Cop} {a b : D} {F H : Hp} {W : Str → Hp → Prop} {α : Type} {f : Bool → R α} {P : α → Hp → Hp → Prop} (h : Aft F H W ((evCmp o a b).bind f) P) : ∃ c, evCmp o a b = .ok c ∧ Aft F H W (f c) P := by
  cases q : evCmp o a b with
  | ok c =>
    rw [q] at h
    exact ⟨c, rfl, h⟩
  | exc c => exact absurd q (evCmp_exc o a b c)
  | stuck =>
    rw [q] at h
    exact h.elim
theorem jnL_cases (l : List TD) : jnL l = .sh ∨ jnL l = .pk := by
  cases l with
  | nil => exact .inl rfl
  | cons x r => exact jn_cases _ _
/-- a display of such items -/
theorem disp {F H F' H' : Hp} {l : List TD} {vs : List V} {Q : VK} (e : Ext F H F' H') (h : ResL K H F' H' vs l) : (∀ g : ∀ F2 H2, Ext F H F2 H2 → ∀ v, Res K H F2 H2 v (jnL l, .tuple (l.map (·.2))) → Q v H2, ∀ p, H' p = none → Q (.ref p) (upd H' p (.tup vs))) ∧
    (∀ g : ∀ F2 H2, Ext F H F2 H2 → ∀ v, Res K H F2 H2 v ((jnL l).root, .list (l.map (·.2))) → Q v H2, ∀ p, H' p = none → Q (.ref p) (upd H' p (.lst vs))) := by
  rcases jnL_cases l with j | j
  · obtain ⟨F2, e2, s2, q⟩ := h.dm j e (Same.refl _)
    refine ⟨fun g p np => ?_, fun g p np => ?_⟩
    · rw [j] at g
      refine g (upd F2 p (.tup vs)) _ (e2.trans (Ext.new e2.s np)) _ ?_
      show Is K (upd F2 p (.tup vs)) (.tuple (l.map (·.2))) (.ref p)
      simp only [Is]
      exact ⟨p, vs, rfl, SqT.of upd_same, q.mono (same_upd (e2.s.free np))⟩
    · rw [j] at g
      exact g F2 _ (e2.trans (Ext.new0 e2.s np)) _ ⟨p, rfl, e2.h.free np, e2.s.free np, vs, upd_same, q⟩
  · refine ⟨fun g p np => ?_, fun g p np => ?_⟩
    · rw [j] at g
      refine g F' _ (e.trans (Ext.new0 e.s np)) _ ?_
      show Is K (upd H' p (.tup vs)) (.tuple (l.map (·.2))) (.ref p)
      simp only [Is]
      exact ⟨p, vs, rfl, SqT.of upd_same, (h.is e.s).mono (same_upd np)⟩
    · rw [j] at g
      refine g F' _ (e.trans (Ext.new0 e.s np)) _ ?_
      show Is K (upd H' p (.lst vs)) (.list (l.map (·.2))) (.ref p)
      simp only [Is]
      exact ⟨p, vs, rfl, .of upd_same, (h.is e.s).mono (same_upd np)⟩
/-- behind a call: what the callee's promise gives -/
theorem called {F H F' H' : Hp} {l : List TD} {vs : List V} {Q : VK} {cref : Str → Value} {k : Nat} {g : List D → R TD} {σ : L2.St} (e : Ext F H F' H') (h : ResL K H F' H' vs l) (hk : vs.length = k)
    (q : Aft F H (fun c H2 => W c σ H2) ((g (l.map (·.2))).bind fun r => .ok (callTag (jnL l) r.1 r.2, r.2)) fun x F2 H2 => ∀ v, Res K H F2 H2 v x → Q v H2) : spD K cref k g vs H' Q (WE (wx cref W) σ) := by
  refine ⟨hk, ?_⟩
  rcases jnL_cases l with j | j
  · obtain ⟨F2, e2, s2, q2⟩ := h.dm j e (Same.refl _)
    refine ⟨F2, l.map (·.2), e2.s, q2, ?_⟩
    cases hg : g (l.map (·.2)) with
    | ok r =>
      obtain ⟨o, d⟩ := r
      rw [hg] at q
      intro v F3 H3 e4 rv
      have e5 := e2.trans e4
      refine q F3 H3 e5 v (Res.nt (x := (_, d)) ?_ e5.s)
      rw [j]
      exact rv.back e2.h
    | exc c =>
      rw [hg] at q
      intro F3 H3 e4
      exact ⟨rfl, c, rfl, q F3 H3 (e2.trans e4)⟩
    | stuck =>
      rw [hg] at q
      exact q
  · refine ⟨H', l.map (·.2), Same.refl _, h.is e.s, ?_⟩
    cases hg : g (l.map (·.2)) with
    | ok r =>
      obtain ⟨o, d⟩ := r
      rw [hg] at q
      intro v F3 H3 e4 rv
      have e5 : Ext F H F' H3 := ⟨e.f, e.h.trans e4.h, e.s.trans e4.h, e.n⟩
      refine q F' H3 e5 v (Res.nt (x := (_, d)) ?_ e5.s)
      rw [j]
      exact rv.is e4.s
    | exc c =>
      rw [hg] at q
      intro F3 H3 e4
      have e5 : Ext F H F' H3 := ⟨e.f, e.h.trans e4.h, e.s.trans e4.h, e.n⟩
      exact ⟨rfl, c, rfl, q F' H3 e5⟩
    | stuck =>
      rw [hg] at q
      exact q
theorem Aft.oks {α β : Type} {F H : Hp} {W : Str → Hp → Prop} {r : R α} {f : α → R β} {P : β → Hp → Hp → Prop} (h : Aft F H W (r.bind f) P) {P' : α → Hp → Hp → Prop} (k : ∀ a F' H', r = .ok a → Ext F H F' H' → Aft F H W (f a) P → P' a F' H') : Aft F H W r P' := by
  cases r with
  | ok a => exact fun F' H' e => k a F' H' rfl e h
  | exc c => exact h
  | stuck => exact h
theorem scalD_ok {α : Type} {F H : Hp} {W : Str → Hp → Prop} {x : TD} {f : D → R α} {P : α → Hp → Hp → Prop} (h : Aft F H W ((scalD x).bind f) P) : scal x.2 = true ∧ Aft F H W (f x.2) P := by
  unfold scalD at h
  by_cases c : scal x.2 = true
  · rw [if_pos c] at h
    exact ⟨c, h⟩
  · rw [if_neg c] at h
    exact h.elim
theorem treeOf_exc {x : TD} (c : Str) : treeOf x ≠ .exc c := by
  intro z
  unfold treeOf at z
  split at z
  · cases z
  · split at z <;> cases z
  · cases z
  · split at z <;> cases z
theorem treeOf_ok {α : Type} {F H : Hp} {W : Str → Hp → Prop} {x : TD} {f : D → R α} {P : α → Hp → Hp → Prop} (h : Aft F H W ((treeOf x).bind f) P) : ∃ d, treeOf x = .ok d ∧ Aft F H W (f d) P := by
  cases q : treeOf x with
  | ok d => rw [q] at h; exact ⟨d, rfl, h⟩
  | exc c => exact absurd q (treeOf_exc c)
  | stuck => rw [q] at h; exact h.elim
theorem Aft.gd {F H : Hp} {W : Str → Hp → Prop} {b : Bool} {r : R TD} {P : TD → Hp → Hp → Prop} (h : Aft F H W (PV.guard b r) P) : b = true ∧ Aft F H W r P := by
  cases b with
  | true => exact ⟨rfl, h⟩
  | false => exact h.elim
end

section
variable {cref : Str → Value} {n : Nat} {G : Gam} {bs cs N : List Str}
abbrev Wd := Str → L2.St → Hp → Prop
theorem nomark_of {op : CmpOp} {e : Expr} (h : noSet e = true) : behindInMarks op e = false := by
  cases e <;> first | rfl | cases h
theorem cmp_read {K : PySem.W.Frag} {W : Wd} {o : Cop} {a b : Ex} {σ : L2.St} {H : Hp} {Q : VK} (q : tE K W G (.cmp o a b) σ H Q) : tOp (rCmp K o) (tE K W G a) (tE K W G b) σ H Q := by
  obtain ⟨F, env, rel, q⟩ := q
  unfold ev at q
  refine ⟨F, env, rel, q.bind.imp fun x F1 H1 _ e1 q1 v rv => ⟨F1, env, rel.ext e1, q1.bind.imp fun y F2 H2 _ e2 q2 u ru => ?_⟩⟩
  obtain ⟨c, hc, q3⟩ := evCmp_ok q2
  exact ⟨x.2, y.2, c, (rv.mono e2).is e2.s, ru.is e2.s, hc, q3 F2 H2 (Ext.refl e2.s) _ (bool_is (K := K) (H := F2))⟩
theorem chn_read {K : PySem.W.Frag} {W : Wd} {o p : Cop} {a b c : Ex} {σ : L2.St} {H : Hp} {Q : VK} (q : tE K W G (.chn o p a b c) σ H Q) : tChain (rCmp K o) (rCmp K p) (tE K W G a) (tE K W G b) (tE K W G c) σ H Q := by
  obtain ⟨F, env, rel, q⟩ := q
  unfold ev at q
  refine ⟨F, env, rel, q.bind.imp fun x F1 H1 _ e1 q1 v rv => ⟨F1, env, rel.ext e1, q1.bind.imp fun y F2 H2 _ e2 q2 u ru => ?_⟩⟩
  obtain ⟨k, hc, q3⟩ := evCmp_ok q2
  refine ⟨x.2, y.2, k, (rv.mono e2).is e2.s, ru.is e2.s, hc, k, rfl, ?_⟩
  cases k with
  | false => exact iteF (q3 F2 H2 (Ext.refl e2.s) _ (bool_is (K := K) (H := F2)))
  | true =>
    refine iteT ⟨F2, env, (rel.ext e1).ext e2, q3.bind.imp fun z F4 H4 _ e4 q4 t rt => ?_⟩
    obtain ⟨k2, hc2, q5⟩ := evCmp_ok q4
    exact ⟨y.2, z.2, k2, (ru.mono e4).is e4.s, rt.is e4.s, hc2, q5 F4 H4 (Ext.refl e4.s) _ (bool_is (K := K) (H := F4))⟩
/-- a value's reading as a test's -/
theorem val_read {K : PySem.W.Frag} {W : Wd} {e : Ex} {σ : L2.St} {H : Hp} {Q : Bool → Hp → Prop} (q : tT K W G (.val e) σ H Q) : tE K W G e σ H fun x H' => ∃ k, x = .bl k ∧ Q k H' := by
  obtain ⟨F, env, rel, q⟩ := q
  unfold evT at q
  refine ⟨F, env, rel, q.bind.imp fun x F1 H1 _ e1 q1 v rv => ?_⟩
  cases hd : x.2 with
  | bool b =>
    rw [hd] at q1
    have := rv.is e1.s
    rw [hd] at this
    exact ⟨b, is_bool this, q1 F1 H1 (Ext.refl e1.s)⟩
  | _ => rw [hd] at q1; exact q1.elim
theorem truV_of {K : PySem.W.Frag} {H : Hp} {d : D} {v : V} {b : Bool} (h : Is K H d v) (e : truth d = .ok b) : TruV K v H b := by
  cases d with
  | none => cases e; rw [is_none h]; exact rfl
  | bool c => cases e; rw [is_bool h]; exact rfl
  | int i => cases e; rw [is_int h]; exact rfl
  | str z =>
    obtain ⟨h1, h2⟩ := gB_ok e
    rw [is_str h]
    exact ⟨Nat.le_trans (of_decide_eq_true h1) lim_le, h2.symm⟩
  | list ds =>
    cases e
    obtain ⟨a, vs, rfl, h1, h2⟩ := is_list h
    refine .inl ⟨vs, h1.seq, ?_⟩
    have := h2.len
    cases ds <;> cases vs <;> first | rfl | cases this
  | tuple ds =>
    cases e
    obtain ⟨a, vs, rfl, h1, h2⟩ := is_tuple h
    refine .inr (.inl ⟨vs, h1, ?_⟩)
    have := h2.len
    cases ds <;> cases vs <;> first | rfl | cases this
  | dict _ => cases e
theorem tru_read {K : PySem.W.Frag} {W : Wd} {e : Ex} {σ : L2.St} {H : Hp} {Q : Bool → Hp → Prop} (q : tT K W G (.tru e) σ H Q) : tE K W G e σ H fun x H' => ∃ k, TruV K x H' k ∧ Q k H' := by
  obtain ⟨F, env, rel, q⟩ := q
  unfold evT at q
  refine ⟨F, env, rel, q.bind.imp fun x F1 H1 _ e1 q1 v rv => ?_⟩
  cases hd : truth x.2 with
  | ok b =>
    rw [hd] at q1
    exact ⟨b, truV_of (rv.is e1.s) hd, q1 F1 H1 (Ext.refl e1.s)⟩
  | exc c =>
    exfalso
    unfold truth at hd
    split at hd <;> first | cases hd | exact gB_exc c hd
  | stuck => rw [hd] at q1; exact q1.elim
theorem src_noSet {src : Src} {sc : Scope} {e tg : Expr} (h : chkSrc N bs src sc e tg = true) : noSet e = true := by
  cases src with
  | lst a => simp only [chkSrc, Bool.and_eq_true] at h; exact h.1
  | tup a => simp only [chkSrc, Bool.and_eq_true] at h; exact h.1
  | _ => cases e <;> first | rfl | simp [chkSrc] at h
theorem zt_kid (t u : Tag) {F H : Hp} (s : Same F H) : Same (hp t.kid F H) (hp (zt t u).kid F H) ∧ Same (hp u.kid F H) (hp (zt t u).kid F H) := by
  cases t <;> cases u <;> exact ⟨by first | exact Same.refl _ | exact s, by first | exact Same.refl _ | exact s⟩
theorem zt_dm {t u : Tag} (h : (zt t u).dm = .sh) : t.dm = .sh ∧ u.dm = .sh := by
  cases t <;> cases u <;> first | exact ⟨rfl, rfl⟩ | cases h
theorem noSl_of {e : Expr} (h : noSl e = true) : NoSl e := fun o i => by
  cases e <;> first | rfl | cases h
theorem boot_dct : bootBuiltins "dict" = some (.type "dict") := by decide +kernel
theorem dix_read {K : PySem.W.Frag} {W : Wd} {a b : Ex} {σ : L2.St} {H : Hp} {Q : VK} (q : tE K W G (.dix a b) σ H Q) : tDGet (tE K W G a) (tE K W G b) σ H Q := by
  obtain ⟨F, env, rel, q⟩ := q
  unfold ev at q
  refine ⟨F, env, rel, q.bind.imp fun x F1 H1 _ e1 q1 v rv => ⟨F1, env, rel.ext e1, q1.bind.imp fun y F2 H2 _ e2 q2 u ru => ?_⟩⟩
  obtain ⟨t, d⟩ := x
  cases d with
  | dict kvs =>
    unfold evDix at q2
    cases hk : dkey y.2 with
    | none => simp only [hk] at q2; exact q2.elim
    | some k =>
      simp only [hk] at q2
      cases hg : dGetK kvs k with
      | none => simp only [hg] at q2; exact q2.elim
      | some d =>
        simp only [hg] at q2
        obtain ⟨p, es, rfl, h1, h2⟩ := res_dict (rv.mono e2) e2.s
        obtain ⟨v, h3, h4⟩ := isK_val h2 hg
        refine ⟨p, v, rfl, ?_, q2 F2 H2 (Ext.refl e2.s) v (Res.nt (x := (_, d)) (Res.of_hp h4) e2.s)⟩
        rw [key_is (ru.is e2.s) hk, ← h3]
        exact DGet.k h1
  | _ => exact q2.elim
theorem evSrd_exc (x : TD) : ∀ c, evSrd x ≠ .exc c := by
  intro c h
  obtain ⟨t, d⟩ := x
  cases d with
  | dict kvs =>
    simp only [evSrd] at h
    cases hk : intKs kvs with
    | none => rw [hk] at h; cases h
    | some ks =>
      rw [hk] at h
      exact guard_exc ok_exc c h
  | _ => cases h
theorem intKs_map {K : PySem.W.Frag} {H : Hp} : ∀ {kvs : List (D × D)} {es : List (Key × V)} {ks : List Int}, intKs kvs = some ks → IsK K H kvs es → es.map (·.1) = ks.map Sum.inl
  | [], _, ks, h, i => by
    cases h
    simp only [IsK] at i
    subst i
    rfl
  | (k, d) :: r, _, ks, h, i => by
    simp only [IsK] at i
    obtain ⟨kk, v, es', rfl, rfl, _, i2⟩ := i
    cases kk with
    | inl n =>
      have h : (intKs r).map (n :: ·) = some ks := h
      rw [Option.map_eq_some_iff] at h
      obtain ⟨ms, h1, rfl⟩ := h
      rw [List.map_cons, List.map_cons, intKs_map h1 i2]
    | inr s => cases h
theorem sort_uniq {ks ys : List Int} (p : ys.Perm ks) (s : ys.Pairwise (· ≤ ·)) : ys = ks.mergeSort fun a b => decide (a ≤ b) := by
  have s2 : (ks.mergeSort fun a b => decide (a ≤ b)).Pairwise (· ≤ ·) := (List.pairwise_mergeSort (le := fun a b : Int => decide (a ≤ b)) (fun a b c h1 h2 => by simp at *; omega) (fun a b => by simp; omega) ks).imp fun h => of_decide_eq_true h
  exact List.Perm.eq_of_pairwise (fun a b _ _ h1 h2 => by omega) s s2 (p.trans (List.mergeSort_perm ks _).symm)
theorem jnL_sh (l : List TD) : ∀ dds : List D, jnL (l ++ dds.map fun d => (Tag.sh, d)) = jnL l := fun dds => by
  have z : jnL (dds.map fun d => (Tag.sh, d)) = .sh := by
    induction dds with
    | nil => rfl
    | cons d r ih => rw [List.map_cons]; unfold jnL; rw [ih]; rfl
  induction l with
  | nil => exact z
  | cons x r ih =>
    rw [List.cons_append]
    unfold jnL
    rw [ih]
theorem resL_sh {K : PySem.W.Frag} {H F' H' : Hp} : ∀ {dds : List D} {dvs vs : List V} {l : List TD}, ResL K H F' H' vs l → IsL K F' dds dvs → Same F' H' → ResL K H F' H' (vs ++ dvs) (l ++ dds.map fun d => (Tag.sh, d))
  | [], _, vs, l, h, i, _ => by
    simp only [IsL] at i
    subst i
    rw [List.append_nil, List.map_nil, List.append_nil]
    exact h
  | d :: r, _, vs, l, h, i, s => by
    simp only [IsL] at i
    obtain ⟨v, w, rfl, i1, i2⟩ := i
    have := resL_sh (ResL.snoc h (Ext.refl s) (x := (Tag.sh, d)) (v := v) i1) i2 s
    rwa [List.append_assoc, List.append_assoc] at this
theorem m1_ok {X : Cx} {u : Expr} (h : isM1 u = true) : PE X u (fun σ H Q => Q (.int (-1)) H) ∧ noStar u = true := by
  unfold isM1 at h
  split at h
  · have h := of_decide_eq_true h
    subst h
    exact ⟨pe_imp (pe_un un_neg pe_int) fun σ H Q q => ⟨1, rfl, q⟩, rfl⟩
  · cases h
mutual
theorem sE : ∀ (ex : Ex) {X : Cx} {W : Wd} {sc : Scope} {e : Expr}, Fit X W cref n G bs cs N sc → chkE N bs ex sc e = true → PE X e (tE X.K W G ex)
  | .var i, X, W, sc, e, ft, h => by
    cases e with
    | Name x p =>
      simp only [chkE, Bool.and_eq_true, decide_eq_true_eq] at h
      refine pe_imp (ft.nm h.1.1 h.1.2 h.2) fun σ H Q q => ?_
      obtain ⟨F, env, rel, q⟩ := q
      unfold ev at q
      cases hs : env[i]? with
      | none => rw [hs] at q; exact q.elim
      | some sl =>
        rw [hs] at q
        cases sl with
        | no => exact q.elim
        | sh d =>
          obtain ⟨v, e1, e2⟩ := rel.shs hs
          exact ⟨v, e1, q F H (Ext.refl rel.sub) v e2⟩
        | ow d =>
          obtain ⟨p, e1, e2⟩ := rel.own hs
          exact ⟨_, e1, q F H (Ext.refl rel.sub) _ ⟨p, rfl, e2⟩⟩
        | od d =>
          obtain ⟨v, fp, e1, e2, _⟩ := rel.ods hs
          exact ⟨_, e1, q F H (Ext.refl rel.sub) _ (Res.nt (x := (.pk, d)) e2.isH rel.sub)⟩
    | _ => simp [chkE] at h
  | .cst c, X, W, sc, e, ft, h => by
    cases e with
    | Constant c' k p =>
      simp only [chkE, Bool.and_eq_true, decide_eq_true_eq] at h
      obtain ⟨rfl, h2⟩ := h
      cases c with
      | none => exact pe_imp pe_non fun σ H Q ⟨F, env, rel, q⟩ => q F H (Ext.refl rel.sub) _ (show Is X.K F .none .non by simp only [Is])
      | bool b => exact pe_imp pe_bl fun σ H Q ⟨F, env, rel, q⟩ => q F H (Ext.refl rel.sub) _ (bool_is (K := X.K) (H := F))
      | int i => exact pe_imp pe_int fun σ H Q ⟨F, env, rel, q⟩ => q F H (Ext.refl rel.sub) _ (int_is (K := X.K) (H := F))
      | str z => exact pe_imp pe_str fun σ H Q ⟨F, env, rel, q⟩ => q F H (Ext.refl rel.sub) _ (str_is (K := X.K) (H := F))
      | _ => cases h2
    | _ => simp [chkE] at h
  | .bin o a b, X, W, sc, e, ft, h => by
    cases e with
    | BinOp l op r p =>
      simp only [chkE, Bool.and_eq_true, decide_eq_true_eq] at h
      obtain ⟨⟨rfl, h1⟩, h2⟩ := h
      refine pe_imp (pe_op (op_bin o) (sE a ft h1) (sE b ft h2)) fun σ H Q q => ?_
      obtain ⟨F, env, rel, q⟩ := q
      unfold ev at q
      refine ⟨F, env, rel, q.bind.imp fun x F1 H1 _ e1 q1 v rv => ⟨F1, env, rel.ext e1, q1.bind.imp fun y F2 H2 _ e2 q2 u ru => ?_⟩⟩
      exact ⟨F2, x, y, e2.s, (rv.mono e2).back same0, ru.back same0, (q2.imp fun z F3 H3 _ e3 q3 w rw' => q3 w (rw'.back (e1.h.trans e2.h))).one e2.s (evBin_exc o x y)⟩
    | _ => simp [chkE] at h
  | .neg a, X, W, sc, e, ft, h => by
    cases e with
    | UnaryOp op x p =>
      cases op with
      | USub =>
        simp only [chkE] at h
        refine pe_imp (pe_un un_negD (sE a ft h)) fun σ H Q q => ?_
        obtain ⟨F, env, rel, q⟩ := q
        unfold ev at q
        refine ⟨F, env, rel, q.bind.imp fun x F1 H1 _ e1 q1 v rv => ?_⟩
        exact ⟨F1, x.2, e1.s, rv.is e1.s, (q1.imp fun z F3 H3 _ e3 q3 w rw' => q3 w (rw'.back e1.h)).one e1.s (evNeg_exc x.2)⟩
      | _ => simp [chkE] at h
    | _ => simp [chkE] at h
  | .cmp o a b, X, W, sc, e, ft, h => by
    cases e with
    | Compare l ops rs p =>
      match ops, rs, h with
      | [op], [r], h =>
        simp only [chkE, Bool.and_eq_true, decide_eq_true_eq] at h
        obtain ⟨⟨rfl, h1⟩, h2⟩ := h
        exact pe_imp (pe_cmpR (op_cmp ft.un o) (sE a ft h1) (sE b ft h2) (nomark_of (chk_noSet h2))) fun σ H Q q => cmp_read q
      | [], _, h => simp [chkE] at h
      | _ :: _ :: _, [], h => simp [chkE] at h
      | [_], [], h => simp [chkE] at h
      | [_], _ :: _ :: _, h => simp [chkE] at h
      | _ :: _ :: _, _ :: _, h => simp [chkE] at h
    | _ => simp [chkE] at h
  | .chn o o2 a b c, X, W, sc, e, ft, h => by
    cases e with
    | Compare l ops rs p =>
      match ops, rs, h with
      | [op, op'], [m, r], h =>
        simp only [chkE, Bool.and_eq_true, decide_eq_true_eq] at h
        obtain ⟨⟨⟨⟨rfl, rfl⟩, h1⟩, h2⟩, h3⟩ := h
        exact pe_imp (pe_chain (op_cmp ft.un o) (op_cmp ft.un o2) (sE a ft h1) (sE b ft h2) (sE c ft h3) (show lastMarks [_, _] [_, _] = false from nomark_of (chk_noSet h3))) fun σ H Q q => chn_read q
      | [], _, h => simp [chkE] at h
      | [_], _, h => simp [chkE] at h
      | [_, _], [], h => simp [chkE] at h
      | [_, _], [_], h => simp [chkE] at h
      | [_, _], _ :: _ :: _ :: _, h => simp [chkE] at h
      | _ :: _ :: _ :: _, _, h => simp [chkE] at h
    | _ => simp [chkE] at h
  | .lan es, X, W, sc, e, ft, h => by
    cases e with
    | BoolOp op vs p =>
      cases op with
      | And =>
        simp only [chkE] at h
        exact pe_imp (sAnd es ft h) fun σ H Q ⟨F, env, rel, q⟩ => ⟨F, env, rel, by unfold ev at q; exact q⟩
      | Or => simp [chkE] at h
    | _ => simp [chkE] at h
  | .lor es, X, W, sc, e, ft, h => by
    cases e with
    | BoolOp op vs p =>
      cases op with
      | Or =>
        simp only [chkE] at h
        exact pe_imp (sOr es ft h) fun σ H Q ⟨F, env, rel, q⟩ => ⟨F, env, rel, by unfold ev at q; exact q⟩
      | And => simp [chkE] at h
    | _ => simp [chkE] at h
  | .lno a, X, W, sc, e, ft, h => by
    cases e with
    | UnaryOp op x p =>
      cases op with
      | Not =>
        simp only [chkE] at h
        refine pe_imp (pe_not (sE a ft h)) fun σ H Q q => ?_
        obtain ⟨F, env, rel, q⟩ := q
        unfold ev at q
        refine ⟨F, env, rel, q.bind.imp fun x F1 H1 _ e1 q1 v rv => ?_⟩
        obtain ⟨b, hb, q2⟩ := isBool_ok q1
        have e2 := rv.is e1.s
        rw [hb] at e2
        exact ⟨b, is_bool e2, q2 F1 H1 (Ext.refl e1.s) _ (bool_is (K := X.K) (H := F1))⟩
      | _ => simp [chkE] at h
    | _ => simp [chkE] at h
  | .ife c a b, X, W, sc, e, ft, h => by
    cases e with
    | IfExp t l r p =>
      simp only [chkE, Bool.and_eq_true] at h
      refine pe_imp (pe_ifExp (sT c ft h.1.1) (sE a ft h.1.2) (sE b ft h.2)) fun σ H Q q => ?_
      obtain ⟨F, env, rel, q⟩ := q
      unfold ev at q
      refine ⟨F, env, rel, q.bind.imp fun t F1 H1 _ e1 q1 => ?_⟩
      cases t with
      | true => exact iteT ⟨F1, env, rel.ext e1, q1.imp fun z F3 H3 _ e3 q3 w rw' => q3 w (rw'.back e1.h)⟩
      | false => exact iteF ⟨F1, env, rel.ext e1, q1.imp fun z F3 H3 _ e3 q3 w rw' => q3 w (rw'.back e1.h)⟩
    | _ => simp [chkE] at h
  | .tup es, X, W, sc, e, ft, h => by
    cases e with
    | Tuple xs k p =>
      simp only [chkE] at h
      refine pe_imp (pe_tup (sEs es ft h)) fun σ H Q q => ?_
      obtain ⟨F, env, rel, q⟩ := q
      unfold ev at q
      refine ⟨F, env, rel, q.oks fun l F1 H1 _ e1 q1 vs rv => ?_⟩
      obtain ⟨g1, g2⟩ := q1.gd
      refine ⟨?_, (disp e1 rv).1 g2⟩
      have := (rv.is e1.s).len
      rw [List.length_map] at this
      rw [this]
      exact Nat.le_trans (of_decide_eq_true g1) lim_le
    | _ => simp [chkE] at h
  | .lrv a, X, W, sc, e, ft, h => by
    cases e with
    | Call fn args kws pos =>
      cases fn with
      | Name x p =>
        match args, kws, h with
        | [y0], [], h =>
          cases y0 with
          | Call fn2 args2 kws2 pos2 =>
            cases fn2 with
            | Name z p2 =>
              match args2, kws2, h with
              | [y], [], h =>
                simp only [chkE, Bool.and_eq_true, decide_eq_true_eq] at h
                obtain ⟨⟨⟨⟨⟨rfl, h1⟩, rfl⟩, h3⟩, hr⟩, h2⟩ := h
                obtain ⟨g1, g2⟩ := ft.glN h1
                obtain ⟨g3, g4⟩ := ft.glN h3
                have st := star_cons (es := []) (env := X.env) (chk_noStar h2)
                refine pe_imp (pe_listRev (ft.calm hr) g1 g2 g3 g4 (sE a ft h2) st rfl) fun σ H Q q => ?_
                obtain ⟨F, env, rel, q⟩ := q
                unfold ev at q
                refine ⟨F, env, rel, q.bind.imp fun x F1 H1 _ e1 q1 v rv => ?_⟩
                obtain ⟨t, d⟩ := x
                cases d with
                | list ds =>
                  obtain ⟨l, vs, rfl, k1, k2⟩ := rv.list e1.s
                  exact ⟨l, vs, rfl, k1.seq, new_list (kid_cases t) e1.s k2.rev fun w F3 H3 e3 rw' => q1 F3 H3 e3 w (rw'.back e1.h)⟩
                | _ => exact q1.elim
              | [], _, h => simp [chkE] at h
              | [_], _ :: _, h => simp [chkE] at h
              | _ :: _ :: _, _, h => simp [chkE] at h
            | _ => simp [chkE] at h
          | _ => simp [chkE] at h
        | [], _, h => simp [chkE] at h
        | [_], _ :: _, h => simp [chkE] at h
        | _ :: _ :: _, _, h => simp [chkE] at h
      | _ => simp [chkE] at h
    | _ => simp [chkE] at h
  | .trI a, X, W, sc, e, ft, h => by
    simp only [chkE, Bool.and_eq_true] at h
    refine pe_imp (sE a ft h.2) fun σ H Q q => ?_
    obtain ⟨F, env, rel, q⟩ := q
    unfold ev at q
    refine ⟨F, env, rel, q.bind.imp fun x F1 H1 _ e1 q1 v rv => ?_⟩
    obtain ⟨d, hd, q3⟩ := treeOf_ok q1
    exact q3 F1 H1 (Ext.refl e1.s) v (treeOf_own rv e1.s hd)
  | .lsT a, X, W, sc, e, ft, h => by
    cases e with
    | List xs p =>
      match xs, h with
      | [x], h =>
        simp only [chkE] at h
        refine pe_imp (pe_lst (pa_cons (sE a ft h) pa_nil (star_cons (chk_noStar h)))) fun σ H Q q => ?_
        obtain ⟨F, env, rel, q⟩ := q
        unfold ev at q
        refine ⟨F, env, rel, q.bind.imp fun x F1 H1 _ e1 q1 v rv => ?_⟩
        obtain ⟨d, hd, q3⟩ := treeOf_ok q1
        refine ⟨(by show 1 ≤ sizeLine; rw [sizeLine_eq]; decide), fun p np => ?_⟩
        obtain ⟨fp, n, o⟩ := treeOf_own rv e1.s hd
        have o2 : Own X.K F1 (upd H1 p (.lst [v])) d v fp := o.keep fun a ha => ⟨(o.at a ha).1, upd_ne fun z => (o.at a ha).2 (by rw [z]; exact np)⟩
        refine q3 F1 _ (Ext.new0 e1.s np) _ ⟨p :: fp, fun a ha => ?_, ?_⟩
        · rcases List.mem_cons.mp ha with rfl | ha
          · exact e1.h.free np
          · exact n a ha
        · simp only [Own]
          refine ⟨p, [v], fp, rfl, rfl, fun z => (o.at p z).2 np, e1.s.free np, upd_same, ?_⟩
          exact .one o2
      | [], h => simp [chkE] at h
      | _ :: _ :: _, h => simp [chkE] at h
    | _ => simp [chkE] at h
  | .prT es, X, W, sc, e, ft, h => by
    cases e with
    | Tuple xs k p =>
      simp only [chkE] at h
      refine pe_imp (pe_tup (sEs es ft h)) fun σ H Q q => ?_
      obtain ⟨F, env, rel, q⟩ := q
      unfold ev at q
      refine ⟨F, env, rel, q.oks fun l F1 H1 _ e1 q1 vs rv => ?_⟩
      match l, rv, q1 with
      | [x, y], ⟨v, ws, e0, r1, w, us, e2, r2, e3⟩, q1 =>
        have e3 : us = [] := e3
        subst e0 e2 e3
        obtain ⟨hc, q2⟩ := scalD_ok q1
        obtain ⟨d, hd, q3⟩ := treeOf_ok q2
        refine ⟨(by show 2 ≤ sizeLine; rw [sizeLine_eq]; decide), fun p np => ?_⟩
        obtain ⟨fp, n, o⟩ := treeOf_own r2 e1.s hd
        have o2 : Own X.K F1 (upd H1 p (.tup [v, w])) d w fp := o.keep fun a ha => ⟨(o.at a ha).1, upd_ne fun z => (o.at a ha).2 (by rw [z]; exact np)⟩
        refine q3 F1 _ (e1.trans (Ext.new0 e1.s np)) _ ⟨p :: fp, fun a ha => ?_, ?_⟩
        · rcases List.mem_cons.mp ha with rfl | ha
          · exact e1.h.free np
          · exact n a ha
        · simp only [Own]
          refine ⟨p, [v, w], fp, rfl, rfl, fun z => (o.at p z).2 np, e1.s.free np, upd_same, ?_⟩
          simp only [OwnL]
          exact ⟨v, [w], [], fp, rfl, rfl, (fun a z => by cases z), own_scal (r1.is e1.s) hc, w, [], fp, [], rfl, by simp, (fun a _ z => by cases z), o2, rfl, rfl⟩
      | [], _, q1 => exact q1.elim
      | [_], _, q1 => exact q1.elim
      | _ :: _ :: _ :: _, _, q1 => exact q1.elim
    | _ => simp [chkE] at h
  | .srk f a, X, W, sc, e, ft, h => by
    cases e with
    | Call fn args kws pos =>
      cases fn with
      | Name x p =>
        match args, kws, h with
        | [y], [⟨some k, kv, pk⟩], h =>
          cases kv with
          | Name z pz =>
            simp only [chkE, Bool.and_eq_true, decide_eq_true_eq] at h
            obtain ⟨⟨⟨⟨⟨⟨⟨rfl, h1⟩, rfl⟩, rfl⟩, h0⟩, h2⟩, h3⟩, h4⟩ := h
            have h0 : bang z = false := by simpa using h0
            obtain ⟨g1, g2⟩ := ft.glN h1
            cases hG : G z with
            | none =>
              refine ⟨fun pins s σ H Q I q => ?_⟩
              obtain ⟨F, env, rel, q⟩ := q
              unfold ev at q
              rw [hG] at q
              exact q.elim
            | some g =>
              obtain ⟨fa, fd, ps, hm, hk, hb, hF, ar⟩ := ft.gc.fns z g h0 hG
              have st := star_cons (es := []) (env := X.env) (chk_noStar h4)
              refine pe_imp (pe_callBK (cr_srk hG hF hb ar (ft.rm (.inl ⟨z, g, hG⟩)).2 ft.gd) g1 g2 boot_sorted (pa_cons (sE a ft h4) pa_nil st) (pk_cons (pe_glob (v := .ref fa) (ft.gl h2) hm rfl (nm_of h3).1) pk_nil) (by decide) (by decide) (by rw [st]; rfl) (star_any (es := [y]) (by simp only [List.all_cons, List.all_nil, Bool.and_true]; exact chk_noStar h4)) rfl rfl rfl) fun σ H Q q => ?_
              obtain ⟨F, env, rel, q⟩ := q
              unfold ev at q
              rw [hG] at q
              replace q : Aft F H (fun c H' => W c σ H') ((ev G a env).bind fun x => evSrk G _ x) (fun x F' H' => ∀ v, Res X.K H F' H' v x → Q v H') := q
              refine ⟨F, env, rel, q.bind.imp fun x F1 H1 _ e1 q1 v rv => ?_⟩
              exact ⟨rfl, F1, v, x, rfl, e1.s, rv.back same0, (q1.imp fun z F3 H3 _ e3 q3 w rw' => q3 w (rw'.back e1.h)).one e1.s (evSrk_exc G _ x)⟩
          | _ => simp [chkE] at h
        | [], _, h => simp [chkE] at h
        | [_], [], h => simp [chkE] at h
        | [_], [⟨none, _, _⟩], h => simp [chkE] at h
        | [_], ⟨some _, v, _⟩ :: _ :: _, h => simp [chkE] at h
        | [_], ⟨none, v, _⟩ :: _ :: _, h => simp [chkE] at h
        | _ :: _ :: _, _, h => simp [chkE] at h
      | _ => simp [chkE] at h
    | _ => simp [chkE] at h
  | .tmp i a, X, W, sc, e, ft, h => by
    simp only [chkE, Bool.and_eq_true] at h
    refine pe_imp (sE a ft h.2) fun σ H Q q => ?_
    obtain ⟨F, env, rel, q⟩ := q
    unfold ev at q
    obtain ⟨F2, rel2⟩ : ∃ F2, Rel X.K F2 H σ (frzI i env) := by
      unfold frzI
      split
      · rename_i d hd
        obtain ⟨fp, _, r⟩ := rel.freeze (.inl hd)
        exact ⟨_, r⟩
      · rename_i d hd
        obtain ⟨fp, _, r⟩ := rel.freeze (.inr hd)
        exact ⟨_, r⟩
      · exact ⟨F, rel⟩
    have back : ∀ {F' H' : Hp}, Ext F2 H F' H' → Ext F H F H' := fun x => ⟨Same.refl _, x.h, rel.sub.trans x.h, fun _ z => .inl z⟩
    refine ⟨F2, _, rel2, ?_⟩
    cases hr : ev G a (frzI i env) with
    | stuck => rw [hr] at q; exact q.elim
    | exc c =>
      rw [hr] at q
      exact fun F' H' x => q F H' (back x)
    | ok x =>
      rw [hr] at q
      intro F' H' x' v rv
      by_cases sc : scal x.2 = true
      · have q : Aft F H (fun c H' => W c σ H') (if scal x.2 = true then R.ok (Tag.sh, x.2) else R.stuck) (fun x F' H' => ∀ v, Res X.K H F' H' v x → Q v H') := q
        rw [if_pos sc] at q
        exact q F H' (back x') v (Is.scal (rv.is x'.s) sc)
      · have q : Aft F H (fun c H' => W c σ H') (if scal x.2 = true then R.ok (Tag.sh, x.2) else R.stuck) (fun x F' H' => ∀ v, Res X.K H F' H' v x → Q v H') := q
        rw [if_neg sc] at q
        exact q.elim
  | .frz a, X, W, sc, e, ft, h => by
    simp only [chkE, Bool.and_eq_true] at h
    refine pe_imp (sE a ft h.2) fun σ H Q q => ?_
    obtain ⟨F, env, rel, q⟩ := q
    unfold ev at q
    refine ⟨F, env, rel, q.oks fun x F1 H1 _ e1 q1 v rv => ?_⟩
    cases hd : (nt x.1 x.2).dm with
    | sh =>
      rw [hd] at q1
      obtain ⟨F2, e2, s2, i2⟩ := res_dm2 e1 (rv.nt e1.s) hd
      exact q1 F2 H1 e2 v i2
    | _ => rw [hd] at q1; exact q1.elim
  | .lst es, X, W, sc, e, ft, h => by
    cases e with
    | List xs p =>
      simp only [chkE] at h
      refine pe_imp (pe_lst (sEs es ft h)) fun σ H Q q => ?_
      obtain ⟨F, env, rel, q⟩ := q
      unfold ev at q
      refine ⟨F, env, rel, q.oks fun l F1 H1 _ e1 q1 vs rv => ?_⟩
      obtain ⟨g1, g2⟩ := q1.gd
      refine ⟨?_, (disp e1 rv).2 g2⟩
      have := (rv.is e1.s).len
      rw [List.length_map] at this
      rw [this]
      exact Nat.le_trans (of_decide_eq_true g1) lim_le
    | _ => simp [chkE] at h
  | .ix a b, X, W, sc, e, ft, h => by
    cases e with
    | Subscript v s p =>
      simp only [chkE, Bool.and_eq_true] at h
      refine pe_imp (pe_ix ix_D (sE a ft h.1.2) (sE b ft h.2) (plainIx_of h.1.1)) fun σ H Q q => ?_
      obtain ⟨F, env, rel, q⟩ := q
      unfold ev at q
      refine ⟨F, env, rel, q.bind.imp fun x F1 H1 _ e1 q1 v rv => ⟨F1, env, rel.ext e1, q1.bind.imp fun y F2 H2 _ e2 q2 u ru => ?_⟩⟩
      exact ⟨F2, x, y.2, e2.s, (rv.mono e2).back same0, ru.is e2.s, (q2.imp fun z F3 H3 _ e3 q3 w rw' => q3 w (rw'.back (e1.h.trans e2.h))).one e2.s (evIx_exc x y.2)⟩
    | _ => simp [chkE] at h
  | .sli a lo hi, X, W, sc, e, ft, h => by
    cases e with
    | Subscript v s p =>
      cases s with
      | Slice l u st p2 =>
        cases st with
        | none =>
          simp only [chkE, Bool.and_eq_true] at h
          refine pe_imp (pe_slice sl_D (sE a ft h.1.1) (sP lo ft h.1.2) (sP hi ft h.2)) fun σ H Q q => ?_
          obtain ⟨F, env, rel, q⟩ := q
          unfold ev at q
          refine ⟨F, env, rel, q.bind.imp fun x F1 H1 _ e1 q1 v rv => ⟨F1, env, rel.ext e1, q1.bind.imp fun y F2 H2 _ e2 q2 => ⟨F2, env, (rel.ext e1).ext e2, q2.bind.imp fun z F3 H3 _ e3 q3 => ?_⟩⟩⟩
          exact ⟨F3, x, e3.s, ((rv.mono e2).mono e3).back same0, (q3.imp fun z F4 H4 _ e4 q4 w rw' => q4 w (rw'.back ((e1.h.trans e2.h).trans e3.h))).one e3.s (evSl_exc x y z)⟩
        | some _ => simp [chkE] at h
      | _ => simp [chkE] at h
    | _ => simp [chkE] at h
  | .call f es, X, W, sc, e, ft, h => by
    cases e with
    | Call fn args kws pos =>
      cases fn with
      | Name x p =>
        match args, kws, h with
        | y :: ys, [], h =>
          simp only [chkE, Bool.and_eq_true, decide_eq_true_eq] at h
          obtain ⟨⟨⟨⟨rfl, h0⟩, h1⟩, h2⟩, h3⟩ := h
          have h0 : bang x = false := by simpa using h0
          cases hG : G x with
          | none =>
            refine ⟨fun pins s σ H Q I q => ?_⟩
            obtain ⟨F, env, rel, q⟩ := q
            unfold ev at q
            rw [hG] at q
            exact q.elim
          | some g =>
            obtain ⟨fa, fd, ps, hm, hk, hb, hF, ar⟩ := ft.gc.fns x g h0 hG
            refine pe_imp (pe_g (E := WE (wx cref W)) hF (ft.rm (.inl ⟨x, g, hG⟩)).1 ft.gd (ft.gl h1) hm hk hb (fun σ => passAt ft.tk σ) (sEs es ft h3) (chks_noStar h3) (nm_of h2).1) fun σ H Q q => ?_
            obtain ⟨F, env, rel, q⟩ := q
            unfold ev at q
            rw [hG] at q
            refine ⟨F, env, rel, q.oks fun l F1 H1 _ e1 q1 vs rv => called e1 rv ?_ q1⟩
            have hl : (l.map (·.2)).length = ps.length := ar _ fun z => by
              rw [z] at q1
              exact q1.elim
            rw [← hl]
            exact (rv.is e1.s).len
        | [], _, h => simp [chkE] at h
        | _ :: _, _ :: _, h => simp [chkE] at h
      | _ => simp [chkE] at h
    | _ => simp [chkE] at h
  | .glo x, X, W, sc, e, ft, h => by
    cases e with
    | Name y p =>
      simp only [chkE, Bool.and_eq_true, decide_eq_true_eq] at h
      obtain ⟨⟨rfl, h1⟩, h2⟩ := h
      cases hG : G (cgn x) with
      | none =>
        refine ⟨fun pins s σ H Q I q => ?_⟩
        obtain ⟨F, env, rel, q⟩ := q
        unfold ev at q
        rw [hG] at q
        exact q.elim
      | some g =>
        obtain ⟨d, u, v, e1, e2, e3, e4⟩ := ft.gc.con x g hG
        refine pe_imp (pe_glob (v := v) (ft.gl h1) e2 e3 (nm_of h2).1) fun σ H Q q => ?_
        obtain ⟨F, env, rel, q⟩ := q
        unfold ev at q
        rw [hG] at q
        have q : Aft F H (fun c H' => W c σ H') (g []) (fun x F' H' => ∀ v, Res X.K H F' H' v x → Q v H') := q
        rw [e1] at q
        exact q F H (Ext.refl rel.sub) _ (e4 F)
    | _ => simp [chkE] at h
  | .callD f es, X, W, sc, e, ft, h => by
    cases e with
    | Call fn args kws pos =>
      cases fn with
      | Name x p =>
        match args, kws, h with
        | y :: ys, [], h =>
          simp only [chkE, Bool.and_eq_true, decide_eq_true_eq] at h
          obtain ⟨⟨⟨rfl, h1⟩, h2⟩, h3⟩ := h
          cases hG : G (dfn x) with
          | none =>
            refine ⟨fun pins s σ H Q I q => ?_⟩
            obtain ⟨F, env, rel, q⟩ := q
            unfold ev at q
            rw [hG] at q
            exact q.elim
          | some g =>
            obtain ⟨fa, fd, ps, dus, dvs, dds, g0, hm, hk, hb, hv, hd, hF, hg, ar⟩ := ft.gc.dfl x g hG
            refine pe_imp (pe_gd (E := WE (wx cref W)) hF (ft.rm (.inl ⟨_, g, hG⟩)).1 ft.gd (ft.gl h1) hm hk hb hv (fun σ => passAt ft.tk σ) (sEs es ft h3) (chks_noStar h3) (nm_of h2).1) fun σ H Q q => ?_
            obtain ⟨F, env, rel, q⟩ := q
            unfold ev at q
            rw [hG] at q
            replace q : Aft F H (fun c H' => W c σ H') ((evs G es env).bind fun l => (g (l.map (·.2))).bind fun r => .ok (callTag (jnL l) r.1 r.2, r.2)) (fun x F' H' => ∀ v, Res X.K H F' H' v x → Q v H') := q
            refine ⟨F, env, rel, q.oks fun l F1 H1 _ e1 q1 vs rv => ?_⟩
            have rall := resL_sh rv (hd F1) e1.s
            have em : (l ++ dds.map fun d => (Tag.sh, d)).map (·.2) = l.map (·.2) ++ dds := by rw [List.map_append, List.map_map]; simp [Function.comp_def]
            rw [hg, ← em, ← jnL_sh l dds] at q1
            have hl : ((l ++ dds.map fun d => (Tag.sh, d)).map (·.2)).length = ps.length := ar _ fun z => by
              rw [z] at q1
              exact q1.elim
            have hlen : (vs ++ dvs).length = ps.length := by
              rw [← hl]
              exact (rall.is e1.s).len
            exact called e1 rall hlen q1
        | [], _, h => simp [chkE] at h
        | _ :: _, _ :: _, h => simp [chkE] at h
      | _ => simp [chkE] at h
    | _ => simp [chkE] at h
  | .srd a, X, W, sc, e, ft, h => by
    cases e with
    | Call fn args kws pos =>
      cases fn with
      | Name x p =>
        match args, kws, h with
        | [y], [], h =>
          simp only [chkE, Bool.and_eq_true, decide_eq_true_eq] at h
          obtain ⟨⟨⟨rfl, h1⟩, hr⟩, h2⟩ := h
          obtain ⟨g1, g2⟩ := ft.glN h1
          have st := star_cons (es := []) (env := X.env) (chk_noStar h2)
          refine pe_imp (pe_callB (call_sortedDI (ft.calm hr)) g1 g2 boot_sorted (pa_cons (sE a ft h2) pa_nil st) (by decide) (by decide) st rfl) fun σ H Q q => ?_
          obtain ⟨F, env, rel, q⟩ := q
          unfold ev at q
          refine ⟨F, env, rel, q.bind.imp fun x F1 H1 _ e1 q1 v rv => ?_⟩
          obtain ⟨t, d⟩ := x
          cases d with
          | dict kvs =>
            obtain ⟨p, es, rfl, h3, h4⟩ := res_dict rv e1.s
            have q1 : Aft F1 H1 (fun c H' => W c σ H') (match intKs kvs with | some ks => PV.guard (decide (ks.length < 64)) (.ok (.ow, .list ((ks.mergeSort fun a b => decide (a ≤ b)).map .int))) | none => .stuck) (fun x F' H' => ∀ v, Res X.K H F' H' v x → Q v H') := q1
            cases hk : intKs kvs with
            | none => rw [hk] at q1; exact q1.elim
            | some ks =>
              rw [hk] at q1
              obtain ⟨hl, q1⟩ := q1.gd
              refine ⟨p, es, ks, rfl, .inl h3, intKs_map hk h4, of_decide_eq_true hl, fun ys r pm srt nr => ?_⟩
              rw [sort_uniq pm srt]
              exact q1 F1 _ (Ext.new0 e1.s nr) _ ⟨r, rfl, e1.h.free nr, e1.s.free nr, _, upd_same, ints_isL _⟩
          | _ => exact q1.elim
        | [], _, h => simp [chkE] at h
        | [_], _ :: _, h => simp [chkE] at h
        | _ :: _ :: _, _, h => simp [chkE] at h
      | _ => simp [chkE] at h
    | _ => simp [chkE] at h
  | .callK f k es v, X, W, sc, e, ft, h => by
    cases e with
    | Call fn args kws pos =>
      cases fn with
      | Name x p =>
        match args, kws, h with
        | y :: ys, [⟨some z, u, kp⟩], h =>
          simp only [chkE, Bool.and_eq_true, decide_eq_true_eq] at h
          obtain ⟨⟨⟨⟨⟨rfl, rfl⟩, h1⟩, h2⟩, h3⟩, h4⟩ := h
          cases hG : G (kwn x z) with
          | none =>
            refine ⟨fun pins s σ H Q I q => ?_⟩
            obtain ⟨F, env, rel, q⟩ := q
            unfold ev at q
            rw [hG] at q
            exact q.elim
          | some g =>
            obtain ⟨fa, fd, ps, m, hm, hk, hb, hF, ar, hmn⟩ := ft.gc.kwf x z g hG
            refine pe_imp (pe_gk (E := WE (wx cref W)) hF (ft.rm (.inl ⟨_, g, hG⟩)).1 ft.gd (ft.gl h1) hm hk hb (fun σ => passAt ft.tk σ) (sEs es ft h3) (chks_noStar h3) (pk_cons (sE v ft h4) pk_nil) (nm_of h2).1) fun σ H Q q => ?_
            obtain ⟨F, env, rel, q⟩ := q
            unfold ev at q
            rw [hG] at q
            replace q : Aft F H (fun c H' => W c σ H') ((evs G es env).bind fun l => (ev G v env).bind fun y => (g ((l ++ [y]).map (·.2))).bind fun r => .ok (callTag (jnL (l ++ [y])) r.1 r.2, r.2)) (fun x F' H' => ∀ v, Res X.K H F' H' v x → Q v H') := q
            refine ⟨F, env, rel, q.oks fun l F1 H1 _ e1 q1 vs rv => ⟨F1, env, rel.ext e1, ?_⟩⟩
            cases hv : ev G v env with
            | stuck => rw [hv] at q1; exact q1.elim
            | exc c => rw [hv] at q1; exact fun F2 H2 e2 => q1 F2 H2 (e1.trans e2)
            | ok yv =>
              rw [hv] at q1
              replace q1 : Aft F H (fun c H' => W c σ H') ((g ((l ++ [yv]).map (·.2))).bind fun r => .ok (callTag (jnL (l ++ [yv])) r.1 r.2, r.2)) (fun x F' H' => ∀ v, Res X.K H F' H' v x → Q v H') := q1
              intro F2 H2 e2 w rw'
              have rall := rv.snoc e2 (rw'.back e1.h)
              have hl : ((l ++ [yv]).map (·.2)).length = ps.length := ar _ fun z => by
                rw [z] at q1
                exact q1.elim
              have hlen : (vs ++ [w]).length = ps.length := by
                rw [← hl]
                exact (rall.is e2.s).len
              refine ⟨?_, rfl, called (e1.trans e2) rall hlen q1⟩
              rw [List.length_append, List.length_singleton] at hlen
              omega
        | [], _, h => simp [chkE] at h
        | _ :: _, [], h => simp [chkE] at h
        | _ :: _, [⟨none, _, _⟩], h => simp [chkE] at h
        | _ :: _, ⟨some _, _, _⟩ :: _ :: _, h => simp [chkE] at h
        | _ :: _, ⟨none, _, _⟩ :: _ :: _, h => simp [chkE] at h
      | _ => simp [chkE] at h
    | _ => simp [chkE] at h
  | .bi b es, X, W, sc, e, ft, h => by
    cases e with
    | Call fn args kws pos =>
      cases fn with
      | Name x p =>
        match args, kws, h with
        | y :: ys, [], h =>
          simp only [chkE, Bool.and_eq_true, decide_eq_true_eq] at h
          obtain ⟨⟨⟨rfl, h1⟩, hq⟩, h3⟩ := h
          obtain ⟨g1, g2⟩ := ft.glN h1
          refine pe_imp (Bi.rule ft b g1 g2 (by simp only [PV.glN, Bool.and_eq_true, decide_eq_true_eq] at h1; exact h1.2) (by simpa using hq) (sEs es ft h3) (chks_noStar h3)) fun σ H Q q => ?_
          obtain ⟨F, env, rel, q⟩ := q
          unfold ev at q
          refine ⟨F, env, rel, q.bind.imp fun l F1 H1 _ e1 q1 vs rv => ?_⟩
          exact ⟨F1, l, e1.s, rv.back same0, (q1.imp fun z F3 H3 _ e3 q3 w rw' => q3 w (rw'.back e1.h)).one e1.s (evBi_exc b l)⟩
        | [], _, h => simp [chkE] at h
        | _ :: _, _ :: _, h => simp [chkE] at h
      | _ => simp [chkE] at h
    | _ => simp [chkE] at h
  | .isi a t, X, W, sc, e, ft, h => by
    cases e with
    | Call fn args kws pos =>
      cases fn with
      | Name x p =>
        match args, kws, h with
        | [y, nz], [], h =>
         cases nz with
         | Name z pz =>
          simp only [chkE, Bool.and_eq_true, decide_eq_true_eq] at h
          obtain ⟨⟨⟨⟨rfl, h1⟩, rfl⟩, h2⟩, h3⟩ := h
          obtain ⟨g1, g2⟩ := ft.glN h1
          obtain ⟨g3, g4⟩ := ft.glN h2
          have hz : PE X (.Name (Str.ofString t.name) pz) (tC (.ty t.name)) := pe_bltn (u := .type t.name) g3 g4 (ty_boot t) rfl (ty_nm t).1 (ty_nm t).2
          have st := star_cons (es := [.Name (Str.ofString t.name) pz]) (env := X.env) (chk_noStar h3)
          refine pe_imp (pe_callB (bi_isi t) g1 g2 boot_isinstance (pa_cons (sE a ft h3) (pa_cons hz pa_nil) st) (by decide) (by decide) st rfl) fun σ H Q q => ?_
          obtain ⟨F, env, rel, q⟩ := q
          unfold ev at q
          refine ⟨F, env, rel, q.bind.imp fun x F1 H1 _ e1 q1 v rv => ?_⟩
          cases hb : isT t x.2 with
          | none => rw [hb] at q1; exact q1.elim
          | some b =>
            rw [hb] at q1
            exact ⟨v, x.2, b, rfl, rv.is e1.s, hb, q1 F1 H1 (Ext.refl e1.s) _ (bool_is (K := X.K) (H := F1))⟩
         | _ => simp [chkE] at h
        | [], _, h => simp [chkE] at h
        | [_], _, h => simp [chkE] at h
        | _ :: _ :: _ :: _, _, h => simp [chkE] at h
        | [_, w], k :: ks, h => simp [chkE] at h
      | _ => simp [chkE] at h
    | _ => simp [chkE] at h
  | .join a b, X, W, sc, e, ft, h => by
    cases e with
    | Call fn args kws pos =>
      cases fn with
      | Attribute o m ap =>
        match args, kws, h with
        | [y], [], h =>
          simp only [chkE, Bool.and_eq_true, decide_eq_true_eq] at h
          obtain ⟨⟨⟨⟨rfl, h1⟩, h2⟩, h3⟩, h4⟩ := h
          have st := star_cons (es := []) (env := X.env) (chk_noStar h4)
          have hb : attributeBase o "join" X.env (eval o X.env) = eval o X.env := by cases o <;> first | rfl | cases h2
          refine pe_imp (pe_join (sE a ft h3) (sE b ft h4) st hb (beq_iff_eq.mpr h1)) fun σ H Q q => ?_
          obtain ⟨F, env, rel, q⟩ := q
          unfold ev at q
          refine ⟨F, env, rel, q.bind.imp fun x F1 H1 _ e1 q1 v rv => ?_⟩
          cases hx : x.2 with
          | str z =>
            rw [hx] at q1
            have ix := rv.is e1.s
            rw [hx] at ix
            replace q1 : Aft F1 H1 (fun c H' => W c σ H') ((ev G b env).bind fun y => evJoin z y.2) (fun x F' H' => ∀ v, Res X.K H F' H' v x → Q v H') := q1
            refine ⟨⟨z, is_str ix⟩, F1, env, rel.ext e1, q1.bind.imp fun y F2 H2 _ e2 q2 u ru => ?_⟩
            obtain ⟨t, d⟩ := y
            cases d with
            | list xs =>
              cases hs : strL xs with
              | none =>
                unfold evJoin at q2
                simp only [hs] at q2
                exact q2.elim
              | some ys =>
                unfold evJoin at q2
                simp only [hs] at q2
                obtain ⟨c, q3⟩ := q2.gd
                obtain ⟨p, vs, rfl, h5, h6⟩ := ru.list e2.s
                have hv : vs = ys.map V.str := strL_is (X := X) hs (h6.mono (hp_same e2.s))
                subst hv
                exact ⟨z, p, ys, is_str ix, rfl, .inl h5.seq, Nat.le_trans (of_decide_eq_true c) (by decide), q3 F2 H2 (Ext.refl e2.s) _ (str_is (K := X.K) (H := F2))⟩
            | _ => exact q2.elim
          | _ => rw [hx] at q1; exact q1.elim
        | [], _, h => simp [chkE] at h
        | [_], _ :: _, h => simp [chkE] at h
        | _ :: _ :: _, _, h => simp [chkE] at h
      | _ => simp [chkE] at h
    | _ => simp [chkE] at h
  | .dnew, X, W, sc, e, ft, h => by
    cases e with
    | Dict ks vs p =>
      match ks, vs, h with
      | [], [], h =>
        refine pe_imp pe_dnewK fun σ H Q q => ?_
        obtain ⟨F, env, rel, q⟩ := q
        unfold ev at q
        exact fun p np => q F _ (Ext.new0 rel.sub np) _ ⟨p, rfl, np, rel.sub.free np, [], upd_same, by simp only [IsK]⟩
      | [], _ :: _, h => simp [chkE] at h
      | _ :: _, _, h => simp [chkE] at h
    | _ => simp [chkE] at h
  | .dix a b, X, W, sc, e, ft, h => by
    cases e with
    | Subscript v s p =>
      simp only [chkE, Bool.and_eq_true] at h
      have hu : X.A.units + 1 < cLine := by
        have := ft.un
        omega
      exact pe_imp (pe_dget hu (sE a ft h.1.2) (sE b ft h.2) (noSl_of h.1.1)) fun σ H Q q => dix_read q
    | _ => simp [chkE] at h
  | .dcpy a, X, W, sc, e, ft, h => by
    cases e with
    | Call fn args kws pos =>
      cases fn with
      | Name x p =>
        match args, kws, h with
        | [y], [], h =>
          simp only [chkE, Bool.and_eq_true, decide_eq_true_eq] at h
          obtain ⟨⟨rfl, h1⟩, h2⟩ := h
          obtain ⟨g1, g2⟩ := ft.glN h1
          have st := star_cons (es := []) (env := X.env) (chk_noStar h2)
          refine pe_imp (pe_callTy call_dictD g1 g2 boot_dct (pa_cons (sE a ft h2) pa_nil st) (by decide) (by decide) st rfl) fun σ H Q q => ?_
          obtain ⟨F, env, rel, q⟩ := q
          unfold ev at q
          refine ⟨F, env, rel, q.bind.imp fun x F1 H1 _ e1 q1 v rv => ?_⟩
          obtain ⟨t, d⟩ := x
          cases d with
          | dict kvs =>
            obtain ⟨p, es, rfl, h3, h4⟩ := res_dict rv e1.s
            refine ⟨p, es, rfl, .inl h3, fun r nr => ?_⟩
            have q1 : Aft F1 H1 (fun c H' => W c σ H') (.ok (t.kid.root, .dict kvs)) (fun x F' H' => ∀ v, Res X.K H F' H' v x → Q v H') := q1
            refine q1 F1 _ (Ext.new0 e1.s nr) _ ?_
            rcases kid_cases t with z | z
            · rw [z] at h4 ⊢
              exact ⟨r, rfl, e1.h.free nr, e1.s.free nr, es, upd_same, h4⟩
            · rw [z] at h4 ⊢
              show Is X.K (upd H1 r (.dK es)) (.dict kvs) (.ref r)
              simp only [Is]
              exact ⟨r, es, rfl, upd_same, h4.mono (same_upd nr)⟩
          | _ => exact q1.elim
        | [], _, h => simp [chkE] at h
        | [_], _ :: _, h => simp [chkE] at h
        | _ :: _ :: _, _, h => simp [chkE] at h
      | _ => simp [chkE] at h
    | _ => simp [chkE] at h
  | .cpr own tg src c e, X, W, sc, x, ft, h => by
    cases x with
    | ListComp elt gs scope p =>
      match gs, h with
      | [⟨t, it, ifs, z⟩], h =>
        simp only [chkE, Bool.and_eq_true, decide_eq_true_eq] at h
        obtain ⟨⟨⟨⟨⟨⟨⟨⟨rfl, hr⟩, h1⟩, h2⟩, h3⟩, h4⟩, h5⟩, h6⟩, h7⟩ := h
        have hN := ft.hN
        have hsc := ft.hsc
        refine pe_imp (pe_lc (own := own) (ft.calm hr) (by rw [hN]; exact ft.nd) (sSrc src ft h3) (by rw [hN, hsc]; exact blkOk_by h1)
          (fun s H C cl fp => pg_of (cok := fun x => scope.names.lookup x == some .cell) (ft.blk s H scope cl C fp).hN ft.nd (ft.blk s H scope cl C fp).hsc (fun x hx => hx) (ft.calm hr) h2)
          (fun s H C cl fp => sIf c (ft.blk s H scope cl C fp) h4 h5)
          (fun s H C cl fp => sE e (ft.blk s H scope cl C fp) h6) (nofold (src_noSet h3))) fun σ H Q q => lc_read h7 σ H Q q
      | [], h => simp [chkE] at h
      | _ :: _ :: _, h => simp [chkE] at h
    | _ => simp [chkE] at h
theorem sEs : ∀ (es : Exs) {X : Cx} {W : Wd} {sc : Scope} {xs : List Expr}, Fit X W cref n G bs cs N sc → chkEs N bs es sc xs = true → PA X xs (tEs X.K W G es)
  | .nil, X, W, sc, [], ft, h => pa_imp pa_nil fun σ H Q ⟨F, env, rel, q⟩ => q F H (Ext.refl rel.sub) [] rfl
  | .nil, _, _, _, _ :: _, _, h => by simp [chkEs] at h
  | .cons _ _, _, _, _, [], _, h => by simp [chkEs] at h
  | .cons e es, X, W, sc, x :: xs, ft, h => by
    simp only [chkEs, Bool.and_eq_true] at h
    refine pa_imp (pa_cons (sE e ft h.1) (sEs es ft h.2) (star_cons (chk_noStar h.1))) fun σ H Q q => ?_
    obtain ⟨F, env, rel, q⟩ := q
    unfold evs at q
    refine ⟨F, env, rel, q.bind.imp fun a F1 H1 _ e1 q1 v rv => ⟨F1, env, rel.ext e1, q1.bind.imp fun l F2 H2 _ e2 q2 vs rvs => ?_⟩⟩
    exact q2 F2 H2 (Ext.refl e2.s) (v :: vs) ⟨v, vs, rfl, rv.mono e2, rvs.back e1.h⟩
theorem sP : ∀ (p : Pt) {X : Cx} {W : Wd} {sc : Scope} {x : Option Expr}, Fit X W cref n G bs cs N sc → chkP N bs p sc x = true → PO X x (tP X.K W G p)
  | .no, X, W, sc, none, ft, h => po_imp po_none fun σ H Q ⟨F, env, rel, q⟩ => q F H (Ext.refl rel.sub)
  | .no, _, _, _, some _, _, h => by simp [chkP] at h
  | .at _, _, _, _, none, _, h => by simp [chkP] at h
  | .at e, X, W, sc, some x, ft, h => by
    simp only [chkP] at h
    refine po_imp (po_some (sE e ft h)) fun σ H Q q => ?_
    obtain ⟨F, env, rel, q⟩ := q
    unfold evP at q
    refine ⟨F, env, rel, q.bind.imp fun a F1 H1 _ e1 q1 v rv => ?_⟩
    obtain ⟨i, hi, q2⟩ := isInt_ok q1
    have e2 := rv.is e1.s
    rw [hi] at e2
    exact ⟨i, is_int e2, q2 F1 H1 (Ext.refl e1.s)⟩
theorem sAnd : ∀ (es : Exs) {X : Cx} {W : Wd} {sc : Scope} {xs : List Expr} {p : Pos}, Fit X W cref n G bs cs N sc → chkEs N bs es sc xs = true → PE X (.BoolOp .And xs p) (tAn X.K W G es)
  | .nil, _, _, _, _, _, _, _ => ⟨fun _ _ _ _ _ _ ⟨_, _, _, q⟩ => q.elim⟩
  | .cons e .nil, X, W, sc, xs, p, ft, h => by
    match xs, h with
    | [x], h =>
      simp only [chkEs, Bool.and_eq_true] at h
      exact pe_imp (pe_one (sE e ft h.1)) fun σ H Q ⟨F, env, rel, q⟩ => ⟨F, env, rel, q⟩
    | [], h => simp [chkEs] at h
    | _ :: _ :: _, h => simp [chkEs] at h
  | .cons e (.cons e2 es), X, W, sc, xs, p, ft, h => by
    match xs, h with
    | x :: y :: ys, h =>
      have h' : chkE N bs e sc x = true ∧ chkEs N bs (.cons e2 es) sc (y :: ys) = true := by
        rw [chkEs, Bool.and_eq_true] at h
        exact h
      refine pe_imp (pe_and (sE e ft h'.1) (sAnd (.cons e2 es) ft h'.2)) fun σ H Q q => ?_
      obtain ⟨F, env, rel, q⟩ := q
      unfold evAnd at q
      refine ⟨F, env, rel, q.bind.imp fun a F1 H1 _ e1 q1 v rv => ?_⟩
      obtain ⟨b, hb, q2⟩ := isBool_ok q1
      have e2 := rv.is e1.s
      rw [hb] at e2
      refine ⟨b, is_bool e2, ?_⟩
      cases b with
      | true => exact iteT ⟨F1, env, rel.ext e1, q2.imp fun z F3 H3 _ e3 q3 w rw' => q3 w (rw'.back e1.h)⟩
      | false => exact iteF (q2 F1 H1 (Ext.refl e1.s) _ (bool_is (K := X.K) (H := F1)))
    | [], h => simp [chkEs] at h
    | [_], h => simp [chkEs] at h
theorem sOr : ∀ (es : Exs) {X : Cx} {W : Wd} {sc : Scope} {xs : List Expr} {p : Pos}, Fit X W cref n G bs cs N sc → chkEs N bs es sc xs = true → PE X (.BoolOp .Or xs p) (tOn X.K W G es)
  | .nil, _, _, _, _, _, _, _ => ⟨fun _ _ _ _ _ _ ⟨_, _, _, q⟩ => q.elim⟩
  | .cons e .nil, X, W, sc, xs, p, ft, h => by
    match xs, h with
    | [x], h =>
      simp only [chkEs, Bool.and_eq_true] at h
      exact pe_imp (pe_one (sE e ft h.1)) fun σ H Q ⟨F, env, rel, q⟩ => ⟨F, env, rel, q⟩
    | [], h => simp [chkEs] at h
    | _ :: _ :: _, h => simp [chkEs] at h
  | .cons e (.cons e2 es), X, W, sc, xs, p, ft, h => by
    match xs, h with
    | x :: y :: ys, h =>
      have h' : chkE N bs e sc x = true ∧ chkEs N bs (.cons e2 es) sc (y :: ys) = true := by
        rw [chkEs, Bool.and_eq_true] at h
        exact h
      refine pe_imp (pe_or (sE e ft h'.1) (sOr (.cons e2 es) ft h'.2)) fun σ H Q q => ?_
      obtain ⟨F, env, rel, q⟩ := q
      unfold evOr at q
      refine ⟨F, env, rel, q.bind.imp fun a F1 H1 _ e1 q1 v rv => ?_⟩
      obtain ⟨b, hb, q2⟩ := isBool_ok q1
      have e2 := rv.is e1.s
      rw [hb] at e2
      refine ⟨b, is_bool e2, ?_⟩
      cases b with
      | false => exact iteF ⟨F1, env, rel.ext e1, q2.imp fun z F3 H3 _ e3 q3 w rw' => q3 w (rw'.back e1.h)⟩
      | true => exact iteT (q2 F1 H1 (Ext.refl e1.s) _ (bool_is (K := X.K) (H := F1)))
    | [], h => simp [chkEs] at h
    | [_], h => simp [chkEs] at h
theorem sT : ∀ (t : Te) {X : Cx} {W : Wd} {sc : Scope} {e : Expr}, Fit X W cref n G bs cs N sc → chkT N bs t sc e = true → PT X e (tT X.K W G t)
  | .val ex, X, W, sc, e, ft, h => by
    simp only [chkT, Bool.and_eq_true] at h
    obtain ⟨hv, h⟩ := h
    have P := sE ex ft h
    cases e with
    | Call fn args kws pos => exact pt_imp (pt_val P) fun σ H Q q => val_read q
    | Compare l ops rs p =>
      cases ex with
      | cmp o a b =>
        match ops, rs, h with
        | [op], [r], h =>
          simp only [chkE, Bool.and_eq_true, decide_eq_true_eq] at h
          obtain ⟨⟨rfl, h1⟩, h2⟩ := h
          exact pt_imp (pt_cmpR (op_cmp ft.un o) (sE a ft h1) (sE b ft h2) (nomark_of (chk_noSet h2))) fun σ H Q q => cmp_read (val_read q)
        | [], _, h => simp [chkE] at h
        | _ :: _ :: _, [], h => simp [chkE] at h
        | [_], [], h => simp [chkE] at h
        | [_], _ :: _ :: _, h => simp [chkE] at h
        | _ :: _ :: _, _ :: _, h => simp [chkE] at h
      | chn o o2 a b c =>
        match ops, rs, h with
        | [op, op'], [m, r], h =>
          simp only [chkE, Bool.and_eq_true, decide_eq_true_eq] at h
          obtain ⟨⟨⟨⟨rfl, rfl⟩, h1⟩, h2⟩, h3⟩ := h
          exact pt_imp (pt_chain (op_cmp ft.un o) (op_cmp ft.un o2) (sE a ft h1) (sE b ft h2) (sE c ft h3) (show lastMarks [_, _] [_, _] = false from nomark_of (chk_noSet h3))) fun σ H Q q => chn_read (val_read q)
        | [], _, h => simp [chkE] at h
        | [_], _, h => simp [chkE] at h
        | [_, _], [], h => simp [chkE] at h
        | [_, _], [_], h => simp [chkE] at h
        | [_, _], _ :: _ :: _ :: _, h => simp [chkE] at h
        | _ :: _ :: _ :: _, _, h => simp [chkE] at h
      | _ => simp [chkE, frzE, isLC] at h
    | _ => cases hv
  | .tru ex, X, W, sc, e, ft, h => by
    simp only [chkT, Bool.and_eq_true] at h
    obtain ⟨hv, h⟩ := h
    have P := sE ex ft h
    cases e with
    | Name x p => exact pt_imp (pt_truth P fun _ => rfl) fun σ H Q q => tru_read q
    | Subscript v s p => exact pt_imp (pt_truth P fun _ => rfl) fun σ H Q q => tru_read q
    | Call fn args kws pos => exact pt_imp (pt_truth P fun _ => rfl) fun σ H Q q => tru_read q
    | _ => cases hv
  | .not a, X, W, sc, e, ft, h => by
    cases e with
    | UnaryOp op x p =>
      cases op with
      | Not =>
        simp only [chkT] at h
        refine pt_imp (pt_not (sT a ft h)) fun σ H Q q => ?_
        obtain ⟨F, env, rel, q⟩ := q
        unfold evT at q
        exact ⟨F, env, rel, q.bind.imp fun b F1 H1 _ e1 q1 => q1 F1 H1 (Ext.refl e1.s)⟩
      | _ => simp [chkT] at h
    | _ => simp [chkT] at h
  | .and ts, X, W, sc, e, ft, h => by
    cases e with
    | BoolOp op xs p =>
      cases op with
      | And =>
        simp only [chkT, Bool.and_eq_true] at h
        exact pt_imp (sTsA ts ft h.2 h.1).pt fun σ H Q ⟨F, env, rel, q⟩ => ⟨F, env, rel, by unfold evT at q; exact q⟩
      | Or => simp [chkT] at h
    | _ => simp [chkT] at h
  | .or ts, X, W, sc, e, ft, h => by
    cases e with
    | BoolOp op xs p =>
      cases op with
      | Or =>
        simp only [chkT, Bool.and_eq_true] at h
        exact pt_imp (sTsO ts ft h.2 h.1).pt fun σ H Q ⟨F, env, rel, q⟩ => ⟨F, env, rel, by unfold evT at q; exact q⟩
      | And => simp [chkT] at h
    | _ => simp [chkT] at h
theorem sTsA : ∀ (ts : Tes) {X : Cx} {W : Wd} {sc : Scope} {xs : List Expr} {p : Pos}, Fit X W cref n G bs cs N sc → chkTs N bs ts sc xs = true → (!xs.isEmpty) = true → PW X (.BoolOp .And xs p) (tTA X.K W G ts)
  | .nil, X, W, sc, xs, p, ft, h, ne => by
    cases xs with
    | nil => cases ne
    | cons x xs => simp [chkTs] at h
  | .cons t ts, X, W, sc, xs, p, ft, h, ne => by
    match xs, h with
    | [], h => simp [chkTs] at h
    | [x], h =>
      simp only [chkTs, Bool.and_eq_true] at h
      refine pw_imp (pw_and1 (sT t ft h.1)) fun σ H Q q => ?_
      have hn : ts = .nil := by
        cases ts with
        | nil => rfl
        | cons a b => simp [chkTs] at h
      subst hn
      obtain ⟨F, env, rel, q⟩ := q
      unfold evTA at q
      refine ⟨F, env, rel, q.oks fun b F1 H1 _ e1 q1 => ?_⟩
      cases b with
      | true => exact q1 F1 H1 e1
      | false => exact q1 F1 H1 e1
    | x :: y :: ys, h =>
      have h' : chkT N bs t sc x = true ∧ chkTs N bs ts sc (y :: ys) = true := by
        rw [chkTs, Bool.and_eq_true] at h
        exact h
      refine pw_imp (pw_and (sT t ft h'.1) (sTsA ts ft h'.2 rfl)) fun σ H Q q => ?_
      obtain ⟨F, env, rel, q⟩ := q
      unfold evTA at q
      refine ⟨F, env, rel, q.bind.imp fun b F1 H1 _ e1 q1 => ?_⟩
      cases b with
      | true => exact iteT ⟨F1, env, rel.ext e1, q1⟩
      | false => exact iteF (q1 F1 H1 (Ext.refl e1.s))
theorem sTsO : ∀ (ts : Tes) {X : Cx} {W : Wd} {sc : Scope} {xs : List Expr} {p : Pos}, Fit X W cref n G bs cs N sc → chkTs N bs ts sc xs = true → (!xs.isEmpty) = true → PW X (.BoolOp .Or xs p) (tTO X.K W G ts)
  | .nil, X, W, sc, xs, p, ft, h, ne => by
    cases xs with
    | nil => cases ne
    | cons x xs => simp [chkTs] at h
  | .cons t ts, X, W, sc, xs, p, ft, h, ne => by
    match xs, h with
    | [], h => simp [chkTs] at h
    | [x], h =>
      simp only [chkTs, Bool.and_eq_true] at h
      refine pw_imp (pw_or1 (sT t ft h.1)) fun σ H Q q => ?_
      have hn : ts = .nil := by
        cases ts with
        | nil => rfl
        | cons a b => simp [chkTs] at h
      subst hn
      obtain ⟨F, env, rel, q⟩ := q
      unfold evTO at q
      refine ⟨F, env, rel, q.oks fun b F1 H1 _ e1 q1 => ?_⟩
      cases b with
      | true => exact q1 F1 H1 e1
      | false => exact q1 F1 H1 e1
    | x :: y :: ys, h =>
      have h' : chkT N bs t sc x = true ∧ chkTs N bs ts sc (y :: ys) = true := by
        rw [chkTs, Bool.and_eq_true] at h
        exact h
      refine pw_imp (pw_or (sT t ft h'.1) (sTsO ts ft h'.2 rfl)) fun σ H Q q => ?_
      obtain ⟨F, env, rel, q⟩ := q
      unfold evTO at q
      refine ⟨F, env, rel, q.bind.imp fun b F1 H1 _ e1 q1 => ?_⟩
      cases b with
      | false => exact iteF ⟨F1, env, rel.ext e1, q1⟩
      | true => exact iteT (q1 F1 H1 (Ext.refl e1.s))
theorem sIf : ∀ (ts : Tes) {X : Cx} {W : Wd} {sc : Scope} {xs : List Expr}, Fit X W cref n G bs cs N sc → chkTs N bs ts sc xs = true → xs.length ≤ 1 → PTs X xs (tTA X.K W G ts)
  | .nil, X, W, sc, xs, ft, h, hl => by
    cases xs with
    | nil => exact ⟨fun pins s σ H Q I q => pts_nil.run pins s σ H Q I (by obtain ⟨F, env, rel, q⟩ := q; unfold evTA at q; exact q F H (Ext.refl rel.sub))⟩
    | cons x xs => simp [chkTs] at h
  | .cons t ts, X, W, sc, xs, ft, h, hl => by
    match xs, h, hl with
    | [], h, _ => simp [chkTs] at h
    | [x], h, _ =>
      simp only [chkTs, Bool.and_eq_true] at h
      have hn : ts = .nil := by
        cases ts with
        | nil => rfl
        | cons a b => simp [chkTs] at h
      subst hn
      refine ⟨fun pins s σ H Q I q => (pts_one (sT t ft h.1)).run pins s σ H Q I ?_⟩
      obtain ⟨F, env, rel, q⟩ := q
      unfold evTA at q
      refine ⟨F, env, rel, q.oks fun b F1 H1 _ e1 q1 => ?_⟩
      cases b with
      | true => exact q1 F1 H1 e1
      | false => exact q1 F1 H1 e1
    | _ :: _ :: _, _, hl => exact absurd hl (by simp)
theorem sSrc : ∀ (src : Src) {X : Cx} {W : Wd} {sc : Scope} {tg e : Expr}, Fit X W cref n G bs cs N sc → chkSrc N bs src sc e tg = true → PI X tg e (tSrc X.K W G src)
  | .lst a, X, W, sc, tg, e, ft, h => by
    simp only [chkSrc, Bool.and_eq_true] at h
    refine pi_imp (pi_list (sE a ft h.2)) fun σ H R' q => ?_
    obtain ⟨F, env, rel, q⟩ := q
    unfold evSrc at q
    refine ⟨F, env, rel, q.bind.imp fun x F1 H1 _ e1 q1 v rv => ?_⟩
    obtain ⟨t, d⟩ := x
    cases d with
    | list ds =>
      obtain ⟨a, vs, rfl, h1, h2⟩ := rv.list e1.s
      refine ⟨a, rfl, ⟨vs, h1.seq⟩, q1 F1 H1 (Ext.refl e1.s) _ (ok_list h1 h2) fun c => ?_⟩
      obtain ⟨F2, e2, _, i2⟩ := res_dm2 e1 rv c
      obtain ⟨a', vs', z, h3, h4⟩ := is_list i2
      cases z
      exact ⟨F2, e2, ok_list h3 h4⟩
    | _ => exact q1.elim
  | .tup a, X, W, sc, tg, e, ft, h => by
    simp only [chkSrc, Bool.and_eq_true] at h
    refine pi_imp (pi_tup (sE a ft h.2)) fun σ H R' q => ?_
    obtain ⟨F, env, rel, q⟩ := q
    unfold evSrc at q
    refine ⟨F, env, rel, q.bind.imp fun x F1 H1 _ e1 q1 v rv => ?_⟩
    obtain ⟨t, d⟩ := x
    cases d with
    | tuple ds =>
      obtain ⟨a, vs, rfl, h1, h2⟩ := rv.tuple e1.s
      refine ⟨a, rfl, ⟨vs, h1⟩, q1 F1 H1 (Ext.refl e1.s) _ (ok_tup h1 h2) fun c => ?_⟩
      obtain ⟨F2, e2, _, i2⟩ := res_dm2 e1 rv c
      obtain ⟨a', vs', z, h3, h4⟩ := is_tuple i2
      cases z
      exact ⟨F2, e2, ok_tup h3 h4⟩
    | _ => exact q1.elim
  | .rg1 a, X, W, sc, tg, e, ft, h => by
    cases e with
    | Call fn args kws pos =>
      cases fn with
      | Name x p =>
        match args, kws, h with
        | [y], [], h =>
          simp only [chkSrc, Bool.and_eq_true, decide_eq_true_eq] at h
          obtain ⟨⟨rfl, h1⟩, h2⟩ := h
          obtain ⟨g1, g2⟩ := ft.glN h1
          have st := star_cons (es := []) (env := X.env) (chk_noStar h2)
          refine pi_imp (pi_range1 g1 g2 (pa_cons (sE a ft h2) pa_nil st) st) fun σ H R' q => ?_
          obtain ⟨F, env, rel, q⟩ := q
          unfold evSrc at q
          refine ⟨F, env, rel, q.bind.imp fun x F1 H1 _ e1 q1 v rv => ?_⟩
          obtain ⟨j, hj, q2⟩ := isInt_ok q1
          have e2 := rv.is e1.s
          rw [hj] at e2
          by_cases hs : small j = true
          · rw [if_pos hs] at q2
            simp only [small, Bool.and_eq_true, decide_eq_true_eq] at hs
            refine ⟨j, by rw [is_int e2], hs.1, hs.2, q2 F1 H1 (Ext.refl e1.s) _ ?_ fun _ => ⟨F1, e1, ?_⟩⟩
            · have := ok_rng (K := X.K) (lo := 0) (hi := j) (Po := H1) (Pi := hp Tag.sh.kid F1 H1)
              rwa [Int.sub_zero] at this
            · have := ok_rng (K := X.K) (lo := 0) (hi := j) (Po := F1) (Pi := F1)
              rwa [Int.sub_zero] at this
          · rw [if_neg hs] at q2
            exact q2.elim
        | [], _, h => simp [chkSrc] at h
        | [_], _ :: _, h => simp [chkSrc] at h
        | _ :: _ :: _, _, h => simp [chkSrc] at h
      | _ => simp [chkSrc] at h
    | _ => simp [chkSrc] at h
  | .rg2 a b, X, W, sc, tg, e, ft, h => by
    cases e with
    | Call fn args kws pos =>
      cases fn with
      | Name x p =>
        match args, kws, h with
        | [y, z], [], h =>
          simp only [chkSrc, Bool.and_eq_true, decide_eq_true_eq] at h
          obtain ⟨⟨⟨rfl, h1⟩, h2⟩, h3⟩ := h
          obtain ⟨g1, g2⟩ := ft.glN h1
          have st := star_cons (es := []) (env := X.env) (chk_noStar h3)
          have st2 := star_cons (es := [z]) (env := X.env) (chk_noStar h2)
          refine pi_imp (pi_range2 g1 g2 (pa_cons (sE a ft h2) (pa_cons (sE b ft h3) pa_nil st) st2) (by rw [st2, st]; rfl) st) fun σ H R' q => ?_
          obtain ⟨F, env, rel, q⟩ := q
          unfold evSrc at q
          refine ⟨F, env, rel, q.bind.imp fun x F1 H1 _ e1 q1 v rv => ⟨F1, env, rel.ext e1, q1.bind.imp fun y F2 H2 _ e2 q2 u ru => ?_⟩⟩
          obtain ⟨i, hi, q3⟩ := isInt_ok q2
          obtain ⟨j, hj, q4⟩ := isInt_ok q3
          have i1 := rv.is e1.s
          have i2 := ru.is e2.s
          rw [hi] at i1
          rw [hj] at i2
          by_cases hs : (small i && small j) = true
          · rw [if_pos hs] at q4
            simp only [small, Bool.and_eq_true, decide_eq_true_eq] at hs
            exact ⟨i, j, by rw [is_int i1, is_int i2], ⟨hs.1.1, hs.1.2, hs.2.1, hs.2.2⟩, q4 F2 H2 (Ext.refl e2.s) _ ok_rng fun _ => ⟨F2, e1.trans e2, ok_rng⟩⟩
          · rw [if_neg hs] at q4
            exact q4.elim
        | [], _, h => simp [chkSrc] at h
        | [_], _, h => simp [chkSrc] at h
        | [_, _], _ :: _, h => simp [chkSrc] at h
        | _ :: _ :: _ :: _, _, h => simp [chkSrc] at h
      | _ => simp [chkSrc] at h
    | _ => simp [chkSrc] at h
  | .rgd a b, X, W, sc, tg, e, ft, h => by
    cases e with
    | Call fn args kws pos =>
      cases fn with
      | Name x p =>
        match args, kws, h with
        | [y, z, u], [], h =>
          simp only [chkSrc, Bool.and_eq_true, decide_eq_true_eq] at h
          obtain ⟨⟨⟨⟨hu, rfl⟩, h1⟩, h2⟩, h3⟩ := h
          obtain ⟨g1, g2⟩ := ft.glN h1
          obtain ⟨pu, su⟩ := m1_ok (X := X) hu
          have st := star_cons (es := []) (env := X.env) su
          have st1 := star_cons (es := [u]) (env := X.env) (chk_noStar h3)
          have st2 := star_cons (es := [z, u]) (env := X.env) (chk_noStar h2)
          refine pi_imp (pi_range3 g1 g2 (pa_cons (sE a ft h2) (pa_cons (sE b ft h3) (pa_cons pu pa_nil st) st1) st2) st2 (by rw [st1, st]; rfl)) fun σ H R' q => ?_
          obtain ⟨F, env, rel, q⟩ := q
          unfold evSrc at q
          refine ⟨F, env, rel, q.bind.imp fun x F1 H1 _ e1 q1 v rv => ⟨F1, env, rel.ext e1, q1.bind.imp fun y F2 H2 _ e2 q2 u ru => ?_⟩⟩
          obtain ⟨i, hi, q3⟩ := isInt_ok q2
          obtain ⟨j, hj, q4⟩ := isInt_ok q3
          have i1 := rv.is e1.s
          have i2 := ru.is e2.s
          rw [hi] at i1
          rw [hj] at i2
          by_cases hs : (small i && small j) = true
          · rw [if_pos hs] at q4
            simp only [small, Bool.and_eq_true, decide_eq_true_eq] at hs
            exact ⟨i, j, -1, (i - j).toNat, by rw [is_int i1, is_int i2], RgC.neg hs.1.1 hs.1.2 hs.2.1 hs.2.2, q4 F2 H2 (Ext.refl e2.s) _ ok_rgd fun _ => ⟨F2, e1.trans e2, ok_rgd⟩⟩
          · rw [if_neg hs] at q4
            exact q4.elim
        | [], _, h => simp [chkSrc] at h
        | [_], _, h => simp [chkSrc] at h
        | [_, _], _, h => simp [chkSrc] at h
        | [_, _, _], _ :: _, h => simp [chkSrc] at h
        | _ :: _ :: _ :: _ :: _, _, h => simp [chkSrc] at h
      | _ => simp [chkSrc] at h
    | _ => simp [chkSrc] at h
  | .enu a, X, W, sc, tg, e, ft, h => by
    cases e with
    | Call fn args kws pos =>
      cases fn with
      | Name x p =>
        match args, kws, h with
        | [y], [], h =>
          simp only [chkSrc, Bool.and_eq_true, decide_eq_true_eq] at h
          obtain ⟨⟨⟨rfl, h1⟩, h2⟩, h3⟩ := h
          obtain ⟨g1, g2⟩ := ft.glN h1
          have st := star_cons (es := []) (env := X.env) (chk_noStar h2)
          cases tg with
          | Tuple es k tp =>
            refine pi_imp (pi_enum g1 g2 (pa_cons (sE a ft h2) pa_nil st) st) fun σ H R' q => ?_
            obtain ⟨F, env, rel, q⟩ := q
            unfold evSrc at q
            refine ⟨F, env, rel, q.bind.imp fun x F1 H1 _ e1 q1 v rv => ?_⟩
            obtain ⟨t, d⟩ := x
            cases d with
            | list ds =>
              obtain ⟨a, vs, rfl, h1, h2⟩ := rv.list e1.s
              refine ⟨a, vs, rfl, h1.seq, q1 F1 H1 (Ext.refl e1.s) _ (ok_enum h1 h2) fun c => ?_⟩
              obtain ⟨F2, e2, _, i2⟩ := res_dm2 e1 rv c
              obtain ⟨a', vs', z, h3, h4⟩ := is_list i2
              cases z
              exact ⟨F2, e2, ok_enum h3 h4⟩
            | _ => exact q1.elim
          | _ => cases h3
        | [], _, h => simp [chkSrc] at h
        | [_], _ :: _, h => simp [chkSrc] at h
        | _ :: _ :: _, _, h => simp [chkSrc] at h
      | _ => simp [chkSrc] at h
    | _ => simp [chkSrc] at h
  | .zip a b, X, W, sc, tg, e, ft, h => by
    cases e with
    | Call fn args kws pos =>
      cases fn with
      | Name x p =>
        match args, kws, h with
        | [y, z], [], h =>
          simp only [chkSrc, Bool.and_eq_true, decide_eq_true_eq] at h
          obtain ⟨⟨⟨⟨rfl, h1⟩, h2⟩, h3⟩, h4⟩ := h
          obtain ⟨g1, g2⟩ := ft.glN h1
          have st := star_cons (es := []) (env := X.env) (chk_noStar h3)
          have st2 := star_cons (es := [z]) (env := X.env) (chk_noStar h2)
          cases tg with
          | Tuple es k tp =>
            refine pi_imp (pi_zip g1 g2 (pa_cons (sE a ft h2) (pa_cons (sE b ft h3) pa_nil st) st2) st2 (by rw [st]; rfl)) fun σ H R' q => ?_
            obtain ⟨F, env, rel, q⟩ := q
            unfold evSrc at q
            refine ⟨F, env, rel, q.bind.imp fun x F1 H1 _ e1 q1 v rv => ⟨F1, env, rel.ext e1, q1.bind.imp fun y F2 H2 _ e2 q2 u ru => ?_⟩⟩
            obtain ⟨t, d⟩ := x
            obtain ⟨t2, d2⟩ := y
            cases d with
            | list ds =>
              cases d2 with
              | list es =>
                have rv2 := rv.mono e2
                obtain ⟨a, vs, rfl, h1, h2⟩ := rv2.list e2.s
                obtain ⟨b, ws, rfl, h3, h4⟩ := ru.list e2.s
                have m := zt_kid t t2 e2.s
                refine ⟨a, b, vs, ws, rfl, h1.seq, h3.seq, q2 F2 H2 (Ext.refl e2.s) _ (ok_zip h1 (h2.mono m.1) h3 (h4.mono m.2)) fun c => ?_⟩
                obtain ⟨c1, c2⟩ := zt_dm c
                have e3 := e1.trans e2
                obtain ⟨F3, e4, s4, i3⟩ := dm_one rv2 c1 e3 (Same.refl _)
                obtain ⟨F4, e5, s5, i4⟩ := dm_one (ru.back e1.h) c2 e4 s4
                obtain ⟨a', vs', z, h5, h6⟩ := is_list (i3.mono s5)
                cases z
                obtain ⟨b', ws', z, h7, h8⟩ := is_list i4
                cases z
                exact ⟨F4, e5, ok_zip h5 h6 h7 h8⟩
              | _ => exact q2.elim
            | _ => exact q2.elim
          | _ => cases h4
        | [], _, h => simp [chkSrc] at h
        | [_], _, h => simp [chkSrc] at h
        | [_, _], _ :: _, h => simp [chkSrc] at h
        | _ :: _ :: _ :: _, _, h => simp [chkSrc] at h
      | _ => simp [chkSrc] at h
    | _ => simp [chkSrc] at h
  | .rev a, X, W, sc, tg, e, ft, h => by
    cases e with
    | Call fn args kws pos =>
      cases fn with
      | Name x p =>
        match args, kws, h with
        | [y], [], h =>
          simp only [chkSrc, Bool.and_eq_true, decide_eq_true_eq] at h
          obtain ⟨⟨rfl, h1⟩, h2⟩ := h
          obtain ⟨g1, g2⟩ := ft.glN h1
          have st := star_cons (es := []) (env := X.env) (chk_noStar h2)
          refine pi_imp (pi_reversed g1 g2 (pa_cons (sE a ft h2) pa_nil st) st) fun σ H R' q => ?_
          obtain ⟨F, env, rel, q⟩ := q
          unfold evSrc at q
          refine ⟨F, env, rel, q.bind.imp fun x F1 H1 _ e1 q1 v rv => ?_⟩
          obtain ⟨t, d⟩ := x
          cases d with
          | list ds =>
            obtain ⟨a, vs, rfl, h1, h2⟩ := rv.list e1.s
            refine ⟨a, vs, rfl, h1.seq, q1 F1 H1 (Ext.refl e1.s) _ (ok_rev h1 h2) fun c => ?_⟩
            obtain ⟨F2, e2, _, i2⟩ := res_dm2 e1 rv c
            obtain ⟨a', vs', z, h3, h4⟩ := is_list i2
            cases z
            have := h4.len.trans h2.len.symm
            rw [← this]
            exact ⟨F2, e2, ok_rev h3 h4⟩
          | _ => exact q1.elim
        | [], _, h => simp [chkSrc] at h
        | [_], _ :: _, h => simp [chkSrc] at h
        | _ :: _ :: _, _, h => simp [chkSrc] at h
      | _ => simp [chkSrc] at h
    | _ => simp [chkSrc] at h
end
end
end PV

/-! PvStA: the state at a statement; loops; steps. -/
namespace PV
open PySem PySem.Spec PyProof.Rows L2

/-- the state at a statement: B0, A0 are the frozen part and the heap it is measured from -/
structure SRel (K : PySem.W.Frag) (B0 A0 F H : Hp) (σ : L2.St) (env : Env) : Prop where
  ra : RelA K A0 F H σ env
  ext : Ext B0 A0 F H
theorem SRel.rel {K : PySem.W.Frag} {B0 A0 F H : Hp} {σ : L2.St} {env : Env} (r : SRel K B0 A0 F H σ env) : Rel K F H σ env := r.ra.rel
def Post (K : PySem.W.Frag) (B0 A0 : Hp) (W : Wd) (E : Ends) : Out → Prop
  | .nx e => ∀ σ F H, SRel K B0 A0 F H σ e → E.nx σ H
  | .brk e => ∀ σ F H, SRel K B0 A0 F H σ e → E.bk σ H
  | .cnt e => ∀ σ F H, SRel K B0 A0 F H σ e → E.ct σ H
  | .ret t d => ∀ v F H, Ext B0 A0 F H → Res K A0 F H v (t, d) → E.rt v H
  | .exc c e => ∀ σ F H, SRel K B0 A0 F H σ e → W c σ H
  | .stuck => False
def tS (K : PySem.W.Frag) (W : Wd) (G : Gam) (n : Nat) (x : Sx) : TS := fun E σ H => ∃ B0 A0 F env, SRel K B0 A0 F H σ env ∧ Post K B0 A0 W E (evS G n x env)
def tSs (K : PySem.W.Frag) (W : Wd) (G : Gam) (n : Nat) (x : List Sx) : TS := fun E σ H => ∃ B0 A0 F env, SRel K B0 A0 F H σ env ∧ Post K B0 A0 W E (evSs G n x env)
section
variable {K : PySem.W.Frag} {B0 A0 B1 F H F' H' : Hp} {σ : L2.St} {env : Env} {W : Wd} {G : Gam} {E : Ends}
theorem SRel.next (r : SRel K B0 A0 F H σ env) (e : Ext F H F' H') : SRel K B0 A0 F' H' σ env := ⟨r.ra.ext e, r.ext.trans e⟩
theorem SRel.rebase (r : SRel K B0 A0 F H σ env) : SRel K F A0 F H σ env := ⟨r.ra, ⟨Same.refl _, r.ext.h, r.ext.s, fun _ h => .inl h⟩⟩
theorem SRel.back (e : Ext B0 A0 B1 H') (r : SRel K B1 A0 F H σ env) : SRel K B0 A0 F H σ env :=
  ⟨r.ra, ⟨e.f.trans r.ext.f, r.ext.h, r.ext.s, fun p h => by
    rcases r.ext.n p h with z | z
    · exact e.n p z
    · exact .inr z⟩⟩
theorem Ext.back2 (e : Ext B0 A0 B1 H') (r : Ext B1 A0 F H) : Ext B0 A0 F H :=
  ⟨e.f.trans r.f, r.h, r.s, fun p h => by
    rcases r.n p h with z | z
    · exact e.n p z
    · exact .inr z⟩
theorem Post.rebase {o : Out} (e : Ext B0 A0 B1 H') (h : Post K B0 A0 W E o) : Post K B1 A0 W E o := by
  cases o with
  | nx x => exact fun σ F H r => h σ F H (r.back e)
  | brk x => exact fun σ F H r => h σ F H (r.back e)
  | cnt x => exact fun σ F H r => h σ F H (r.back e)
  | ret t d => exact fun v F H r q => h v F H (Ext.back2 e r) q
  | exc c x => exact fun σ F H r => h σ F H (r.back e)
  | stuck => exact h
theorem SRel.set (r : SRel K B0 A0 F H σ env) {i : Nat} {v : V} {d : D} (h : Is K F d v) : SRel K B0 A0 F H (σ.set i (some v)) (env.set i (.sh d)) := ⟨r.ra.set h, r.ext⟩
theorem SRel.sets : ∀ {is : List Nat} {ds : List D} {vs : List V} {σ : L2.St} {env : Env}, SRel K B0 A0 F H σ env → IsL K F ds vs → SRel K B0 A0 F H ((is.zip vs).foldl (fun e p => e.set p.1 (some p.2)) σ) ((is.zip ds).foldl (fun e p => e.set p.1 (.sh p.2)) env)
  | [], _, _, _, _, r, _ => r
  | i :: is, [], vs, _, _, r, h => by
    simp only [IsL] at h
    subst h
    exact r
  | i :: is, d :: ds, _, σ, env, r, h => by
    simp only [IsL] at h
    obtain ⟨v, w, rfl, h1, h2⟩ := h
    show SRel K B0 A0 F H ((is.zip w).foldl (fun e p => e.set p.1 (some p.2)) (σ.set i (some v))) ((is.zip ds).foldl (fun e p => e.set p.1 (.sh p.2)) (env.set i (.sh d)))
    exact SRel.sets (r.set h1) h2
theorem SRel.bind {env2 : Env} {tg : Tg} {d : D} {v : V} {Q : L2.St → Hp → Prop} {t : Tag} (r : SRel K B0 A0 F H σ env) (h : Is K F d v) (e : bindT tg (t, d) env = some env2) (k : ∀ σ2, SRel K B0 A0 F H σ2 env2 → Q σ2 H) : gTg K tg v σ H Q := by
  cases tg with
  | nm i =>
    cases t <;> first | cases e | skip
    exact k _ (r.set h)
  | tp is =>
    cases t <;> first | (cases d <;> cases e) | skip
    cases d with
    | tuple ds =>
      by_cases hl : ds.length = is.length
      · simp only [bindT, if_pos hl] at e
        cases e
        obtain ⟨a, vs, rfl, h1, h2⟩ := is_tuple h
        exact ⟨a, vs, rfl, sqT_mono r.rel.sub h1, by rw [h2.len, hl], gNs_go (by rw [h2.len, hl]) (k _ (r.sets h2))⟩
      · simp only [bindT, if_neg hl] at e
        cases e
    | _ => cases e
theorem SRel.setO (r : SRel K B0 A0 F H σ env) (e : Ext F H F' H') {i : Nat} {p : Addr} {d : D} (h : Root K F' H' p d) (n : H p = none) : SRel K B0 A0 F' H' (σ.set i (some (.ref p))) (env.set i (.ow d)) :=
  ⟨r.ra.setO e h n (r.ext.h.free n), r.ext.trans e⟩
theorem SRel.setT (r : SRel K B0 A0 F H σ env) (e : Ext F H F' H') {i : Nat} {v : V} {d : D} {fp : List Addr} (h : Own K F' H' d v fp) (n : ∀ a ∈ fp, H a = none) : SRel K B0 A0 F' H' (σ.set i (some v)) (env.set i (.od d)) :=
  ⟨r.ra.setT e h n fun a ha => r.ext.h.free (n a ha), r.ext.trans e⟩
theorem SRel.freeze (r : SRel K B0 A0 F H σ env) {i : Nat} {d : D} (h : env[i]? = some (.ow d) ∨ env[i]? = some (.od d)) : ∃ F2, SRel K B0 A0 F2 H σ (env.set i (.sh d)) ∧ Same F F2 := by
  obtain ⟨fp, h1, h2⟩ := r.ra.freeze h
  have s := frzAt_same (fp := fp) r.rel.sub
  refine ⟨_, ⟨h2, ⟨r.ext.f.trans s, r.ext.h, frzAt_sub r.rel.sub, fun q z => ?_⟩⟩, s⟩
  by_cases c : q ∈ fp
  · exact .inr (h1 q c).2
  · rw [frzAt_out c] at z
    exact r.ext.n q z
theorem SRel.frz : ∀ {fz : List Nat} {F : Hp} {env : Env}, SRel K B0 A0 F H σ env → ∃ F2, SRel K B0 A0 F2 H σ (frz fz env)
  | [], F, env, r => ⟨F, r⟩
  | i :: fz, F, env, r => by
    unfold PV.frz
    split
    · rename_i d hd
      obtain ⟨F2, r2, _⟩ := r.freeze (.inl hd)
      exact SRel.frz r2
    · rename_i d hd
      obtain ⟨F2, r2, _⟩ := r.freeze (.inr hd)
      exact SRel.frz r2
    · exact SRel.frz r
/-- an own slot's list written -/
theorem SRel.write (r : SRel K B0 A0 F H σ env) {i : Nat} {p : Addr} {ds ds' : List D} {vs' : List V} (h : env[i]? = some (.ow (.list ds))) (hp : σ[i]? = some (some (.ref p))) (hr : Root K F H p (.list ds)) (n : IsL K F ds' vs') :
    SRel K B0 A0 F (upd H p (.lst vs')) σ (env.set i (.ow (.list ds'))) :=
  ⟨r.ra.write h hp ⟨hr.fno, vs', upd_same, n⟩, r.ext.mut (r.ra.ownA h hp) hr.fno⟩
/-- an own slot's dict written -/
theorem SRel.writeD (r : SRel K B0 A0 F H σ env) {i : Nat} {p : Addr} {ds ds' : List (D × D)} {es' : List (Key × V)} (h : env[i]? = some (.ow (.dict ds))) (hp : σ[i]? = some (some (.ref p))) (hr : Root K F H p (.dict ds)) (n : IsK K F ds' es') :
    SRel K B0 A0 F (upd H p (.dK es')) σ (env.set i (.ow (.dict ds'))) :=
  ⟨r.ra.write h hp ⟨hr.fno, es', upd_same, n⟩, r.ext.mut (r.ra.ownA h hp) hr.fno⟩
theorem ownD_ok {i : Nat} {ds : List (D × D)} (h : ownD env i = .ok ds) : env[i]? = some (.ow (.dict ds)) := by
  unfold ownD at h
  split at h
  · rename_i q
    cases h
    exact q
  · cases h
theorem ownD_exc {i : Nat} : ∀ c, ownD env i ≠ .exc c := fun c h => by
  unfold ownD at h
  split at h <;> cases h
/-- behind a reckoning -/
theorem SRel.aft {α : Type} {r : R α} {k : α → Out} (q : SRel K B0 A0 F H σ env) (h : Post K B0 A0 W E (Out.of env r k)) :
    Aft F H (fun c H' => W c σ H') r fun a F' H' => SRel K B0 A0 F' H' σ env ∧ Post K B0 A0 W E (k a) := by
  cases r with
  | ok a => exact fun F' H' e => ⟨q.next e, h⟩
  | exc c => exact fun F' H' e => h σ F' H' (q.next e)
  | stuck => exact h
theorem SRel.aftE {e : Ex} {k : TD → Out} (q : SRel K B0 A0 F H σ env) (h : Post K B0 A0 W E (Out.of env (ev G e env) k)) {Q : VK} (c : ∀ x F' H' v, Ext F H F' H' → Res K H F' H' v x → SRel K B0 A0 F' H' σ env → Post K B0 A0 W E (k x) → Q v H') : tE K W G e σ H Q :=
  ⟨F, env, q.rel, (q.aft h).imp fun x F' H' _ e1 ⟨s, p⟩ v rv => c x F' H' v e1 rv s p⟩
theorem Post.isInt {d : D} {k : Int → Out} (h : Post K B0 A0 W E (Out.of env (isInt d) k)) : ∃ i, d = .int i ∧ Post K B0 A0 W E (k i) := by
  cases d with
  | int i => exact ⟨i, rfl, h⟩
  | _ => exact h.elim
theorem Post.ok {α : Type} {r : R α} {k : α → Out} (h : Post K B0 A0 W E (Out.of env r k)) (ne : ∀ c, r ≠ .exc c) : ∃ a, r = .ok a ∧ Post K B0 A0 W E (k a) := by
  cases r with
  | ok a => exact ⟨a, rfl, h⟩
  | exc c => exact absurd rfl (ne c)
  | stuck => exact h.elim
theorem ownL_ok {i : Nat} {ds : List D} (h : ownL env i = .ok ds) : env[i]? = some (.ow (.list ds)) := by
  unfold ownL at h
  split at h
  · rename_i q
    cases h
    exact q
  · cases h
theorem ownL_exc {i : Nat} : ∀ c, ownL env i ≠ .exc c := fun c h => by
  unfold ownL at h
  split at h <;> cases h
theorem shD_ok {i : Nat} {d : D} (h : shD env i = .ok d) : env[i]? = some (.sh d) := by
  unfold shD at h
  split at h
  · rename_i q
    cases h
    exact q
  · cases h
theorem shD_exc {i : Nat} : ∀ c, shD env i ≠ .exc c := fun c h => by
  unfold shD at h
  split at h <;> cases h
theorem shOnly_exc {x : TD} : ∀ c, shOnly x ≠ .exc c := fun c h => by
  unfold shOnly at h
  split at h <;> cases h
theorem placed_ok {ds : List D} {k : Int} {p : Nat × D} (h : placed ds k = .ok p) : ixN ds.length k = some p.1 ∧ ds[p.1]? = some p.2 := by
  unfold placed at h
  split at h
  · rename_i j hj
    split at h
    · rename_i d hd
      cases h
      exact ⟨hj, hd⟩
    · cases h
  · cases h
theorem placed_exc {ds : List D} {k : Int} : ∀ c, placed ds k ≠ .exc c := fun c h => by
  unfold placed at h
  split at h
  · split at h <;> cases h
  · cases h
theorem augB_ok {o : Bop} {a b r : D} (h : augB o a b = .ok r) : ∃ i j, a = .int i ∧ b = .int j ∧ ((o = .add ∧ r = .int (i + j)) ∨ (o = .sub ∧ r = .int (i - j))) := by
  cases o <;> cases a <;> cases b <;> first | (cases h; done) | (cases h; exact ⟨_, _, rfl, rfl, .inl ⟨rfl, rfl⟩⟩) | (cases h; exact ⟨_, _, rfl, rfl, .inr ⟨rfl, rfl⟩⟩)
theorem augB_exc {o : Bop} {a b : D} : ∀ c, augB o a b ≠ .exc c := fun c h => by
  cases o <;> cases a <;> cases b <;> cases h
theorem isInt_exc {d : D} : ∀ c, isInt d ≠ .exc c := fun c h => by
  cases d <;> cases h
end

/-! ### augmented subscripts: the item read -/
section
variable {X : Cx}
def rGetL : V → V → Hp → VK → Prop := fun o i H Q => ∃ p xs k j v, o = .ref p ∧ i = .int k ∧ H p = some (.lst xs) ∧ ixN xs.length k = some j ∧ xs[j]? = some v ∧ Q v H
theorem get_listO : PGet X rGetL := by
  intro pins s σ H o i ov iv Q I ro ri h
  obtain ⟨p, xs, k, j, w, rfl, rfl, hp, hj, hw, q⟩ := h
  cases ro
  obtain ⟨t, rfl⟩ := ri
  obtain ⟨its, n, r, ho, hz⟩ := I.lst hp
  obtain ⟨h1, h2, h3, h4⟩ := ixN_seq hj
  obtain ⟨u, hu, ru⟩ := r.get hw
  have hl := r.length
  have hn := line63
  have il : s.heap.IsList p its.toArray := ⟨_, ho, rfl, n, rfl⟩
  by_cases h0 : 0 ≤ k
  · have hk : k.toNat = j := by
      rw [seqIndex_of h0 h4] at h1
      exact Option.some.inj h1
    exact wpAny_getItem_list il h0 (by omega) (x := u) (by rw [hk]; simpa using hu) ⟨w, H, I, ru, q⟩
  · have hk : (k + (its.toArray.size : Int)).toNat = j := by
      rw [seqIndex_neg (by omega) h3] at h1
      rw [List.size_toArray, ← hl]
      exact Option.some.inj h1
    exact wpAny_getItem_list_neg il (by omega) (by rw [List.size_toArray, ← hl]; exact h3) (by omega) (x := u) (by rw [hk]; simpa using hu) ⟨w, H, I, ru, q⟩
end

structure SFit (X : Cx) (W : Wd) (cref : Str → Value) (n : Nat) (G : Gam) (bs cs : List Str) (N : List Str) (sc : Scope) : Prop extends Fit X W cref n G bs cs N sc where
  fn : ∀ x, X.fn x = true
  pass : PassesOwn (model X.prog X.w) X.A X.env X.xe
  stk : X.stack = X.env :: X.outer
  frm : X.env.frame = some X.env.locals
theorem ps_imp {X : Cx} {e : Stmt} {t t' : TS} (h : PS X e t) (k : ∀ E σ H, t' E σ H → t E σ H) : PS X e t' := ⟨fun pins s σ H E I q => h.run pins s σ H E I (k E σ H q)⟩
theorem pss_imp {X : Cx} {e : List Stmt} {t t' : TS} (h : PSs X e t) (k : ∀ E σ H, t' E σ H → t E σ H) : PSs X e t' := ⟨fun pins s σ H E I q => h.run pins s σ H E I (k E σ H q)⟩
/-- what is held by a name is put down -/
theorem put_ok {K : PySem.W.Frag} {B0 A0 F H F' H' : Hp} {σ : L2.St} {env : Env} {W : Wd} {E : Ends} {i : Nat} {x : TD} {v : V} (s : SRel K B0 A0 F H σ env) (e : Ext F H F' H') (rv : Res K H F' H' v x) (p : Post K B0 A0 W E (put env i x)) : E.nx (σ.set i (some v)) H' := by
  have rv := rv.nt e.s
  unfold put at p
  split at p
  · rename_i t d hz
    rw [hz] at rv
    exact p _ F' H' ((s.next e).set rv)
  · rename_i t d ds hz he
    rw [hz, he] at rv
    obtain ⟨q, rfl, n, rt⟩ := rv
    exact p _ F' H' (s.setO e rt n)
  · rename_i t d ds hz he
    rw [hz, he] at rv
    obtain ⟨q, rfl, n, rt⟩ := rv
    exact p _ F' H' (s.setO e rt n)
  · rename_i t d hz
    rw [hz] at rv
    obtain ⟨fp, n, o⟩ := rv
    exact p _ F' H' (s.setT e o n)
  · exact p.elim
/-- a value to be shared for good -/
theorem shOnly_use {K : PySem.W.Frag} {B0 A0 F H F' H' : Hp} {σ : L2.St} {env : Env} {x : TD} {v : V} {d : D} (s : SRel K B0 A0 F H σ env) (e : Ext F H F' H') (rv : Res K H F' H' v x) (h : shOnly x = .ok d) : ∃ F2, SRel K B0 A0 F2 H' σ env ∧ Is K F2 d v ∧ Same F' F2 := by
  obtain ⟨h1, rfl⟩ := shOnly_ok h
  obtain ⟨F2, e2, s2, i2⟩ := res_dm2 e (rv.nt e.s) h1
  exact ⟨F2, s.next e2, i2, s2⟩
theorem swaps_name {e : Expr} {t : Option Expr} {n : Nat} {env : PySem.Env} {N bs : List Str} {ex : Ex} {sc : Scope} (h : chkE N bs ex sc e = true) (hc : ∀ a b c d, e ≠ .ListComp a b c d) : swapsWith e t n env = pure false := by
  cases e <;> first | rfl | exact absurd rfl (hc _ _ _ _) | (cases ex <;> simp [chkE, frzE, isLC] at h)
theorem swaps_two {e : Expr} {a b : Expr} {p : Pos} {n : Nat} {env : PySem.Env} : swapsWith e (some (.Subscript a b p)) n env = pure false := by
  cases e <;> rfl
theorem swaps_tup {e : Expr} {a : List Expr} {k : Nat} {p : Pos} {n : Nat} {env : PySem.Env} : swapsWith e (some (.Tuple a k p)) n env = pure false := by
  cases e <;> rfl
theorem stores_sub {e : Expr} {a b : Expr} {p : Pos} {env : PySem.Env} : swappedStores [.Subscript a b p] e env = pure none := by
  cases e <;> rfl
theorem stores_tup {e : Expr} {a : List Expr} {k : Nat} {p : Pos} {env : PySem.Env} (h : isTupE e = false) : swappedStores [.Tuple a k p] e env = pure none := by
  cases e <;> first | rfl | cases h
theorem swaps_lc {a : Expr} {b : List Comprehension} {c : Scope} {d p : Pos} {x : Str} {n : Nat} {env : PySem.Env} :
    (swapsWith (.ListComp a b c d) (some (.Name x p)) n env = pure false) ∨ (swapsWith (.ListComp a b c d) (some (.Name x p)) n env = pure true ∧ env.scope.names.lookup x = some .local) := by
  have h : swapsWith (.ListComp a b c d) (some (.Name x p)) n env = pure (env.blockKind == .function && env.kindOf x == some .local && p.line == d.line && !(c.names.any fun (n, k) => n == x && (k == .local || k == .cell))) := rfl
  cases q : (env.blockKind == .function && env.kindOf x == some .local && p.line == d.line && !(c.names.any fun (n, k) => n == x && (k == .local || k == .cell))) with
  | false => exact .inl (by rw [h, q])
  | true =>
    refine .inr ⟨by rw [h, q], ?_⟩
    simp only [Bool.and_eq_true, beq_iff_eq] at q
    exact q.1.1.2

section
variable {K : PySem.W.Frag} {B0 A0 F H : Hp} {σ : L2.St} {env : Env} {W : Wd} {G : Gam} {E : Ends} {n : Nat}
theorem Post.seq {o : Out} {r : List Sx} (h : Post K B0 A0 W E (o.then fun e => evSs G n r e)) : Post K B0 A0 W { E with nx := tSs K W G n r E } o := by
  cases o with
  | nx e => exact fun σ F H q => ⟨B0, A0, F, e, q, h⟩
  | _ => exact h
/-- a turn's end -/
theorem Post.turn {o : Out} {k : Env → Out} {N : L2.St → Hp → Prop} (h : Post K B0 A0 W E (match (generalizing := false) o with
      | .nx e => k e
      | .cnt e => k e
      | .brk e => .nx e
      | .ret t d => .ret t d
      | .exc c e => .exc c e
      | .stuck => .stuck)) (hN : ∀ e, Post K B0 A0 W E (k e) → ∀ σ F H, SRel K B0 A0 F H σ e → N σ H) : Post K B0 A0 W { E with nx := N, ct := N, bk := E.nx } o := by
  cases o with
  | nx e => exact fun σ F H q => hN e h σ F H q
  | cnt e => exact fun σ F H q => hN e h σ F H q
  | _ => exact h
theorem while_read {c : Te} {b : List Sx} (h : tS K W G n (.whl c b) E σ H) : tWhile (tT K W G c) (tSs K W G n b) E σ H := by
  obtain ⟨B0, A0, F, env, r, p⟩ := h
  unfold evS at p
  refine ⟨fun m σ H => ∃ F env, SRel K B0 A0 F H σ env ∧ Post K B0 A0 W E (wh (fun e => evT G c e) (fun e => evSs G n b e) m env), ⟨n, F, env, r, p⟩, ?_⟩
  rintro m σ H ⟨F, env, r, p⟩
  cases m with
  | zero => exact p.elim
  | succ m =>
    unfold wh at p
    refine ⟨F, env, r.rel, (r.aft p).imp fun t F1 H1 _ e1 ⟨s, p⟩ => ?_⟩
    cases t with
    | false => exact iteF (p _ _ _ s)
    | true =>
      refine iteT ⟨_, fun σ' H' z => ⟨m, Nat.lt_succ_self m, z⟩, B0, A0, F1, env, s, ?_⟩
      exact Post.turn p fun e q σ F H z => ⟨F, e, z, q⟩
theorem for_read {fz : List Nat} {tg : Tg} {src : Src} {b : List Sx} (h : tS K W G n (.lop fz tg src b) E σ H) : tFor (tSrc K W G src) (gTg K tg) (tSs K W G n b) E σ H := by
  obtain ⟨B0, A0, F, env, r, p⟩ := h
  unfold evS at p
  obtain ⟨F0, r0⟩ := r.frz (fz := fz)
  generalize frz fz env = env at p r0
  refine ⟨F0, env, r0.rel, (r0.aft p).imp fun s F1 H1 _ e1 ⟨s1, p1⟩ J hJ hD => ?_⟩
  cases hd : s.1.dm with
  | sh =>
    rw [hd] at p1
    obtain ⟨F2, e2, it⟩ := hD hd
    have s2 := (r0.next e2)
    have x2 : Ext B0 A0 F2 H1 := s2.ext
    have p2 := p1.rebase x2
    refine ⟨fun i m σ H => m = s.2.length - i ∧ i ≤ s.2.length ∧ ∃ F env, SRel K F2 A0 F H σ env ∧ Post K F2 A0 W E (lp (fun d e => match bindT tg (.sh, d) e with | some e2 => evSs G n b e2 | none => .stuck) (s.2.drop i) env),
      ⟨s.2.length, rfl, Nat.zero_le _, F2, env, s2.rebase, by rw [List.drop_zero]; exact p2⟩, ?_⟩
    rintro i m σ H ⟨rfl, hi, F, env, r, p⟩
    have sm : Same F2 H := r.ext.f.trans r.rel.sub
    by_cases hlt : i < s.2.length
    · refine .inr ⟨it.go H i sm hlt, _, fun σ' H' z => ⟨s.2.length - (i + 1), by omega, z⟩, fun x H' y => ?_⟩
      rw [List.drop_eq_getElem_cons hlt] at p
      have hd : s.2[i]? = some s.2[i] := List.getElem?_eq_getElem hlt
      generalize s.2[i] = d at p hd
      obtain ⟨F3, w1, w2⟩ := it.yld F H i x H' d sm r.rel.sub hd (.inl r.ext.f) y
      unfold lp at p
      cases hb : bindT tg (.sh, d) env with
      | none =>
        rw [hb] at p
        exact p.elim
      | some env2 =>
        rw [hb] at p
        refine (r.next w1).bind w2 hb fun σ2 r2 => ⟨F2, A0, F3, env2, r2, ?_⟩
        exact Post.turn p fun e q σ F H z => ⟨rfl, by omega, F, e, z, q⟩
    · have e0 : i = s.2.length := by omega
      subst e0
      rw [List.drop_length] at p
      exact .inl ⟨it.stop H sm, p _ _ _ r⟩
  | _ => rw [hd] at p1; exact p1.elim
end

section
variable {cref : Str → Value} {n : Nat} {G : Gam} {bs cs N : List Str}
theorem SFit.var {X : Cx} {W : Wd} {sc : Scope} (f : SFit X W cref n G bs cs N sc) {i : Nat} {x : Str} (h : (decide (N[i]? = some x) && visB sc x && nmB x) = true) {pos : Pos} : PE X (.Name x pos) (tVar i) := by
  simp only [Bool.and_eq_true, decide_eq_true_eq] at h
  exact f.nm h.1.1 h.1.2 h.2
/-- name = a comprehension, stored at once -/
theorem sLc {X : Cx} {W : Wd} {sc : Scope} {own : List (Str × Nat)} {tg : Tg} {src : Src} {c : Tes} {e : Ex} {elt : Expr} {gs : List Comprehension} {scope : Scope} {p px pos : Pos} {x : Str} {i : Nat} (ft : SFit X W cref n G bs cs N sc) (h : chkE N bs (.cpr own tg src c e) sc (.ListComp elt gs scope p) = true)
    (hy : X.N[i]? = some x) (hl : X.env.scope.names.lookup x = some .local) (hsw : swapsWith (.ListComp elt gs scope p) (some (.Name x px)) pos.line X.env = pure true) : PS X (.Assign [.Name x px] (.ListComp elt gs scope p) pos) (tAsg (tE X.K W G (.cpr own tg src c e)) (gName i)) := by
  match gs, h, hsw with
  | [⟨t, it, ifs, z⟩], h, hsw =>
    simp only [chkE, Bool.and_eq_true, decide_eq_true_eq] at h
    obtain ⟨⟨⟨⟨⟨⟨⟨⟨rfl, hr⟩, h1⟩, h2⟩, h3⟩, h4⟩, h5⟩, h6⟩, h7⟩ := h
    have hN := ft.hN
    have hsc := ft.hsc
    have f := ft.toFit
    exact ps_imp (ps_setLc (own := own) (ft.calm hr) (by rw [hN]; exact ft.nd) hy hl hsw (sSrc src f h3) (by rw [hN, hsc]; exact blkOk_by h1)
      (fun s H C cl fp => pg_of (cok := fun x => scope.names.lookup x == some .cell) (f.blk s H scope cl C fp).hN f.nd (f.blk s H scope cl C fp).hsc (fun x hx => hx) (f.calm hr) h2)
      (fun s H C cl fp => sIf c (f.blk s H scope cl C fp) h4 h5)
      (fun s H C cl fp => sE e (f.blk s H scope cl C fp) h6) (nofold (src_noSet h3))) fun E σ H q => lc_read h7 σ H _ q
  | [], h, _ => simp [chkE] at h
  | _ :: _ :: _, h, _ => simp [chkE] at h
theorem asg_read {K : PySem.W.Frag} {W : Wd} {wn : Nat} {fz : List Nat} {i : Nat} {e : Ex} {E : Ends} {σ : L2.St} {H : Hp} (h : tS K W G wn (.asg fz i e) E σ H) : tAsg (tE K W G e) (gName i) E σ H := by
  obtain ⟨B0, A0, F, env, r, p⟩ := h
  unfold evS at p
  obtain ⟨F0, r0⟩ := r.frz (fz := fz)
  exact r0.aftE p fun x F' H' v e rv s p => put_ok r0 e rv p
end
end PV

/-! PvTree: statements about owned trees. -/
namespace PV
open PySem PySem.Spec PyProof.Rows L2
section
variable {K : PySem.W.Frag} {A F H F' H' : Hp} {σ : L2.St} {env : Env} {B0 A0 : Hp} {W : Wd} {E : Ends} {G : Gam}
theorem OwnL.len : ∀ {ds : List D} {vs : List V} {fp : List Addr}, OwnL K F H ds vs fp → vs.length = ds.length
  | [], _, _, h => by simp only [OwnL] at h; rw [h.1]; rfl
  | d :: ds, _, _, h => by
    simp only [OwnL] at h
    obtain ⟨v, w, f, g, rfl, _, _, _, t⟩ := h
    rw [List.length_cons, List.length_cons, OwnL.len t]
theorem set_eq_self {α : Type} {l : List α} {i : Nat} {x : α} (h : l[i]? = some x) : l.set i x = l := by
  apply List.ext_getElem?
  intro j
  by_cases c : i = j
  · subst c
    rw [List.getElem?_set_self (List.getElem?_eq_some_iff.mp h).1, h]
  · rw [List.getElem?_set_ne c]
/-- a part of a tree, and the tree with that part anew -/
theorem Own.part {d c : D} {v : V} {fp : List Addr} {es : List D} {j : Nat} (h : Own K F H d v fp) (hi : PV.items d = some es) (hj : es[j]? = some c) :
    ∃ p vs w f, v = .ref p ∧ (H p = some (.lst vs) ∨ H p = some (.tup vs)) ∧ vs[j]? = some w ∧ vs.length = es.length ∧ Own K F H c w f ∧ (∀ a ∈ f, a ∈ fp) ∧ p ∉ f ∧ p ∈ fp ∧
      ∀ (H' : Hp) (c' : D), Own K F H' c' w f → (∀ a, a ∈ fp → a ∉ f → H' a = H a) → Own K F H' (putAt d j c') v fp := by
  obtain ⟨p, vs, fq, rfl, rfl, h1, h2, h3, h4, h5⟩ := h.items hi
  obtain ⟨w, f, g1, g2, e1, rfl, e3, e4, e5⟩ := h4.sub hj
  have pf : p ∉ f := fun z => h1 (List.mem_append_left _ (List.mem_append_right _ z))
  refine ⟨p, vs, w, f, rfl, h3, e1, h4.len, e4, fun a ha => List.mem_cons_of_mem _ (List.mem_append_left _ (List.mem_append_right _ ha)), pf, List.mem_cons_self, fun H' c' o k => ?_⟩
  have t := e5 H' c' w f o e3 fun a ha => k a (List.mem_cons_of_mem _ (ha.elim (fun z => List.mem_append_left _ (List.mem_append_left _ z)) fun z => List.mem_append_right _ z)) fun z => ha.elim (e3 a z).1 (e3 a z).2
  rw [set_eq_self e1] at t
  exact h5 H' j c' _ (k p List.mem_cons_self pf) h1 t
theorem atI_of {vs : List V} {es : List D} {k : Int} {jd : Nat × D} {w : V} (hl : vs.length = es.length) (hp : placed es k = .ok jd) (hw : vs[jd.1]? = some w) : atI vs k = some w := by
  unfold atI
  rw [hl, (placed_ok hp).1]
  exact hw
/-- a list within a tree: its place, and the tree with that list anew -/
theorem Own.row {d : D} {v : V} {fp : List Addr} {es ws : List D} {k : Int} {j : Nat} (h : Own K F H d v fp) (hi : PV.items d = some es) (hp : placed es k = .ok (j, .list ws)) :
    ∃ p vs q us fq, v = .ref p ∧ (H p = some (.lst vs) ∨ H p = some (.tup vs)) ∧ atI vs k = some (.ref q) ∧ H q = some (.lst us) ∧ OwnL K F H ws us fq ∧ q ∉ fq ∧ q ∈ fp ∧ F q = none ∧
      ∀ (us' : List V) (ws' : List D), OwnL K F (upd H q (.lst us')) ws' us' fq → Own K F (upd H q (.lst us')) (putAt d j (.list ws')) v fp := by
  obtain ⟨p, vs, w, f, rfl, h1, h2, h3, h4, h5, h6, h7, h8⟩ := h.part hi (placed_ok hp).2
  simp only [Own] at h4
  obtain ⟨q, us, fq, rfl, rfl, g1, g2, g3, g4⟩ := h4
  refine ⟨p, vs, q, us, fq, rfl, h1, atI_of h3 hp h2, g3, g4, g1, h5 q List.mem_cons_self, g2, fun us' ws' o => ?_⟩
  refine h8 _ _ ?_ fun a _ ha => upd_ne fun z => ha (by rw [z]; exact List.mem_cons_self)
  simp only [Own]
  exact ⟨q, us', fq, rfl, rfl, g1, g2, upd_same, o⟩
/-- the same list after more has been made -/
theorem Own.row_at {d : D} {v : V} {fp : List Addr} {es ws : List D} {k : Int} {j : Nat} {p q : Addr} {vs us : List V} (h : Own K F H d v fp) (hi : PV.items d = some es) (hp : placed es k = .ok (j, .list ws))
    (hv : v = .ref p) (h1 : H p = some (.lst vs) ∨ H p = some (.tup vs)) (h2 : atI vs k = some (.ref q)) (h3 : H q = some (.lst us)) : us.length = ws.length ∧ ∃ fq, OwnL K F H ws us fq ∧ q ∉ fq ∧ q ∈ fp ∧ F q = none ∧
      ∀ (us' : List V) (ws' : List D), OwnL K F (upd H q (.lst us')) ws' us' fq → Own K F (upd H q (.lst us')) (putAt d j (.list ws')) v fp := by
  obtain ⟨p', vs', q', us', fq, e, g1, g2, g3, g4, g5, g6, g7, g8⟩ := h.row hi hp
  rw [hv] at e
  cases e
  have : vs' = vs := by
    rcases h1 with h1 | h1 <;> rcases g1 with g1 | g1 <;> rw [h1] at g1 <;> cases g1 <;> rfl
  subst this
  rw [h2] at g2
  cases g2
  rw [h3] at g3
  cases g3
  exact ⟨g4.len, fq, g4, g5, g6, g7, g8⟩
theorem itemsR_ok {α : Type} {e : Env} {d : D} {f : List D → R α} {k : α → Out} (h : Post K B0 A0 W E (Out.of e ((itemsR d).bind f) k)) : ∃ es, items d = some es ∧ Post K B0 A0 W E (Out.of e (f es) k) := by
  unfold itemsR at h
  cases q : items d with
  | none => rw [q] at h; exact h.elim
  | some es => rw [q] at h; exact ⟨es, rfl, h⟩
theorem odD_ok {i : Nat} {d : D} (h : odD env i = .ok d) : env[i]? = some (.od d) := by
  unfold odD at h
  split at h
  · rename_i q
    cases h
    exact q
  · cases h
theorem odD_exc {i : Nat} : ∀ c, odD env i ≠ .exc c := fun c h => by
  unfold odD at h
  split at h <;> cases h
theorem asL_ok {d : D} {ds : List D} (h : asL d = .ok ds) : d = .list ds := by
  cases d <;> cases h
  rfl
theorem asL_exc {d : D} : ∀ c, asL d ≠ .exc c := fun c h => by cases d <;> cases h
theorem scalR_ok {x : TD} {d : D} (h : scalD x = .ok d) : scal x.2 = true ∧ d = x.2 := by
  unfold scalD at h
  by_cases c : scal x.2 = true
  · rw [if_pos c] at h
    cases h
    exact ⟨c, rfl⟩
  · rw [if_neg c] at h
    cases h
theorem scalR_exc {x : TD} : ∀ c, scalD x ≠ .exc c := fun c h => by
  unfold scalD at h
  split at h <;> cases h
theorem rowL_ok {k : Int} {d : D} {p : Nat × List D} (h : rowL k d = .ok p) : ∃ es, items d = some es ∧ placed es k = .ok (p.1, .list p.2) := by
  unfold rowL itemsR at h
  cases q : items d with
  | none => rw [q] at h; cases h
  | some es =>
    rw [q] at h
    have h : ((placed es k).bind fun p => (asL p.2).bind fun ws => .ok (p.1, ws)) = .ok p := h
    cases q2 : placed es k with
    | ok p =>
      rw [q2] at h
      obtain ⟨j, e⟩ := p
      cases e <;> cases h
      exact ⟨es, rfl, q2⟩
    | exc c => rw [q2] at h; cases h
    | stuck => rw [q2] at h; cases h
theorem bind_exc {α β : Type} {r : R α} {f : α → R β} (h1 : ∀ c, r ≠ .exc c) (h2 : ∀ a c, f a ≠ .exc c) : ∀ c, r.bind f ≠ .exc c := fun c h => by
  cases r with
  | ok a => exact h2 a c h
  | exc d => exact h1 d rfl
  | stuck => cases h
theorem rowL_exc {k : Int} {d : D} : ∀ y, rowL k d ≠ .exc y := by
  unfold rowL
  refine bind_exc (fun z h => ?_) fun es => bind_exc placed_exc fun p => bind_exc asL_exc fun ws z h => by cases h
  unfold itemsR at h
  split at h <;> cases h
theorem rowS_exc {p : Nat × List D} {x : Int} {c d : D} : ∀ y, rowS p x c d ≠ .exc y := by
  unfold rowS
  refine bind_exc (fun z h => ?_) fun _ => bind_exc placed_exc fun q z h => by cases h
  unfold allS at h
  split at h <;> cases h
theorem rowS_ok {p : Nat × List D} {x : Int} {c d d2 : D} (h : rowS p x c d = .ok d2) : ∃ m y, p.2.all scal = true ∧ placed p.2 x = .ok (m, y) ∧ d2 = putAt d p.1 (.list (p.2.set m c)) := by
  unfold rowS allS at h
  by_cases z : p.2.all scal = true
  · rw [if_pos z] at h
    have h : ((placed p.2 x).bind fun q => .ok (putAt d p.1 (.list (p.2.set q.1 c)))) = .ok d2 := h
    cases q3 : placed p.2 x with
    | ok q =>
      rw [q3] at h
      cases h
      exact ⟨q.1, q.2, z, rfl, rfl⟩
    | exc c => rw [q3] at h; cases h
    | stuck => rw [q3] at h; cases h
  · rw [if_neg z] at h
    cases h
theorem rowA_ok {k : Int} {c d d2 : D} (h : rowA k c d = .ok d2) : ∃ p, rowL k d = .ok p ∧ p.2.length < lim ∧ d2 = putAt d p.1 (.list (p.2 ++ [c])) := by
  unfold rowA at h
  cases q : rowL k d with
  | ok p =>
    rw [q] at h
    have h : (if p.2.length < lim then R.ok (putAt d p.1 (.list (p.2 ++ [c]))) else .stuck) = .ok d2 := h
    split at h
    · rename_i z
      cases h
      exact ⟨p, rfl, z, rfl⟩
    · cases h
  | exc c => rw [q] at h; cases h
  | stuck => rw [q] at h; cases h
theorem rowA_exc {k : Int} {c d : D} : ∀ y, rowA k c d ≠ .exc y := by
  unfold rowA
  refine bind_exc rowL_exc fun p y h => ?_
  split at h <;> cases h
/-- a list within an own slot's tree gets an item more -/
theorem SRel.rowA (r : SRel K B0 A0 F H σ env) {i : Nat} {d c : D} {v w : V} {fp : List Addr} {es ws : List D} {k : Int} {j : Nat} {p q : Addr} {vs us : List V} (h : env[i]? = some (.od d)) (hv : σ[i]? = some (some v)) (o : Own K F H d v fp) (na : ∀ a ∈ fp, A0 a = none) (hi : PV.items d = some es) (hp : placed es k = .ok (j, .list ws))
    (e : v = .ref p) (h1 : H p = some (.lst vs) ∨ H p = some (.tup vs)) (h2 : atI vs k = some (.ref q)) (h3 : H q = some (.lst us)) (ic : Is K F c w) (sc : scal c = true) : SRel K B0 A0 F (upd H q (.lst (us ++ [w]))) σ (env.set i (.od (putAt d j (.list (ws ++ [c]))))) := by
  obtain ⟨_, fq, g1, g2, g3, g4, g5⟩ := o.row_at hi hp e h1 h2 h3
  have e1 := r.ext.mut (o := .lst (us ++ [w])) (na q g3) g4
  refine ⟨r.ra.tree1 h hv e1.s fun fi oi => ?_, e1⟩
  rw [own_fp oi o]
  refine ⟨fp, g5 _ _ ?_, fun a ha => .inl ha, fun a ha _ => upd_ne fun z => ha (by rw [z]; exact g3)⟩
  have := OwnL.app (es := [c]) (ws := [w]) (g := []) (.one (own_scal ic sc)) (g1.keep (H' := upd H q (.lst (us ++ [w]))) (F' := F) fun a ha => ⟨(g1.at a ha).1, upd_ne fun z => g2 (by rw [← z]; exact ha)⟩) fun a _ z => by cases z
  rwa [List.append_nil] at this
theorem all_set {ws : List D} {m : Nat} {c : D} (h : ws.all scal = true) (sc : scal c = true) : (ws.set m c).all scal = true := by
  rw [List.all_eq_true] at h ⊢
  intro x hx
  rcases List.mem_or_eq_of_mem_set hx with z | z
  · exact h x z
  · rw [z]
    exact sc
theorem SRel.rowS (r : SRel K B0 A0 F H σ env) {i : Nat} {d c : D} {v w : V} {fp : List Addr} {es ws : List D} {k : Int} {j m : Nat} {p q : Addr} {vs us : List V} (h : env[i]? = some (.od d)) (hv : σ[i]? = some (some v)) (o : Own K F H d v fp) (na : ∀ a ∈ fp, A0 a = none) (hi : PV.items d = some es) (hp : placed es k = .ok (j, .list ws))
    (e : v = .ref p) (h1 : H p = some (.lst vs) ∨ H p = some (.tup vs)) (h2 : atI vs k = some (.ref q)) (h3 : H q = some (.lst us)) (hs : ws.all scal = true) (ic : Is K F c w) (sc : scal c = true) : SRel K B0 A0 F (upd H q (.lst (us.set m w))) σ (env.set i (.od (putAt d j (.list (ws.set m c))))) := by
  obtain ⟨_, fq, g1, g2, g3, g4, g5⟩ := o.row_at hi hp e h1 h2 h3
  have e1 := r.ext.mut (o := .lst (us.set m w)) (na q g3) g4
  refine ⟨r.ra.tree1 h hv e1.s fun fi oi => ?_, e1⟩
  rw [own_fp oi o]
  refine ⟨fp, g5 _ _ ?_, fun a ha => .inl ha, fun a ha _ => upd_ne fun z => ha (by rw [z]; exact g3)⟩
  rw [g1.scal hs]
  exact ownL_scal (G := H) (IsL.set m (g1.is fun _ _ => rfl) (ic.mono r.rel.sub)) (all_set hs sc)

theorem ownT_ok {i : Nat} {d : D} (r : SRel K B0 A0 F H σ env) (h : ownT env i = .ok d) : ∃ v fp, σ[i]? = some (some v) ∧ Own K F H d v fp ∧ (∀ a ∈ fp, A0 a = none) := by
  unfold ownT at h
  split at h
  · rename_i q
    cases h
    exact r.ra.ods q
  · rename_i ds q
    split at h
    · rename_i k
      cases h
      obtain ⟨p, hp, f, vs, h1, h2⟩ := r.rel.own q
      refine ⟨_, [p], hp, ?_, fun a ha => ?_⟩
      · simp only [Own]
        exact ⟨p, vs, [], rfl, rfl, (fun z => by cases z), f, h1, ownL_scal h2 k⟩
      · rcases List.mem_cons.mp ha with rfl | ha
        · exact r.ra.ownA q hp
        · cases ha
    · cases h
  · cases h
theorem ownT_fp {i : Nat} {d : D} {v : V} {f g : List Addr} (h : ownT env i = .ok d) (b : ∀ s, env[i]? = some s → Bears K F H σ[i]? s f) (hv : σ[i]? = some (some v)) (o : Own K F H d v g) : f = g := by
  unfold ownT at h
  split at h
  · rename_i q
    cases h
    exact bears_fp (b _ q) ⟨v, hv, o⟩
  · rename_i ds q
    split at h
    · rename_i k
      cases h
      obtain ⟨p, e, h1, f, vs, h2, h3⟩ := b _ q
      rw [hv] at h1
      cases h1
      rw [e]
      refine own_fp (K := K) (F := F) (H := H) (d := .list ds) (v := .ref p) ?_ o
      simp only [Own]
      exact ⟨p, vs, [], rfl, rfl, (fun z => by cases z), f, h2, ownL_scal h3 k⟩
    · cases h
  · cases h
theorem ownT_exc {i : Nat} : ∀ c, ownT env i ≠ .exc c := fun c h => by
  unfold ownT at h
  split at h
  · cases h
  · split at h <;> cases h
  · cases h
/-- a new tuple of a plain thing and a tree -/
theorem own_pair {c d : D} {v w : V} {fp : List Addr} {p : Addr} (o : Own K F H d w fp) (sc : scal c = true) (ic : Is K H c v) (s : Same F H) (np : H p = none) : Own K F (upd H p (.tup [v, w])) (.tuple [c, d]) (.ref p) (p :: fp) := by
  have o2 : Own K F (upd H p (.tup [v, w])) d w fp := o.keep fun a ha => ⟨(o.at a ha).1, upd_ne fun z => (o.at a ha).2 (by rw [z]; exact np)⟩
  simp only [Own]
  refine ⟨p, [v, w], fp, rfl, rfl, fun z => (o.at p z).2 np, s.free np, upd_same, ?_⟩
  simp only [OwnL]
  exact ⟨v, [w], [], fp, rfl, rfl, (fun a z => by cases z), own_scal ic sc, w, [], fp, [], rfl, by simp, (fun a _ z => by cases z), o2, rfl, rfl⟩
end
section
variable {cref : Str → Value} {n : Nat} {G : Gam} {bs cs N : List Str} {X : Cx} {W : Wd} {sc : Scope}
theorem vr_ok (ft : SFit X W cref n G bs cs N sc) {i : Nat} {x : Str} {px : Pos} (h : vr N sc i x = true) : PE X (.Name x px) (tVar i) := ft.var h
theorem sAsgO (wn : Nat) {fz : List Nat} {i : Nat} {e : Ex} {st : Stmt} (ft : SFit X W cref n G bs cs N sc) (h : kAsgO N bs sc i e st = true) : PS X st (tS X.K W G wn (.asgO fz i e)) := by
  unfold kAsgO at h
  split at h
  case h_2 => cases h
  rename_i x px v pos
  simp only [Bool.and_eq_true] at h
  obtain ⟨⟨h1, h2⟩, h3⟩ := h
  obtain ⟨a, b, c⟩ := st_of ft.hN ft.hsc (fun x _ => ft.fn x) h2
  have hN : X.N.Nodup := by rw [ft.hN]; exact ft.nd
  refine ps_imp (ps_set hN a b (sE e ft.toFit h3) (swaps_name h3 fun a b c d z => by subst z; cases h1) c) fun E σ H q => ?_
  obtain ⟨B0, A0, F, env, r, p⟩ := q
  unfold evS at p
  obtain ⟨F0, r0⟩ := r.frz (fz := fz)
  generalize frz fz env = env at p r0
  refine r0.aftE p fun y F' H' v e rv s p => ?_
  obtain ⟨d, hd, p⟩ := p.ok treeOf_exc
  obtain ⟨fp, nn, o⟩ := treeOf_own rv e.s hd
  exact p _ F' H' (r0.setT e o nn)
theorem sMov (wn : Nat) {i j : Nat} {st : Stmt} (ft : SFit X W cref n G bs cs N sc) (h : kMov N sc i j st = true) : PS X st (tS X.K W G wn (.mov i j)) := by
  unfold kMov at h
  split at h
  case h_2 => cases h
  simp only [Bool.and_eq_true] at h
  obtain ⟨h1, h2⟩ := h
  obtain ⟨a, b, c⟩ := st_of ft.hN ft.hsc (fun x _ => ft.fn x) h1
  have hN : X.N.Nodup := by rw [ft.hN]; exact ft.nd
  refine ps_imp (ps_set hN a b (vr_ok ft h2) rfl c) fun E σ H q => ?_
  obtain ⟨B0, A0, F, env, r, p⟩ := q
  unfold evS at p
  obtain ⟨d, hd, p⟩ := p.ok odD_exc
  have hd := odD_ok hd
  obtain ⟨v, fp, hv, o, _⟩ := r.ra.ods hd
  refine ⟨v, hv, ?_⟩
  by_cases c : i ≠ j
  · rw [if_pos c] at p
    exact p _ F H ⟨r.ra.mov hd hv c, r.ext⟩
  · rw [if_neg c] at p
    exact p.elim
theorem sRtp (wn : Nat) {i : Nat} {a : Ex} {st : Stmt} (ft : SFit X W cref n G bs cs N sc) (h : kRtp N bs sc a i st = true) : PS X st (tS X.K W G wn (.rtp a i)) := by
  unfold kRtp at h
  split at h
  case h_2 => cases h
  simp only [Bool.and_eq_true] at h
  obtain ⟨h1, h2⟩ := h
  refine ps_imp (ps_ret (pe_tup (pa_cons (sE a ft.toFit h1) (pa_cons (vr_ok ft h2) pa_nil (star_cons rfl)) (star_cons (chk_noStar h1))))) fun E σ H q => ?_
  obtain ⟨B0, A0, F, env, r, p⟩ := q
  unfold evS at p
  refine r.aftE p fun x F1 H1 v e1 rv s p => ?_
  obtain ⟨c, hc, p⟩ := p.ok scalR_exc
  obtain ⟨sc, rfl⟩ := scalR_ok hc
  obtain ⟨d, hd, p⟩ := p.ok ownT_exc
  obtain ⟨w, fp, hw, o, na⟩ := ownT_ok s hd
  refine ⟨w, hw, (by show 2 ≤ sizeLine; rw [sizeLine_eq]; decide), fun q np => ?_⟩
  refine p _ F1 _ (s.ext.trans (Ext.new0 e1.s np)) ⟨q :: fp, fun a ha => ?_, own_pair o sc (rv.is e1.s) e1.s np⟩
  rcases List.mem_cons.mp ha with rfl | ha
  · exact s.ext.h.free np
  · exact na a ha
theorem sAppO (wn : Nat) {fz : List Nat} {i : Nat} {e : Ex} {st : Stmt} (ft : SFit X W cref n G bs cs N sc) (h : kApp N bs sc i e st = true) : PS X st (tS X.K W G wn (.appO fz i e)) := by
  unfold kApp at h
  split at h
  case h_2 => cases h
  simp only [Bool.and_eq_true, decide_eq_true_eq] at h
  obtain ⟨⟨⟨rfl, h1⟩, h2⟩, h5⟩ := h
  have st := star_cons (es := []) (env := X.env) (chk_noStar h5)
  refine ps_imp (ps_expr (pe_bm PySem.F.plainAttrs_list PySem.F.slot_list_append PySem.F.type_list_append mt_append (vr_ok ft h2) (pa_cons (sE e ft.toFit h5) pa_nil st) rfl (by rw [st]; rfl) (beq_iff_eq.mpr h1) st rfl) rfl) fun E σ H q => ?_
  obtain ⟨B0, A0, F, env, r, p⟩ := q
  unfold evS at p
  obtain ⟨F0, r0⟩ := r.frz (fz := fz)
  generalize frz fz env = env at p r0
  obtain ⟨t, ht, p⟩ := p.ok odD_exc
  have ht := odD_ok ht
  obtain ⟨ds, hds, p⟩ := p.ok asL_exc
  have hds := asL_ok hds
  subst hds
  obtain ⟨v, fp, hv, o, na⟩ := r0.ra.ods ht
  have o' := o
  simp only [Own] at o
  obtain ⟨a, vs, fq, rfl, rfl, g1, g2, g3, g4⟩ := o
  refine ⟨_, hv, .inl ⟨rfl, vs, (LL.of (K := X.K) g3).seq⟩, r0.aftE p fun y F1 H1 v1 e1 rv1 s1 p => ?_⟩
  obtain ⟨c, hc, p⟩ := p.ok treeOf_exc
  obtain ⟨fc, nc, oc⟩ := treeOf_own rv1 e1.s hc
  by_cases hl : ds.length < lim
  · rw [if_pos hl] at p
    have g3' : H1 a = some (.lst vs) := (e1.stay (by rw [g3]; intro z; cases z)).trans g3
    refine ⟨a, vs, v1, rfl, rfl, g3', by rw [g4.len]; exact Nat.lt_trans hl lim_lt, ?_⟩
    have ha0 := na a List.mem_cons_self
    have hf1 := e1.gone g2 (by rw [g3]; intro z; cases z)
    have ac : a ∉ fc := fun z => by
      have := nc a z
      rw [g3] at this
      cases this
    have ex := s1.ext.mut (o := .lst (vs ++ [v1])) ha0 hf1
    refine p _ _ _ ⟨?_, ex⟩
    refine r0.ra.treeE e1 ht hv ex.s fun fi oi => ?_
    rw [own_fp oi o']
    refine ⟨a :: (fq ++ fc), ?_, fun b hb => ?_, fun b hb hn => (upd_ne fun z => hb (by rw [z]; exact List.mem_cons_self)).trans (e1.stay hn)⟩
    · simp only [Own]
      refine ⟨a, _, fq ++ fc, rfl, rfl, fun z => ?_, hf1, upd_same, ?_⟩
      · rcases List.mem_append.mp z with z | z
        · exact g1 z
        · exact ac z
      · refine OwnL.app (.one (oc.keep fun b hb => ⟨(oc.at b hb).1, upd_ne fun z => ac (by rw [← z]; exact hb)⟩)) (g4.keep fun b hb => ⟨e1.gone (g4.at b hb).1 (g4.at b hb).2, (upd_ne fun z => g1 (by rw [← z]; exact hb)).trans (e1.stay (g4.at b hb).2)⟩) fun b hb z => ?_
        exact (g4.at b hb).2 (nc b z)
    · rcases List.mem_cons.mp hb with rfl | hb
      · exact .inl List.mem_cons_self
      · rcases List.mem_append.mp hb with hb | hb
        · exact .inl (List.mem_cons_of_mem _ hb)
        · exact .inr ⟨nc b hb, r0.ext.h.free (nc b hb)⟩
  · rw [if_neg hl] at p
    exact p.elim
theorem sAppP (wn : Nat) {i j : Nat} {a : Ex} {st : Stmt} (ft : SFit X W cref n G bs cs N sc) (h : kAppP N bs sc i a j st = true) : PS X st (tS X.K W G wn (.appP i a j)) := by
  unfold kAppP at h
  split at h
  case h_2 => cases h
  simp only [Bool.and_eq_true, decide_eq_true_eq] at h
  obtain ⟨⟨⟨⟨rfl, h1⟩, h2⟩, h3⟩, h4⟩ := h
  refine ps_imp (ps_expr (pe_bm PySem.F.plainAttrs_list PySem.F.slot_list_append PySem.F.type_list_append mt_append (vr_ok ft h2)
    (pa_cons (pe_tup (pa_cons (sE a ft.toFit h3) (pa_cons (vr_ok ft h4) pa_nil (star_cons rfl)) (star_cons (chk_noStar h3)))) pa_nil (star_cons rfl)) rfl (by rw [star_cons rfl]; rfl) (beq_iff_eq.mpr h1) (star_cons rfl) rfl) rfl) fun E σ H q => ?_
  obtain ⟨B0, A0, F, env, r0, p⟩ := q
  unfold evS at p
  obtain ⟨t, ht, p⟩ := p.ok odD_exc
  have ht := odD_ok ht
  obtain ⟨ds, hds, p⟩ := p.ok asL_exc
  have hds := asL_ok hds
  subst hds
  obtain ⟨v, fp, hv, o, na⟩ := r0.ra.ods ht
  have o' := o
  simp only [Own] at o
  obtain ⟨b, vs, fq, rfl, rfl, g1, g2, g3, g4⟩ := o
  refine ⟨_, hv, .inl ⟨rfl, vs, (LL.of (K := X.K) g3).seq⟩, r0.aftE p fun y F1 H1 v1 e1 rv1 s1 p => ?_⟩
  obtain ⟨c, hc, p⟩ := p.ok scalR_exc
  obtain ⟨sc, rfl⟩ := scalR_ok hc
  obtain ⟨d, hd, p⟩ := p.ok ownT_exc
  obtain ⟨w, fw, hw, ow, _⟩ := ownT_ok s1 hd
  refine ⟨w, hw, (by show 2 ≤ sizeLine; rw [sizeLine_eq]; decide), fun q np => ?_⟩
  by_cases hl : i ≠ j ∧ ds.length < lim
  case neg =>
    rw [if_neg hl] at p
    exact p.elim
  rw [if_pos hl] at p
  obtain ⟨nij, hl⟩ := hl
  have e2 := Ext.new0 (o := HO.tup [v1, w]) e1.s np
  have s2 := s1.next e2
  have bq : b ≠ q := fun z => by
    have := e1.stay (p := b) (by rw [g3]; intro z; cases z)
    rw [z, np, ← z, g3] at this
    cases this
  have g3' : (upd H1 q (.tup [v1, w])) b = some (.lst vs) := by rw [upd_ne bq]; exact (e1.stay (by rw [g3]; intro z; cases z)).trans g3
  refine ⟨b, vs, .ref q, rfl, rfl, g3', by rw [g4.len]; exact Nat.lt_trans hl lim_lt, ?_⟩
  have hf1 : F1 b = none := e1.gone g2 (by rw [g3]; intro z; cases z)
  have ex := s2.ext.mut (o := .lst (vs ++ [.ref q])) (na b List.mem_cons_self) hf1
  refine p _ _ _ ⟨?_, ex⟩
  have qn : A0 q = none := s1.ext.h.free np
  refine s1.ra.treeJ e2 ht hv ex.s fun fi fj oi bj dj => ?_
  have o1 : Own X.K F1 H1 (.list ds) (.ref b) (b :: fq) := o'.keep fun a ha => ⟨e1.gone (o'.at a ha).1 (o'.at a ha).2, e1.stay (o'.at a ha).2⟩
  have ei := own_fp oi o1
  subst ei
  have ej : fj = fw := ownT_fp hd bj hw ow
  subst ej
  have dj := dj nij
  have g4' : OwnL X.K F1 H1 ds vs fq := by
    simp only [Own] at o1
    obtain ⟨p', vs', fq', z1, z2, _, _, z3, z4⟩ := o1
    cases z1
    cases z2
    have := e1.stay (p := b) (by rw [g3]; intro z; cases z)
    rw [z3, g3] at this
    cases this
    exact z4
  have pr := own_pair ow sc (rv1.is e1.s) e1.s np
  have bw : b ∉ fj := dj b List.mem_cons_self
  refine ⟨b :: (fq ++ (q :: fj)), ?_, fun a ha => ?_, fun a ha hj hn => ?_⟩
  · simp only [Own]
    refine ⟨b, _, fq ++ (q :: fj), rfl, rfl, fun z => ?_, hf1, upd_same, ?_⟩
    · rcases List.mem_append.mp z with z | z
      · exact g1 z
      · rcases List.mem_cons.mp z with z | z
        · exact bq z
        · exact bw z
    · refine OwnL.app (.one (pr.keep fun a ha => ⟨(pr.at a ha).1, upd_ne fun z => ?_⟩)) (g4'.keep fun a ha => ⟨(g4'.at a ha).1, ?_⟩) fun a ha z => ?_
      · subst z
        rcases List.mem_cons.mp ha with z | z
        · exact bq z
        · exact bw z
      · rw [upd_ne fun z => g1 (by rw [← z]; exact ha), upd_ne fun z => (g4'.at a ha).2 (by rw [z]; exact np)]
      · rcases List.mem_cons.mp z with z | z
        · exact (g4'.at a ha).2 (by rw [z]; exact np)
        · exact dj a (List.mem_cons_of_mem _ ha) z
  · rcases List.mem_cons.mp ha with rfl | ha
    · exact .inl (.inl List.mem_cons_self)
    · rcases List.mem_append.mp ha with ha | ha
      · exact .inl (.inl (List.mem_cons_of_mem _ ha))
      · rcases List.mem_cons.mp ha with rfl | ha
        · exact .inr ⟨np, qn⟩
        · exact .inl (.inr ha)
  · rw [upd_ne fun z => ha (by rw [z]; exact List.mem_cons_self), upd_ne fun z => hn (by rw [z]; exact np)]
theorem atI_ok {vs : List V} {k : Int} {w : V} {p : Addr} {H : Hp} {Q : VK} (h : H p = some (.lst vs) ∨ H p = some (.tup vs)) (e : atI vs k = some w) (q : Q w H) : rIx X.K (.ref p) (.int k) H Q := by
  rcases h with h | h
  · exact .inl ⟨p, vs, k, w, rfl, rfl, (LL.of h).seq, e, q⟩
  · exact .inr (.inl ⟨p, vs, k, w, rfl, rfl, .of h, e, q⟩)
theorem stay2 {F H F' H' : Hp} (e : Ext F H F' H') {p : Addr} {vs : List V} (h : H p = some (.lst vs) ∨ H p = some (.tup vs)) : H' p = some (.lst vs) ∨ H' p = some (.tup vs) := h.imp (e.h _ _) (e.h _ _)
theorem own_ext {K : PySem.W.Frag} {F H F' H' : Hp} {d : D} {v : V} {fp : List Addr} (o : Own K F H d v fp) (e : Ext F H F' H') : Own K F' H' d v fp := o.keep fun a ha => ⟨e.gone (o.at a ha).1 (o.at a ha).2, e.stay (o.at a ha).2⟩
theorem sAppX (wn : Nat) {i : Nat} {k e : Ex} {st : Stmt} (ft : SFit X W cref n G bs cs N sc) (h : kAppX N bs sc i k e st = true) : PS X st (tS X.K W G wn (.appX i k e)) := by
  unfold kAppX at h
  split at h
  case h_2 => cases h
  simp only [Bool.and_eq_true, decide_eq_true_eq] at h
  obtain ⟨⟨⟨⟨⟨rfl, h1⟩, h2⟩, h3⟩, h4⟩, h5⟩ := h
  have st := star_cons (es := []) (env := X.env) (chk_noStar h5)
  refine ps_imp (ps_expr (pe_bm PySem.F.plainAttrs_list PySem.F.slot_list_append PySem.F.type_list_append mt_append (pe_ix ix_seq (vr_ok ft h2) (sE k ft.toFit h4) (plainIx_of h3)) (pa_cons (sE e ft.toFit h5) pa_nil st) rfl (by rw [st]; rfl) (beq_iff_eq.mpr h1) st rfl) rfl) fun E σ H q => ?_
  obtain ⟨B0, A0, F, env, r, p⟩ := q
  unfold evS at p
  obtain ⟨d, hd, p⟩ := p.ok odD_exc
  have hd := odD_ok hd
  obtain ⟨v, fp, hv, o, na⟩ := r.ra.ods hd
  refine ⟨v, hv, r.aftE p fun x F1 H1 v1 e1 rv1 s1 p => ?_⟩
  obtain ⟨a, ha, p⟩ := p.isInt
  have iv1 := rv1.is e1.s
  rw [ha] at iv1
  cases is_int iv1
  have o1 := own_ext o e1
  obtain ⟨⟨j, ws⟩, hr, p⟩ := p.ok rowL_exc
  obtain ⟨es, hi, hp⟩ := rowL_ok hr
  obtain ⟨pa, vs, q, us, fq, rfl, g1, g2, g3, g4, g5, g6, g7, _⟩ := o1.row hi hp
  refine atI_ok g1 g2 ⟨.inl ⟨rfl, us, (LL.of (K := X.K) g3).seq⟩, s1.aftE p fun y F2 H2 v2 e2 rv2 s2 p => ?_⟩
  obtain ⟨c, hc, p⟩ := p.ok scalR_exc
  obtain ⟨sc, rfl⟩ := scalR_ok hc
  by_cases hl : ws.length < lim
  · rw [if_pos hl] at p
    have g3' := e2.h _ _ g3
    refine ⟨q, us, v2, rfl, rfl, g3', by rw [g4.len]; exact Nat.lt_trans hl lim_lt, ?_⟩
    exact p _ _ _ (s2.rowA hd hv (own_ext o1 e2) na hi hp rfl (stay2 e2 g1) g2 g3' (Is.scal (rv2.is e2.s) sc) sc)
  · rw [if_neg hl] at p
    exact p.elim
theorem sSetXX (wn : Nat) {i : Nat} {k l e : Ex} {st : Stmt} (ft : SFit X W cref n G bs cs N sc) (h : kSetXX N bs sc i k l e st = true) : PS X st (tS X.K W G wn (.setXX i k l e)) := by
  unfold kSetXX at h
  split at h
  case h_2 => cases h
  rename_i x px s ps u pu v pos
  simp only [Bool.and_eq_true, decide_eq_true_eq] at h
  obtain ⟨⟨⟨⟨⟨h1, h2⟩, h3⟩, h4⟩, h5⟩, h6⟩ := h
  have pg : PG X (.Subscript (.Subscript (.Name x px) s ps) u pu) (gSub (tOp (rIx X.K) (tVar i) (tE X.K W G k)) (tE X.K W G l) rSetL) := by
    refine pg_sub (pe_ix ix_seq (vr_ok ft h1) (sE k ft.toFit h4) (plainIx_of h2)) (sE l ft.toFit h5) set_list ?_
    cases u <;> first | (intro _; rfl) | cases h3
  refine ps_imp (ps_asg (sE e ft.toFit h6) pg (swaps_two (a := .Subscript (.Name x px) s ps) (b := u) (p := pu) (n := pos.line) (env := X.env)) stores_sub) fun E σ H q => ?_
  obtain ⟨B0, A0, F, env, r0, p⟩ := q
  unfold evS at p
  refine r0.aftE p fun y F0 H0 v0 e0 rv0 r p => ?_
  obtain ⟨c, hc, p⟩ := p.ok scalR_exc
  obtain ⟨sc, rfl⟩ := scalR_ok hc
  obtain ⟨d, hd, p⟩ := p.ok odD_exc
  have hd := odD_ok hd
  obtain ⟨v, fp, hv, o, na⟩ := r.ra.ods hd
  refine ⟨v, hv, r.aftE p fun x F1 H1 v1 e1 rv1 s1 p => ?_⟩
  obtain ⟨a, ha, p⟩ := p.isInt
  have iv1 := rv1.is e1.s
  rw [ha] at iv1
  cases is_int iv1
  have o1 := own_ext o e1
  obtain ⟨⟨j, ws⟩, hr, p⟩ := p.ok rowL_exc
  obtain ⟨es, hi, hp⟩ := rowL_ok hr
  obtain ⟨pa, vs, q, us, fq, rfl, g1, g2, g3, g4, g5, g6, g7, _⟩ := o1.row hi hp
  refine atI_ok g1 g2 (s1.aftE p fun y2 F2 H2 v2 e2 rv2 s2 p => ?_)
  obtain ⟨b, hb, p⟩ := p.isInt
  have iv2 := rv2.is e2.s
  rw [hb] at iv2
  cases is_int iv2
  obtain ⟨d2, hd2, p⟩ := p.ok rowS_exc
  obtain ⟨m, y3, hs, hm, rfl⟩ := rowS_ok hd2
  have g3' := e2.h _ _ g3
  refine ⟨q, us, b, m, rfl, rfl, g3', by rw [g4.len]; exact (placed_ok hm).1, ?_⟩
  exact p _ _ _ (s2.rowS hd hv (own_ext o1 e2) na hi hp rfl (stay2 e2 g1) g2 g3' hs (Is.scal (rv0.is e0.s) sc) sc)
end
section
variable {K : PySem.W.Frag} {A F H F' H' : Hp} {σ : L2.St} {env : Env} {B0 A0 : Hp} {W : Wd} {E : Ends} {G : Gam}
theorem SRel.any (r : SRel K B0 A0 F H σ env) {i : Nat} {v : Option V} : SRel K B0 A0 F H (σ.set i v) (env.set i .no) := ⟨r.ra.any, r.ext⟩
theorem SRel.drop (r : SRel K B0 A0 F H σ env) (i : Nat) : SRel K B0 A0 F H σ (env.set i .no) := by
  by_cases hi : i < σ.length
  · have := r.any (i := i) (v := σ[i])
    rwa [set_get_same (List.getElem?_eq_getElem hi)] at this
  · rw [List.set_eq_of_length_le (by rw [r.rel.len]; omega)]
    exact r
theorem SRel.deep (r : SRel K B0 A0 F H σ env) {i n : Nat} {d c1 : D} {v w : V} {fp f : List Addr} {q : Addr} {u : HO} (h : env[i]? = some (.od d)) (hv : σ[i]? = some (some v)) (o : Own K F H d v fp) (na : ∀ a ∈ fp, A0 a = none)
    (rb : ∀ (H' : Hp) (c' : D), Own K F H' c' w f → (∀ a, a ∈ fp → a ∉ f → H' a = H a) → Own K F H' (putAt d n c') v fp) (sub : ∀ a ∈ f, a ∈ fp) (hq : q ∈ f) (hf : F q = none) (oc : Own K F (upd H q u) c1 w f) :
    SRel K B0 A0 F (upd H q u) σ (env.set i (.od (putAt d n c1))) := by
  have e1 := r.ext.mut (o := u) (na q (sub q hq)) hf
  refine ⟨r.ra.tree1 h hv e1.s fun fi oi => ?_, e1⟩
  rw [own_fp oi o]
  exact ⟨fp, rb _ _ oc fun a _ ha => upd_ne fun z => ha (by rw [z]; exact hq), fun a ha => .inl ha, fun a ha _ => upd_ne fun z => ha (by rw [z]; exact sub q hq)⟩
theorem own_ext_L {d : List D} {v : List V} {fp : List Addr} (o : OwnL K F H d v fp) (e : Ext F H F' H') : OwnL K F' H' d v fp := o.keep fun a ha => ⟨e.gone (o.at a ha).1 (o.at a ha).2, e.stay (o.at a ha).2⟩
theorem own_app {q : Addr} {ws : List D} {us : List V} {fq : List Addr} {c : D} {w : V} {G : Hp} (g : OwnL K F H ws us fq) (n : q ∉ fq) (ic : Is K G c w) (sc : scal c = true) : OwnL K F (upd H q (.lst (us ++ [w]))) (ws ++ [c]) (us ++ [w]) fq := by
  have := OwnL.app (es := [c]) (ws := [w]) (g := []) (.one (own_scal ic sc)) (g.keep (H' := upd H q (.lst (us ++ [w]))) (F' := F) fun a ha => ⟨(g.at a ha).1, upd_ne fun z => n (by rw [← z]; exact ha)⟩) fun a _ z => by cases z
  rwa [List.append_nil] at this
theorem own_set {q : Addr} {ws : List D} {us us' : List V} {fq : List Addr} {c : D} {w : V} {m : Nat} (g : OwnL K F H ws us fq) (hs : ws.all scal = true) (ic : Is K H c w) (sc : scal c = true) : OwnL K F (upd H q (.lst us')) (ws.set m c) (us.set m w) fq := by
  rw [g.scal hs]
  exact ownL_scal (G := H) (IsL.set m (g.is fun _ _ => rfl) ic) (all_set hs sc)
theorem eachR_exc {f : D → R D} (h : ∀ d c, f d ≠ .exc c) : ∀ {ds : List D} (c : Str), eachR f ds ≠ .exc c
  | [], c, z => by cases z
  | d :: r, c, z => bind_exc (h d) (fun e => bind_exc (eachR_exc h) fun s y q => by cases q) c z
theorem eachR_cons {f : D → R D} {d : D} {r es : List D} (h : eachR f (d :: r) = .ok es) : ∃ e s, f d = .ok e ∧ eachR f r = .ok s ∧ es = e :: s := by
  unfold eachR at h
  cases q : f d with
  | ok e =>
    rw [q] at h
    have h : ((eachR f r).bind fun s => .ok (e :: s)) = .ok es := h
    cases q2 : eachR f r with
    | ok s => rw [q2] at h; cases h; exact ⟨e, s, rfl, rfl, rfl⟩
    | exc c => rw [q2] at h; cases h
    | stuck => rw [q2] at h; cases h
  | exc c => rw [q] at h; cases h
  | stuck => rw [q] at h; cases h
theorem nox_eq {α : Type} {r : R α} {a : α} (h : nox r = .ok a) : r = .ok a := by
  cases r <;> cases h
  rfl
theorem nox_exc {α : Type} {r : R α} : ∀ c, nox r ≠ .exc c := fun c h => by cases r <;> cases h
theorem app_get {es ds : List D} {n : Nat} (h : es.length = n) : (es ++ ds.drop n)[n]? = ds[n]? := by
  rw [List.getElem?_append_right (by omega), List.getElem?_drop]
  congr 1
  omega
theorem app_set {es ds : List D} {n : Nat} {x : D} (h : es.length = n) (hn : n < ds.length) : (es ++ ds.drop n).set n x = (es ++ [x]) ++ ds.drop (n + 1) := by
  rw [List.set_append_right _ _ (by omega), List.drop_eq_getElem_cons hn, h, Nat.sub_self, List.append_assoc]
  rfl
end
section
variable {cref : Str → Value} {n : Nat} {G : Gam} {bs cs N : List Str} {X : Cx} {W : Wd} {sc : Scope}
theorem sLopA (wn : Nat) {i j : Nat} {k : Int} {c : Const} {st : Stmt} (ft : SFit X W cref n G bs cs N sc) (h : kLopA N bs sc i j k c st = true) : PS X st (tS X.K W G wn (.lopA i j k c)) := by
  unfold kLopA at h
  split at h
  case h_2 => cases h
  simp only [Bool.and_eq_true, decide_eq_true_eq] at h
  obtain ⟨⟨⟨⟨⟨⟨⟨⟨hr, rfl⟩, h1⟩, h2⟩, h3⟩, h4⟩, h5⟩, h6⟩, h7⟩ := h
  obtain ⟨na, nb, nc⟩ := st_of ft.hN ft.hsc (fun x _ => ft.fn x) h3
  have hN : X.N.Nodup := by rw [ft.hN]; exact ft.nd
  have st := star_cons (es := []) (env := X.env) (chk_noStar h7)
  refine ps_imp (ps_for ft.pass (ft.calm hr) (pi_list (vr_ok ft h2)) (pg_name hN na nb nc) (pss_one (ps_expr (pe_bm PySem.F.plainAttrs_list PySem.F.slot_list_append PySem.F.type_list_append mt_append (pe_ix ix_seq (vr_ok ft h4) (sE (.cst (.int k)) ft.toFit h6) (plainIx_of h5)) (pa_cons (sE (.cst c) ft.toFit h7) pa_nil st) rfl (by rw [st]; rfl) (beq_iff_eq.mpr h1) st rfl) rfl))) fun E σ H q => ?_
  obtain ⟨B0, A0, F, env, r, p⟩ := q
  unfold evS at p
  obtain ⟨t, ht, p⟩ := p.ok odD_exc
  have ht := odD_ok ht
  obtain ⟨ds, hds, p⟩ := p.ok asL_exc
  have hds := asL_ok hds
  subst hds
  cases hc : constD c with
  | none => rw [hc] at p; exact p.elim
  | some cd =>
    rw [hc] at p
    by_cases hij : i ≠ j ∧ j < env.length
    case neg =>
      have p : Post X.K B0 A0 W E (if i ≠ j ∧ j < env.length then Out.of env (eachR (rowA k cd) ds) fun es => .nx ((env.set j .no).set i (.od (.list es))) else .stuck) := p
      rw [if_neg hij] at p
      exact p.elim
    have p : Post X.K B0 A0 W E (if i ≠ j ∧ j < env.length then Out.of env (eachR (rowA k cd) ds) fun es => .nx ((env.set j .no).set i (.od (.list es))) else .stuck) := p
    rw [if_pos hij] at p
    obtain ⟨nij, jl⟩ := hij
    obtain ⟨fin, hfin, p⟩ := p.ok (eachR_exc fun d => rowA_exc)
    obtain ⟨v, fp, hv, o, _⟩ := r.ra.ods ht
    have il := lt_of_get ht
    simp only [Own] at o
    obtain ⟨a, xs, fq, rfl, rfl, g1, g2, g3, g4⟩ := o
    refine ⟨_, hv, a, rfl, ⟨xs, (LL.of g3).seq⟩, ?_⟩
    have s0 := r.drop j
    have e0 : (env.set j .no).set i (.od (.list ds)) = env.set j .no := set_eq_self (by rw [List.getElem?_set_ne (Ne.symm nij)]; exact ht)
    refine for_list (fun n σ' H' => ∃ F' es rest, n ≤ ds.length ∧ es.length = n ∧ eachR (rowA k cd) (ds.drop n) = .ok rest ∧ es ++ rest = fin ∧ SRel X.K B0 A0 F' H' σ' ((env.set j .no).set i (.od (.list (es ++ ds.drop n)))) ∧ σ'[i]? = some (some (.ref a)) ∧ H' a = some (.lst xs))
      ⟨F, [], fin, Nat.zero_le _, rfl, hfin, rfl, by rw [List.drop_zero, List.nil_append, e0]; exact s0, hv, g3⟩ (fun n σ' H' _ ⟨F', es, rest, _, _, _, _, _, _, z⟩ => (LL.of z).seq) (fun m x σ1 H1 hx ⟨F1, es, rest, hm, hes, hre, hfi, s1, hv1, ha1⟩ => ?_) (fun σ1 H1 ⟨F1, es, rest, hm, hes, hre, hfi, s1, hv1, ha1⟩ => ?_)
    · have hm2 : m < ds.length := by rw [← g4.len]; exact (List.getElem?_eq_some_iff.mp hx).1
      rw [List.drop_eq_getElem_cons hm2] at hre
      obtain ⟨d1, re2, hd1, hre2, rfl⟩ := eachR_cons hre
      obtain ⟨⟨jj, ws⟩, hr1, hl, rfl⟩ := rowA_ok hd1
      obtain ⟨es1, hi1, hp1⟩ := rowL_ok hr1
      have lens : ((env.set j .no).set i (.od (.list (es ++ ds.drop m)))).length = env.length := by rw [List.length_set, List.length_set]
      have hE : ((env.set j .no).set i (.od (.list (es ++ ds.drop m))))[i]? = some (.od (.list (es ++ ds.drop m))) := List.getElem?_set_self (by rw [List.length_set]; exact il)
      have s2 : SRel X.K B0 A0 F1 H1 (σ1.set j (some x)) ((env.set j .no).set i (.od (.list (es ++ ds.drop m)))) := by
        have := s1.any (i := j) (v := some x)
        rwa [set_eq_self (x := Slot.no) (by rw [List.getElem?_set_ne nij, List.getElem?_set_self jl])] at this
      have hvi : (σ1.set j (some x))[i]? = some (some (.ref a)) := by rw [List.getElem?_set_ne (Ne.symm nij)]; exact hv1
      have hvj : (σ1.set j (some x))[j]? = some (some x) := List.getElem?_set_self (by rw [← s1.rel.len, lens]; exact jl)
      obtain ⟨v2, fp, hv2, o, na⟩ := s2.ra.ods hE
      rw [hvi] at hv2
      cases hv2
      obtain ⟨p1, vs1, w, f, q1, q2, q3, q4, q5, q6, q7, q8, rb⟩ := o.part (j := m) rfl (by rw [app_get hes]; exact List.getElem?_eq_getElem hm2)
      cases q1
      rw [ha1] at q2
      have : vs1 = xs := by rcases q2 with z | z <;> cases z; rfl
      subst this
      rw [hx] at q3
      cases q3
      obtain ⟨pa, vs, q, us, fr, rfl, y1, y2, y3, y4, y5, y6, y7, y8⟩ := q5.row hi1 hp1
      refine ⟨_, hvj, F1, _, s2.rel, ?_⟩
      have ek : ∀ e : Env, ev G (.cst (.int k)) e = .ok (.sh, .int k) := fun e => by unfold ev; rfl
      have ec : ∀ e : Env, ev G (.cst c) e = .ok (.sh, cd) := fun e => by unfold ev; rw [hc]
      rw [ek]
      refine fun F2 H2 e2 v2 rv2 => ?_
      cases is_int (K := X.K) (H := F2) rv2
      refine atI_ok (stay2 e2 y1) y2 ⟨.inl ⟨rfl, us, (LL.of (K := X.K) (e2.h _ _ y3)).seq⟩, ?_⟩
      have s3 := s2.next e2
      refine ⟨F2, _, s3.rel, ?_⟩
      rw [ec]
      refine fun F3 H3 e3 v3 rv3 => ?_
      have s4 := s3.next e3
      have e4 := e2.trans e3
      have y3' := e4.h _ _ y3
      refine ⟨q, us, v3, rfl, rfl, y3', by rw [y4.len]; exact Nat.lt_trans hl lim_lt, ?_⟩
      have sc : scal cd = true := by
        unfold constD at hc
        split at hc <;> cases hc <;> rfl
      have oc := own_app (q := q) (own_ext_L y4 e4) y5 (G := F3) (c := cd) (w := v3) rv3 sc
      obtain ⟨p2, vs2, w2, f2, z1, z2, z3, z4, z5, z6, z7, z8, rb2⟩ := (own_ext o e4).part (j := m) rfl (by rw [app_get hes]; exact List.getElem?_eq_getElem hm2)
      cases z1
      rw [e4.h _ _ ha1] at z2
      have : vs2 = vs1 := by rcases z2 with z | z <;> cases z; rfl
      subst this
      rw [hx] at z3
      cases z3
      have ef := own_fp z5 (own_ext q5 e4)
      subst ef
      obtain ⟨_, fr2, t1, t2, t3, t4, t5⟩ := z5.row_at hi1 hp1 rfl (stay2 e4 y1) y2 y3'
      have er := ownL_fp t1 (own_ext_L y4 e4)
      subst er
      have s5 := s4.deep (u := .lst (us ++ [v3])) hE hvi (own_ext o e4) na rb2 z6 t3 t4 (t5 _ _ oc)
      refine ⟨F3, es ++ [putAt ds[m] jj (.list (ws ++ [cd]))], re2, hm2, by rw [List.length_append, hes]; rfl, hre2, by rw [List.append_assoc]; exact hfi, ?_, hvi, ?_⟩
      · rw [← app_set hes hm2]
        rw [List.set_set] at s5
        exact s5
      · rw [upd_ne fun z => z7 (by rw [z]; exact t3)]
        exact e4.h _ _ ha1
    · have hm2 : xs.length = ds.length := g4.len
      rw [hm2, List.drop_length] at hre s1
      cases hre
      rw [List.append_nil] at hfi s1
      subst hfi
      exact p _ _ _ s1
theorem bind_ok2 {α β : Type} {r : R α} {f : α → R β} {b : β} (h : r.bind f = .ok b) : ∃ a, r = .ok a ∧ f a = .ok b := by
  cases r with
  | ok a => exact ⟨a, rfl, h⟩
  | exc c => cases h
  | stuck => cases h
theorem isInt_ok2 {d : D} {i : Int} (h : PV.isInt d = .ok i) : d = .int i := by
  cases d <;> cases h
  rfl
theorem sLopS (wn : Nat) {i j : Nat} {k : Int} {l e : Ex} {st : Stmt} (ft : SFit X W cref n G bs cs N sc) (h : kLopS N bs sc i j k l e st = true) : PS X st (tS X.K W G wn (.lopS i j k l e)) := by
  unfold kLopS at h
  split at h
  case h_2 => cases h
  rename_i rr pr xx px r2 pr2 ss pss uu pu vv pos pos2
  simp only [Bool.and_eq_true, decide_eq_true_eq] at h
  obtain ⟨⟨⟨⟨⟨⟨⟨⟨hr, h2⟩, h3⟩, h4⟩, h5⟩, h5b⟩, h6⟩, h7⟩, h8⟩ := h
  obtain ⟨na, nb, nc⟩ := st_of ft.hN ft.hsc (fun x _ => ft.fn x) h3
  have hN : X.N.Nodup := by rw [ft.hN]; exact ft.nd
  have pg : PG X (.Subscript (.Subscript (.Name r2 pr2) ss pss) uu pu) (gSub (tOp (rIx X.K) (tVar j) (tE X.K W G (.cst (.int k)))) (tE X.K W G l) rSetL) := by
    refine pg_sub (pe_ix ix_seq (vr_ok ft h4) (sE (.cst (.int k)) ft.toFit h6) (plainIx_of h5)) (sE l ft.toFit h7) set_list ?_
    cases uu <;> first | (intro _; rfl) | cases h5b
  refine ps_imp (ps_for ft.pass (ft.calm hr) (pi_list (vr_ok ft h2)) (pg_name hN na nb nc) (pss_one (ps_asg (sE e ft.toFit h8) pg (swaps_two (a := .Subscript (.Name r2 pr2) ss pss) (b := uu) (p := pu) (n := pos.line) (env := X.env)) stores_sub))) fun E σ H q => ?_
  obtain ⟨B0, A0, F, env, r, p⟩ := q
  unfold evS at p
  obtain ⟨t, ht, p⟩ := p.ok odD_exc
  have ht := odD_ok ht
  obtain ⟨ds, hds, p2⟩ := p.ok asL_exc
  have hds := asL_ok hds
  subst hds
  clear p
  generalize hf : (fun d => (ev G e ((env.set i .no).set j (.od d))).bind fun y => (scalD y).bind fun c => (rowL k d).bind fun p => (ev G l ((env.set i .no).set j (.od d))).bind fun b => (isInt b.2).bind fun b => rowS p b c d) = f at p2
  have p : Post X.K B0 A0 W E (if i ≠ j ∧ j < env.length then Out.of env (nox (eachR f ds)) fun es => .nx ((env.set j .no).set i (.od (.list es))) else .stuck) := p2
  clear p2
  by_cases hij : i ≠ j ∧ j < env.length
  case neg =>
    rw [if_neg hij] at p
    exact p.elim
  rw [if_pos hij] at p
  obtain ⟨nij, jl⟩ := hij
  obtain ⟨fin, hfin, p⟩ := p.ok nox_exc
  have hfin := nox_eq hfin
  obtain ⟨v, fp, hv, o, _⟩ := r.ra.ods ht
  have il := lt_of_get ht
  simp only [Own] at o
  obtain ⟨a, xs, fq, rfl, rfl, g1, g2, g3, g4⟩ := o
  refine ⟨_, hv, a, rfl, ⟨xs, (LL.of g3).seq⟩, ?_⟩
  have s0 := r.drop j
  have e0 : (env.set j .no).set i (.od (.list ds)) = env.set j .no := set_eq_self (by rw [List.getElem?_set_ne (Ne.symm nij)]; exact ht)
  refine for_list (fun n σ' H' => ∃ F' es rest, n ≤ ds.length ∧ es.length = n ∧ eachR f (ds.drop n) = .ok rest ∧ es ++ rest = fin ∧ SRel X.K B0 A0 F' H' σ' ((env.set j .no).set i (.od (.list (es ++ ds.drop n)))) ∧ σ'[i]? = some (some (.ref a)) ∧ H' a = some (.lst xs))
    ⟨F, [], fin, Nat.zero_le _, rfl, hfin, rfl, by rw [List.drop_zero, List.nil_append, e0]; exact s0, hv, g3⟩ (fun n σ' H' _ ⟨F', es, rest, _, _, _, _, _, _, z⟩ => (LL.of z).seq) (fun m x σ1 H1 hx ⟨F1, es, rest, hm, hes, hre, hfi, s1, hv1, ha1⟩ => ?_) (fun σ1 H1 ⟨F1, es, rest, hm, hes, hre, hfi, s1, hv1, ha1⟩ => ?_)
  · have hm2 : m < ds.length := by rw [← g4.len]; exact (List.getElem?_eq_some_iff.mp hx).1
    rw [List.drop_eq_getElem_cons hm2] at hre
    obtain ⟨d1, re2, hd1, hre2, rfl⟩ := eachR_cons hre
    rw [← hf] at hd1
    obtain ⟨y, hy, hd1⟩ := bind_ok2 hd1
    obtain ⟨c, hc, hd1⟩ := bind_ok2 hd1
    obtain ⟨sc, rfl⟩ := scalR_ok hc
    obtain ⟨⟨jj, ws⟩, hr1, hd1⟩ := bind_ok2 hd1
    obtain ⟨b, hb, hd1⟩ := bind_ok2 hd1
    obtain ⟨bi, hbi, hd1⟩ := bind_ok2 hd1
    obtain ⟨mm, y0, hs, hm0, rfl⟩ := rowS_ok hd1
    obtain ⟨es1, hi1, hp1⟩ := rowL_ok hr1
    have lens : ((env.set j .no).set i (.od (.list (es ++ ds.drop m)))).length = env.length := by rw [List.length_set, List.length_set]
    have hE : ((env.set j .no).set i (.od (.list (es ++ ds.drop m))))[i]? = some (.od (.list (es ++ ds.drop m))) := List.getElem?_set_self (by rw [List.length_set]; exact il)
    have s2 : SRel X.K B0 A0 F1 H1 (σ1.set j (some x)) ((env.set j .no).set i (.od (.list (es ++ ds.drop m)))) := by
      have := s1.any (i := j) (v := some x)
      rwa [set_eq_self (x := Slot.no) (by rw [List.getElem?_set_ne nij, List.getElem?_set_self jl])] at this
    have hvi : (σ1.set j (some x))[i]? = some (some (.ref a)) := by rw [List.getElem?_set_ne (Ne.symm nij)]; exact hv1
    have hvj : (σ1.set j (some x))[j]? = some (some x) := List.getElem?_set_self (by rw [← s1.rel.len, lens]; exact jl)
    obtain ⟨v2, fp, hv2, o, na⟩ := s2.ra.ods hE
    rw [hvi] at hv2
    cases hv2
    obtain ⟨p1, vs1, w, ff, q1, q2, q3, q4, q5, q6, q7, q8, rb⟩ := o.part (j := m) rfl (by rw [app_get hes]; exact List.getElem?_eq_getElem hm2)
    cases q1
    rw [ha1] at q2
    have : vs1 = xs := by rcases q2 with z | z <;> cases z; rfl
    subst this
    rw [hx] at q3
    cases q3
    obtain ⟨pa, vs, q, us, fr, rfl, y1, y2, y3, y4, y5, y6, y7, y8⟩ := q5.row hi1 hp1
    -- the row alone, to be read
    have rr2 : RelA X.K A0 F1 H1 (σ1.set j (some (.ref pa))) ((env.set i .no).set j (.od ds[m])) := by
      have := s2.ra.change (i := j) (by rw [lens]; exact jl) i (x := some (.ref pa)) (t := .od ds[m]) (F' := F1) (H' := H1) s2.rel.sub (Same.refl _) fun fps b1 b2 b3 => by
        obtain ⟨w2, z1, z2⟩ := b1 i _ hE
        rw [hvi] at z1
        cases z1
        have e1 := own_fp z2 o
        exact ⟨ff, ⟨_, rfl, q5⟩, fun a2 ha2 => na a2 (q6 a2 ha2), fun k2 k3 k4 k5 a2 ha2 => ⟨fun z => b2 k2 i k4 k5 (by rw [lens]; exact il) a2 ha2 (by rw [e1]; exact q6 a2 z), (b3 k2 k5 a2 ha2).2.1, rfl⟩⟩
      rw [List.set_set] at this
      rw [List.set_set, List.set_comm _ _ (Ne.symm nij), List.set_set] at this
      exact this
    refine ⟨F1, _, rr2.rel, ?_⟩
    rw [hy]
    refine fun F2 H2 e2 v2 rv2 => ?_
    refine ⟨_, hvj, F2, _, (rr2.ext e2).rel, ?_⟩
    have ek : ∀ e : Env, ev G (.cst (.int k)) e = .ok (.sh, .int k) := fun e => by unfold ev; rfl
    rw [ek]
    refine fun F3 H3 e3 v3 rv3 => ?_
    cases is_int (K := X.K) (H := F3) rv3
    have e23 := e2.trans e3
    refine atI_ok (stay2 e23 y1) y2 ⟨F3, _, ((rr2.ext e2).ext e3).rel, ?_⟩
    rw [hb]
    refine fun F4 H4 e4 v4 rv4 => ?_
    have e5 := e23.trans e4
    have iv4 := rv4.is e4.s
    rw [isInt_ok2 hbi] at iv4
    cases is_int iv4
    have y3' := e5.h _ _ y3
    refine ⟨q, us, bi, mm, rfl, rfl, y3', by rw [y4.len]; exact (placed_ok hm0).1, ?_⟩
    have s4 := s2.next e5
    have ic : Is X.K H4 y.2 v2 := (rv2.is e2.s).mono (e3.h.trans e4.h)
    have oc := own_set (q := q) (us' := us.set mm v2) (own_ext_L y4 e5) hs ic sc (m := mm)
    obtain ⟨p2, vs2, w2, f2, z1, z2, z3, z4, z5, z6, z7, z8, rb2⟩ := (own_ext o e5).part (j := m) rfl (by rw [app_get hes]; exact List.getElem?_eq_getElem hm2)
    cases z1
    rw [e5.h _ _ ha1] at z2
    have : vs2 = vs1 := by rcases z2 with z | z <;> cases z; rfl
    subst this
    rw [hx] at z3
    cases z3
    have ef := own_fp z5 (own_ext q5 e5)
    subst ef
    obtain ⟨_, fr2, t1, t2, t3, t4, t5⟩ := z5.row_at hi1 hp1 rfl (stay2 e5 y1) y2 y3'
    have er := ownL_fp t1 (own_ext_L y4 e5)
    subst er
    have s5 := s4.deep (u := .lst (us.set mm v2)) hE hvi (own_ext o e5) na rb2 z6 t3 t4 (t5 _ _ oc)
    refine ⟨F4, es ++ [putAt ds[m] jj (.list (ws.set mm y.2))], re2, hm2, by rw [List.length_append, hes]; rfl, hre2, by rw [List.append_assoc]; exact hfi, ?_, hvi, ?_⟩
    · rw [← app_set hes hm2]
      rw [List.set_set] at s5
      exact s5
    · rw [upd_ne fun z => z7 (by rw [z]; exact t3)]
      exact e5.h _ _ ha1
  · have hm2 : xs.length = ds.length := g4.len
    rw [hm2, List.drop_length] at hre s1
    cases hre
    rw [List.append_nil] at hfi s1
    subst hfi
    exact p _ _ _ s1
theorem hL2_set {K : PySem.W.Frag} {H : Hp} {ds : List D} {vs : List V} {j : Nat} {d : D} {v : V} (h : IsL K H ds vs) (q : Is K H d v) : IsL K H (ds.set j d) (vs.set j v) := h.set j q
theorem chgV_ok {ds es : List D} {k c : Int} (h : chgV ds k c = .ok es) : ∃ j d, placed ds k = .ok (j, d) ∧ ((d = .none ∧ es = ds) ∨ ∃ m, d = .int m ∧ es = ds.set j (.int (m + c))) := by
  unfold chgV at h
  obtain ⟨⟨j, d⟩, hp, h⟩ := bind_ok2 h
  refine ⟨j, d, hp, ?_⟩
  cases d with
  | none => cases h; exact .inl ⟨rfl, rfl⟩
  | int m => cases h; exact .inr ⟨m, rfl, rfl⟩
  | _ => cases h
theorem chgV_exc {ds : List D} {k c : Int} : ∀ y, chgV ds k c ≠ .exc y := by
  unfold chgV
  refine bind_exc placed_exc fun p y h => ?_
  obtain ⟨j, d⟩ := p
  cases d <;> cases h
theorem sChg (wn : Nat) {i : Nat} {l e : Ex} {st : Stmt} (ft : SFit X W cref n G bs cs N sc) (h : kChg N bs sc i l e st = true) : PS X st (tS X.K W G wn (.chg i l e)) := by
  unfold kChg at h
  split at h
  case h_2 => cases h
  simp only [Bool.and_eq_true, decide_eq_true_eq] at h
  obtain ⟨⟨⟨⟨⟨rfl, h1⟩, h2⟩, h3⟩, h4⟩, h5⟩ := h
  cases hG : G "!changed" with
  | none =>
    refine ⟨fun pins s σ H E I q => ?_⟩
    obtain ⟨B0, A0, F, env, r, p⟩ := q
    unfold evS at p
    rw [hG] at p
    exact p.elim
  | some g =>
    obtain ⟨f, fd, hm, hk, hb, hF⟩ := ft.gc.chg g hG
    have hs := chk_noStar h4
    have hs2 := chk_noStar h5
    refine ps_imp (ps_expr (pe_g (E := WE (wx cref W)) hF (ft.rm (.inl ⟨_, g, hG⟩)).1 ft.gd (ft.gl h1) hm hk hb (fun σ => passAt ft.tk σ) (pa_cons (vr_ok ft h3) (pa_cons (sE l ft.toFit h4) (pa_cons (sE e ft.toFit h5) pa_nil (star_cons hs2)) (star_cons hs)) (star_cons rfl)) (by simp only [List.all_cons, List.all_nil, Bool.and_true, Bool.and_eq_true]; exact ⟨rfl, hs, hs2⟩) (nm_of h2).1) rfl) fun E σ H q => ?_
    obtain ⟨B0, A0, F, env, r, p⟩ := q
    unfold evS at p
    rw [hG] at p
    have p : Post X.K B0 A0 W E (Out.of env (ownL env i) fun ds => Out.of env (ev G l env) fun a => Out.of env (isInt a.2) fun a => Out.of env (ev G e env) fun b => Out.of env (isInt b.2) fun b => Out.of env (chgV ds a b) fun es => .nx (env.set i (.ow (.list es)))) := p
    obtain ⟨ds, hds, p⟩ := p.ok ownL_exc
    have hds := ownL_ok hds
    obtain ⟨pa, hpa, rt⟩ := r.rel.own hds
    refine ⟨_, hpa, r.aftE p fun x F1 H1 v1 e1 rv1 s1 p => ?_⟩
    obtain ⟨a, ha, p⟩ := p.isInt
    have iv1 := rv1.is e1.s
    rw [ha] at iv1
    cases is_int iv1
    refine s1.aftE p fun x2 F2 H2 v2 e2 rv2 s2 p => ?_
    obtain ⟨b, hb2, p⟩ := p.isInt
    have iv2 := rv2.is e2.s
    rw [hb2] at iv2
    cases is_int iv2
    obtain ⟨es, hes, p9⟩ := p.ok chgV_exc
    obtain ⟨j, d, hp, hd⟩ := chgV_ok hes
    obtain ⟨hj1, hj2⟩ := placed_ok hp
    have rt2 := (rt.mono e1).mono e2
    obtain ⟨f2, vs, hvs, hL⟩ := id rt2
    obtain ⟨w, hw, iw⟩ := hL.get hj2
    refine ⟨pa, vs, a, b, j, w, rfl, hvs, by rw [hL.len]; exact hj1, hw, ?_⟩
    rcases hd with ⟨d1, d2⟩ | ⟨m, d1, d2⟩
    · rw [d1] at iw
      rw [d2] at p9
      refine .inl ⟨by simpa only [Is] using iw, ?_⟩
      have := s2
      rw [← set_eq_self hds] at this
      exact p9 _ _ _ this
    · rw [d1] at iw
      rw [d2] at p9
      refine .inr ⟨m, is_int iw, ?_⟩
      exact p9 _ _ _ (s2.write hds hpa rt2 (hL2_set hL int_is))
theorem sIns (wn : Nat) {fz : List Nat} {i : Nat} {k e : Ex} {st : Stmt} (ft : SFit X W cref n G bs cs N sc) (h : kIns N bs sc i k e st = true) : PS X st (tS X.K W G wn (.ins fz i k e)) := by
  unfold kIns at h
  split at h
  case h_2 => cases h
  simp only [Bool.and_eq_true, decide_eq_true_eq] at h
  obtain ⟨⟨⟨⟨rfl, h1⟩, h2⟩, h4⟩, h5⟩ := h
  have s4 := fun es => star_cons (es := es) (env := X.env) (chk_noStar h4)
  have s5 := fun es => star_cons (es := es) (env := X.env) (chk_noStar h5)
  refine ps_imp (ps_expr (pe_bm PySem.F.plainAttrs_list PySem.F.slot_list_insert PySem.F.type_list_insert mt_insert (vr_ok ft h2) (pa_cons (sE k ft.toFit h4) (pa_cons (sE e ft.toFit h5) pa_nil (s5 [])) (s4 _)) rfl (by rw [s4, s5]; rfl) (beq_iff_eq.mpr h1) (s4 _) (by rw [s5]; rfl)) rfl) fun E σ H q => ?_
  obtain ⟨B0, A0, F, env, r, p⟩ := q
  unfold evS at p
  obtain ⟨F0, r0⟩ := r.frz (fz := fz)
  generalize frz fz env = env at p r0
  obtain ⟨ds, hds, p⟩ := p.ok ownL_exc
  have hds := ownL_ok hds
  obtain ⟨pa, hpa, rt⟩ := r0.rel.own hds
  refine ⟨_, hpa, .inl ⟨rfl, ?_⟩, r0.aftE p fun x F1 H1 v1 e1 rv1 s1 p => ?_⟩
  · obtain ⟨_, vs, hvs, _⟩ := rt
    exact ⟨vs, (LL.of (K := X.K) hvs).seq⟩
  · obtain ⟨a, ha, p⟩ := p.isInt
    have iv1 := rv1.is e1.s
    rw [ha] at iv1
    cases is_int iv1
    refine s1.aftE p fun y F2 H2 v2 e2 rv2 s2 p => ?_
    obtain ⟨d, hd, p⟩ := p.ok shOnly_exc
    obtain ⟨F3, s3, i3, _⟩ := shOnly_use s1 e2 rv2 hd
    obtain ⟨pa', hpa', rt2⟩ := s3.rel.own hds
    rw [hpa] at hpa'
    cases hpa'
    obtain ⟨f2, vs2, hvs2, hL2⟩ := id rt2
    by_cases hl : 0 ≤ a ∧ a ≤ 1000000 ∧ ds.length < lim
    · rw [if_pos hl] at p
      refine ⟨pa, vs2, a, v2, rfl, rfl, hvs2, by rw [hL2.len]; exact Nat.lt_trans hl.2.2 lim_lt, hl.1, by omega, ?_⟩
      exact p _ _ _ (s3.write hds hpa rt2 (((hL2.take a.toNat).app (.one i3)).app (hL2.drop a.toNat)))
    · rw [if_neg hl] at p
      exact p.elim
end
end PV

/-! PvTry: try and except. -/
namespace PV
open PySem PySem.Spec PyProof.Rows L2
section
variable {X : Cx} {a D : Addr} {oe : Obj} {pn : List (Addr × Obj)}
/-- isinstance(e, (c1, c2, ..)), e the error that the suite holds -/
def rIsET (K : PySem.W.Frag) (D a : Addr) : List V → Hp → VK → Prop := fun xs H Q => ∃ (tp : Addr) (cs : List V) (us : List Value) (b : Bool), xs = [.ref a, .ref tp] ∧ H tp = some (.tup cs) ∧ Paired ClsV cs us ∧ PySem.W.kitAny K (.ref D) us = some b ∧ Q (.bl b) H
theorem call_isET (C : L2.ExcC X.K D) (hz : Zc (.ref D) none oe) (hf : ∃ vs, oe.data = .fields vs) : CallR (X.suite a ((a, oe) :: pn)) (.builtin "isinstance") (rIsET X.K D a) := by
  intro pins s σ H xs us Q I r h
  obtain ⟨tp, cs, ws, b, rfl, hT, k, e, q⟩ := h
  obtain ⟨u1, u2, rfl, r1, r2⟩ := vals2 r
  cases (show u2 = Value.ref tp from r2)
  cases (show u1 = Value.ref a from r1)
  obtain ⟨hget, _⟩ := I.pin (a, oe) (List.mem_append.mpr (.inl List.mem_cons_self))
  obtain ⟨vs, hv⟩ := hf
  have J : PySem.W.InstAt s.heap a oe D none := by
    obtain ⟨oc, od, oda, osl⟩ := oe
    obtain ⟨h1, h2⟩ := hz
    dsimp only at h1 h2 hv
    subst h1 h2 hv
    exact ⟨hget, rfl, rfl, trivial⟩
  obtain ⟨_, its, rv, o, h1, h2, n, h3⟩ := (show ObjOk X.prog X.w H s.heap tp (.tup cs) from I.hok tp _ hT)
  have e3 := ClsV.all k rv
  subst e3
  obtain ⟨oc, od, dt, sl⟩ := o
  simp only at h2 h3
  subst h2 h3
  exact PySem.W.kia_tup (PySem.W.handS_kitx_exc C.hg C.hk C.hs C.hd C.ha C.hn C.ht C.hm) I.kIn J h1 e (fun z => nomatch z) fun tk => ⟨.bl b, H, I.kept (t' := tk) fun _ _ z => z, rfl, q⟩
end
section
variable {cref : Str → Value} {n : Nat} {G : Gam} {bs cs N : List Str} {X : Cx} {W : Wd} {sc : Scope}
theorem fit_suite (ft : Fit X W cref n G bs cs N sc) (a : Addr) (pn : List (Addr × Obj)) : Fit (X.suite a pn) (fun _ _ _ => False) cref 0 (fun _ => none) [] [] N sc where
  gc := { blt := fun x hx => (by cases hx), fns := fun x g _ h => (by cases h), kwf := fun x k g h => (by cases h), chg := fun g h => (by cases h), exs := fun c hc => (by cases hc), err := fun _ c hc => (by cases hc), con := fun x g h => (by cases h), dfl := fun x g h => (by cases h) }
  hN := ft.hN
  nd := ft.nd
  hsc := ft.hsc
  calm := fun h => by cases h
  un := ft.un
  rm := fun h => by
    rcases h with ⟨f, g, h⟩ | h
    · cases h
    · cases h
  rp := fun h => (by cases h)
  gd := ft.gd
  tk := takes_none5.imp fun c d σ H q => by obtain ⟨_, _, _, z⟩ := q; exact z
/-- .. in which repr may be called -/
theorem fit_suite2 (ft : Fit X W cref n G bs cs N sc) (hr : ("repr" : Str) ∈ bs) (a : Addr) (pn : List (Addr × Obj)) : Fit (X.suite a pn) (fun _ _ _ => False) cref 0 (fun _ => none) ["repr"] [] N sc where
  gc := { blt := fun x hx => (by rw [List.mem_singleton.mp hx]; exact ft.gc.blt _ hr), fns := fun x g _ h => (by cases h), kwf := fun x k g h => (by cases h), chg := fun g h => (by cases h), exs := fun c hc => (by cases hc), err := fun _ c hc => (by cases hc), con := fun x g h => (by cases h), dfl := fun x g h => (by cases h) }
  hN := ft.hN
  nd := ft.nd
  hsc := ft.hsc
  calm := fun h => absurd (List.mem_singleton.mp h) (by decide)
  un := ft.un
  rm := fun h => by
    rcases h with ⟨f, g, h⟩ | h
    · cases h
    · exact absurd (List.mem_singleton.mp h) (by decide)
  rp := fun _ => ft.rp hr
  gd := ft.gd
  tk := takes_none5.imp fun c d σ H q => by obtain ⟨_, _, _, z⟩ := q; exact z
/-- slot i holds the error; nothing is written -/
def tUb (i : Nat) (a : Addr) (b : Bool) : TE := fun σ H Q => σ[i]? = some (some (.ref a)) ∧ ∀ H', Same H H' → Q (.bl b) H'
def tUt (i : Nat) (a : Addr) (b : Bool) : TT := fun σ H Q => σ[i]? = some (some (.ref a)) ∧ ∀ H', Same H H' → Q b H'
def tCs (ws : List V) : TA := fun _ H Q => Q ws H
/-- what the suite knows of the error -/
structure Err (K : PySem.W.Frag) (mg : Str → Option Value) (cs : List Str) (c : Str) (D : Addr) : Prop where
  ec : L2.ExcC K D
  facts : ∀ x, (x ∈ cs ∨ x = "LegionError" ∨ x = "ValueError") →
    ∃ v, PySem.W.kitOne K (.ref D) v = some (subE c x) ∧ (x = "ValueError" → v = .type "ValueError") ∧ (x ≠ "ValueError" → ∃ C, v = .ref C ∧ mg x = some (.ref C)) ∧ (x ∈ cs → x ≠ "ValueError" ∧ PySem.W.exmOne K (.ref D) v = some (subE c x))
theorem boot_VE : bootBuiltins "ValueError" = some (.type "ValueError") := by first | rfl | decide +kernel
theorem cls_ok (ft : Fit X W cref n G bs cs N sc) {c : Str} {D a : Addr} {pn : List (Addr × Obj)} (er : Err X.K X.mg cs c D) {x : Str} {p : Pos} (h : kCls sc bs cs x = true) :
    ∃ (w : V) (v : Value), PE (X.suite a pn) (.Name x p) (tC w) ∧ ClsV w v ∧ PySem.W.kitOne X.K (.ref D) v = some (subE c x) := by
  unfold kCls at h
  by_cases hx : x = "ValueError"
  · rw [if_pos hx] at h
    obtain ⟨g1, g2⟩ := ft.glN h
    obtain ⟨v, k1, k2, _⟩ := er.facts x (.inr (.inr hx))
    have := k2 hx
    subst this
    subst hx
    exact ⟨.ty "ValueError", _, pe_bltn (X := X.suite a pn) g1 g2 boot_VE rfl (by decide) (by decide), .ty _, k1⟩
  · rw [if_neg hx] at h
    simp only [Bool.and_eq_true, Bool.or_eq_true, decide_eq_true_eq] at h
    obtain ⟨⟨h1, h2⟩, h3⟩ := h
    obtain ⟨v, k1, _, k3, _⟩ := er.facts x (h3.imp id .inl)
    obtain ⟨C, rfl, hm⟩ := k3 hx
    exact ⟨.ref C, _, pe_glob (X := X.suite a pn) (ft.gl h1) hm rfl (nm_of h2).1, .own C, k1⟩
theorem clss_ok (ft : Fit X W cref n G bs cs N sc) {c : Str} {D a : Addr} {pn : List (Addr × Obj)} (er : Err X.K X.mg cs c D) : ∀ {xs : List Str} {es : List Expr}, kClss sc bs cs xs es = true →
    ∃ (ws : List V) (vs : List Value), PA (X.suite a pn) es (tCs ws) ∧ Paired ClsV ws vs ∧ PySem.W.kitAny X.K (.ref D) vs = some (xs.any (subE c)) ∧ ws.length = xs.length
  | [], [], _ => ⟨[], [], pa_imp pa_nil fun σ H Q q => q, .nil, rfl, rfl⟩
  | [], _ :: _, h => by simp [kClss] at h
  | x :: xs, [], h => by simp [kClss] at h
  | x :: xs, e :: es, h => by
    cases e with
    | Name z p =>
      simp only [kClss, Bool.and_eq_true, decide_eq_true_eq] at h
      obtain ⟨⟨rfl, h1⟩, h2⟩ := h
      obtain ⟨w, v, p1, p2, p3⟩ := cls_ok (a := a) (pn := pn) (p := p) ft er h1
      obtain ⟨ws, vs, q1, q2, q3, q4⟩ := clss_ok ft er h2
      refine ⟨w :: ws, v :: vs, pa_imp (pa_cons p1 q1 (star_cons rfl)) fun σ H Q q => q, .cons p2 q2, ?_, by rw [List.length_cons, q4, List.length_cons]⟩
      unfold PySem.W.kitAny
      rw [p3, List.any_cons]
      cases subE c z with
      | true => rfl
      | false => exact q3
    | _ => simp [kClss] at h
theorem clss_one {xs : List Str} {z : Expr} (h : kClss sc bs cs xs [z] = true) : ∃ x, xs = [x] ∧ ∃ pz, z = .Name x pz ∧ kCls sc bs cs x = true := by
  match xs, h with
  | [], h => simp [kClss] at h
  | [x], h =>
    cases z with
    | Name y pz =>
      simp only [kClss, Bool.and_eq_true, decide_eq_true_eq] at h
      obtain ⟨⟨rfl, h⟩, _⟩ := h
      exact ⟨y, rfl, pz, rfl, h⟩
    | _ => simp [kClss] at h
  | _ :: _ :: _, h => cases z <;> simp [kClss] at h
theorem kUb_noStar {i : Nat} {u : Ub} {e : Expr} (h : kUb N bs cs sc i u e = true) : noStar e = true := by
  cases e <;> first | rfl | (cases u <;> simp [kUb] at h)
theorem sUb (ft : Fit X W cref n G bs cs N sc) {c : Str} {D a : Addr} {oe : Obj} {pn : List (Addr × Obj)} (er : Err X.K X.mg cs c D) (hz : Zc (.ref D) none oe) (hf : ∃ vs, oe.data = .fields vs) {i : Nat} :
    ∀ {u : Ub} {e : Expr}, kUb N bs cs sc i u e = true → PE (X.suite a ((a, oe) :: pn)) e (tUb i a (u.is c))
  | .not u, e, h => by
    unfold kUb at h
    split at h <;> first | (cases h; done) | skip
    all_goals (rename_i heq; try cases heq)
    refine pe_imp (pe_not (sUb ft er hz hf (u := u) h)) fun σ H Q ⟨q1, q2⟩ => ⟨q1, fun H' s => ⟨_, rfl, q2 H' s⟩⟩
  | .and2 u v, e, h => by
    unfold kUb at h
    split at h <;> first | (cases h; done) | skip
    all_goals (rename_i heq; try cases heq)
    simp only [Bool.and_eq_true] at h
    refine pe_imp (pe_and (sUb ft er hz hf (u := u) h.1) (pe_one (sUb ft er hz hf (u := v) h.2))) fun σ H Q ⟨q1, q2⟩ => ⟨q1, fun H' s => ⟨_, rfl, ?_⟩⟩
    have q2 : ∀ H', Same H H' → Q (.bl (u.is c && v.is c)) H' := q2
    generalize u.is c = bu at q2
    cases bu with
    | true => exact iteT ⟨q1, fun H2 s2 => q2 H2 (s.trans s2)⟩
    | false => exact iteF (q2 H' s)
  | .and3 u v w, e, h => by
    unfold kUb at h
    split at h <;> first | (cases h; done) | skip
    all_goals (rename_i heq; try cases heq)
    simp only [Bool.and_eq_true] at h
    refine pe_imp (pe_and (sUb ft er hz hf (u := u) h.1.1) (pe_and (sUb ft er hz hf (u := v) h.1.2) (pe_one (sUb ft er hz hf (u := w) h.2)))) fun σ H Q ⟨q1, q2⟩ => ⟨q1, fun H' s => ⟨_, rfl, ?_⟩⟩
    have q2 : ∀ H', Same H H' → Q (.bl (u.is c && (v.is c && w.is c))) H' := q2
    generalize u.is c = bu at q2
    generalize v.is c = bv at q2
    cases bu with
    | true =>
      refine iteT ⟨q1, fun H2 s2 => ⟨_, rfl, ?_⟩⟩
      cases bv with
      | true => exact iteT ⟨q1, fun H3 s3 => q2 H3 ((s.trans s2).trans s3)⟩
      | false => exact iteF (q2 H2 (s.trans s2))
    | false => exact iteF (q2 H' s)
  | .isE xs, e, h => by
    have st := star_cons (e := .Name "" ⟨0, 0, 0, 0⟩) (es := []) (env := X.env) rfl
    unfold kUb at h
    split at h <;> first | (cases h; done) | skip
    all_goals (rename_i heq; try cases heq)
    · simp only [Bool.and_eq_true, decide_eq_true_eq] at h
      obtain ⟨⟨⟨⟨rfl, h1⟩, h2⟩, h3⟩, h4⟩ := h
      obtain ⟨g1, g2⟩ := ft.glN h1
      obtain ⟨ws, vs, q1, q2, q3, q4⟩ := clss_ok (a := a) (pn := (a, oe) :: pn) ft er h3
      unfold vr at h2
      simp only [Bool.and_eq_true, decide_eq_true_eq] at h2
      refine pe_imp (pe_callB (X := X.suite a ((a, oe) :: pn)) (call_isET er.ec hz hf) g1 g2 boot_isinstance (pa_cons ((fit_suite ft a ((a, oe) :: pn)).nm h2.1.1 h2.1.2 h2.2) (pa_cons (pe_tup q1) pa_nil (star_cons rfl)) (star_cons rfl)) (by decide) (by decide) (star_cons rfl) rfl) fun σ H Q ⟨z1, z2⟩ => ?_
      refine ⟨_, z1, by rw [q4]; exact Nat.le_trans (Nat.le_of_lt h4) (by rw [sizeLine_eq]; decide), fun p np => ?_⟩
      exact ⟨p, ws, vs, _, rfl, upd_same, q2, q3, z2 _ (same_upd np)⟩
    · simp only [Bool.and_eq_true, decide_eq_true_eq] at h
      obtain ⟨⟨⟨rfl, h1⟩, h2⟩, h3⟩ := h
      obtain ⟨g1, g2⟩ := ft.glN h1
      obtain ⟨x, rfl, pz, rfl, h5⟩ := clss_one h3
      obtain ⟨w, v, p1, p2, p3⟩ := cls_ok (a := a) (pn := (a, oe) :: pn) (p := pz) ft er h5
      unfold vr at h2
      simp only [Bool.and_eq_true, decide_eq_true_eq] at h2
      refine pe_imp (pe_callB (X := X.suite a ((a, oe) :: pn)) (call_isE er.ec hz hf) g1 g2 boot_isinstance (pa_cons ((fit_suite ft a ((a, oe) :: pn)).nm h2.1.1 h2.1.2 h2.2) (pa_cons p1 pa_nil (star_cons rfl)) (star_cons rfl)) (by decide) (by decide) (star_cons rfl) rfl) fun σ H Q ⟨z1, z2⟩ => ?_
      refine ⟨_, z1, w, v, _, rfl, fun u r => p2.eq r, p3, ?_⟩
      have z3 : Q (.bl (subE c x || false)) H := z2 H (Same.refl _)
      rwa [Bool.or_false] at z3
theorem sUt (ft : Fit X W cref n G bs cs N sc) {c : Str} {D a : Addr} {oe : Obj} {pn : List (Addr × Obj)} (er : Err X.K X.mg cs c D) (hz : Zc (.ref D) none oe) (hf : ∃ vs, oe.data = .fields vs) {i : Nat} :
    ∀ {u : Ub} {e : Expr}, kUt N bs cs sc i u e = true → PT (X.suite a ((a, oe) :: pn)) e (tUt i a (u.is c))
  | .not u, e, h => by
    unfold kUt at h
    split at h <;> first | (cases h; done) | skip
    all_goals (rename_i heq; try cases heq)
    exact pt_imp (pt_not (sUt ft er hz hf (u := u) h)) fun σ H Q ⟨q1, q2⟩ => ⟨q1, fun H' s => q2 H' s⟩
  | .and2 u v, e, h => by
    unfold kUt at h
    split at h <;> first | (cases h; done) | skip
    all_goals (rename_i heq; try cases heq)
    simp only [Bool.and_eq_true] at h
    refine pt_imp (pw_and (sUt ft er hz hf (u := u) h.1) (pw_and1 (sUt ft er hz hf (u := v) h.2))).pt fun σ H Q ⟨q1, q2⟩ => ⟨q1, fun H' s => ?_⟩
    have q2 : ∀ H', Same H H' → Q (u.is c && v.is c) H' := q2
    generalize u.is c = bu at q2
    cases bu with
    | true => exact iteT ⟨q1, fun H2 s2 => q2 H2 (s.trans s2)⟩
    | false => exact iteF (q2 H' s)
  | .and3 u v w, e, h => by simp [kUt] at h
  | .isE xs, e, h => by
    unfold kUt at h
    split at h <;> first | (cases h; done) | skip
    all_goals (rename_i heq; try cases heq)
    exact pt_imp (pt_truth (sUb ft er hz hf h) fun _ => rfl) fun σ H Q ⟨q1, q2⟩ => ⟨q1, fun H' s => ⟨_, rfl, q2 H' s⟩⟩
/-- the suite's reading -/
def tSux (K : PySem.W.Frag) (i : Nat) (a : Addr) (c : Str) (s : Sux) : TS := fun E σ H => σ[i]? = some (some (.ref a)) ∧ ∃ B0 A0 F env, SRel K B0 A0 F H σ env ∧ env[i]? = some .no ∧ Post K B0 A0 (fun _ _ _ => False) E (s.ev c env)
theorem ext_same {F H H' : Hp} (s : Same F H) (s' : Same H H') : Ext F H F H' := ⟨Same.refl _, s', s.trans s', fun _ h => .inl h⟩
theorem sSux (ft : SFit X W cref n G bs cs N sc) {c : Str} {D a : Addr} {oe : Obj} {pn : List (Addr × Obj)} (er : Err X.K X.mg cs c D) (hz : Zc (.ref D) none oe) (hf : ∃ vs, oe.data = .fields vs) {i : Nat} :
    ∀ {s : Sux} {st : Stmt}, kSux N bs cs sc i s st = true → PS (X.suite a ((a, oe) :: pn)) st (tSux X.K i a c s)
  | .ret u, st, h => by
    unfold kSux at h
    split at h <;> first | (cases h; done) | skip
    all_goals (rename_i heq; try cases heq)
    refine ps_imp (ps_ret (sUb ft.toFit er hz hf h)) fun E σ H ⟨q1, B0, A0, F, env, r, q2, p⟩ => ⟨q1, fun H' s => ?_⟩
    exact p _ F H' (r.ext.trans (ext_same r.rel.sub s)) (bool_is (K := X.K) (H := F))
  | .rets u x y, st, h => by
    unfold kSux at h
    split at h <;> first | (cases h; done) | skip
    all_goals (rename_i heq; try cases heq)
    simp only [Bool.and_eq_true, decide_eq_true_eq] at h
    obtain ⟨⟨h1, rfl⟩, rfl⟩ := h
    refine ps_imp (ps_ret (pe_ifExp (sUt ft.toFit er hz hf h1) pe_str pe_str)) fun E σ H ⟨q1, B0, A0, F, env, r, q2, p⟩ => ⟨q1, fun H' s => ?_⟩
    have p : Post X.K B0 A0 (fun _ _ _ => False) E (.ret .sh (.str (if u.is c then _ else _))) := p
    generalize u.is c = b at p
    cases b with
    | true => exact iteT (p _ F H' (r.ext.trans (ext_same r.rel.sub s)) (str_is (K := X.K) (H := F)))
    | false => exact iteF (p _ F H' (r.ext.trans (ext_same r.rel.sub s)) (str_is (K := X.K) (H := F)))
  | .addI j u, st, h => by
    unfold kSux at h
    split at h <;> first | (cases h; done) | skip
    all_goals (rename_i heq; try cases heq)
    simp only [Bool.and_eq_true, decide_eq_true_eq] at h
    obtain ⟨⟨⟨⟨⟨h0, h1⟩, h2⟩, rfl⟩, h4⟩, h5⟩ := h
    obtain ⟨g1, g2⟩ := ft.glN h4
    obtain ⟨z1, z2, z3⟩ := st_of ft.hN ft.hsc (fun x _ => ft.fn x) h1
    have hN : X.N.Nodup := by rw [ft.hN]; exact ft.nd
    unfold vr at h2
    simp only [Bool.and_eq_true, decide_eq_true_eq] at h2
    have star := fun (e : Expr) (k : noStar e = true) => star_cons (e := e) (es := []) (env := X.env) k
    have hns : noStar _ = true := kUb_noStar h5
    refine ps_imp (ps_set (X := X.suite a ((a, oe) :: pn)) hN z1 z2 (pe_op op_add ((fit_suite ft.toFit a ((a, oe) :: pn)).nm h2.1.1 h2.1.2 h2.2) (pe_callTy (X := X.suite a ((a, oe) :: pn)) call_int1 g1 g2 rfl (pa_cons (sUb ft.toFit er hz hf h5) pa_nil (star_cons hns)) (by decide) (by decide) (star_cons hns) rfl)) rfl z3) fun E σ H ⟨q1, B0, A0, F, env, r, q2, p⟩ => ?_
    have p : Post X.K B0 A0 (fun _ _ _ => False) E (match env[j]? with | some (.sh (.int n)) => .nx (env.set j (.sh (.int (n + (if u.is c then 1 else 0))))) | _ => .stuck) := p
    split at p
    · rename_i n hj
      obtain ⟨v, hv, iv⟩ := r.rel.shs hj
      cases is_int iv
      refine ⟨_, hv, q1, fun H' s => .inr ⟨_, rfl, ?_⟩⟩
      refine ⟨_, _, rfl, rfl, ?_⟩
      exact p _ F H' ((r.next (ext_same r.rel.sub s)).set int_is)
    · exact p.elim
  | .pas, st, h => by
    unfold kSux at h
    split at h <;> first | (cases h; done) | skip
    all_goals (rename_i heq; try cases heq)
    exact ps_imp ps_pass fun E σ H ⟨q1, B0, A0, F, env, r, q2, p⟩ => (show Post X.K B0 A0 (fun _ _ _ => False) E (.nx env) from p) _ _ _ r
  | .retE u v w p0 q0, st, h => by
    unfold kSux at h
    split at h <;> first | (cases h; done) | skip
    all_goals (rename_i heq; try cases heq)
    simp only [Bool.and_eq_true, decide_eq_true_eq] at h
    obtain ⟨⟨⟨⟨⟨hr, h1⟩, h2⟩, h3⟩, h4⟩, h5⟩ := h
    have f2 := fit_suite2 ft.toFit hr a ((a, oe) :: pn)
    refine ps_imp (ps_ret (pe_and (sUb ft.toFit er hz hf h1) (pe_and (sUb ft.toFit er hz hf h2) (pe_and (sUb ft.toFit er hz hf h3) (pe_and (sE p0 f2 h4) (pe_one (sE q0 f2 h5))))))) fun E σ H ⟨q1, B0, A0, F, env, r, q2, p⟩ => ⟨q1, fun H' s => ⟨_, rfl, ?_⟩⟩
    have fin : ∀ H2, Same H H2 → Post X.K B0 A0 (fun _ _ _ => False) E (.ret .sh (.bool false)) → E.rt (.bl false) H2 := fun H2 s2 p => p _ F H2 (r.ext.trans (ext_same r.rel.sub s2)) (bool_is (K := X.K) (H := F))
    have p : Post X.K B0 A0 (fun _ _ _ => False) E (if (u.is c && (v.is c && w.is c)) = true then (match ev (fun _ => none) p0 env with
      | .ok (_, .bool a) => if a = true then (match ev (fun _ => none) q0 env with | .ok (_, .bool b) => .ret .sh (.bool b) | _ => .stuck) else .ret .sh (.bool false)
      | _ => .stuck) else .ret .sh (.bool false)) := p
    generalize u.is c = bu at p
    generalize v.is c = bv at p
    generalize w.is c = bw at p
    cases bu with
    | false => exact iteF (fin H' s p)
    | true =>
    refine iteT ⟨q1, fun H2 s2 => ⟨_, rfl, ?_⟩⟩
    cases bv with
    | false => exact iteF (fin H2 (s.trans s2) p)
    | true =>
    refine iteT ⟨q1, fun H3 s3 => ⟨_, rfl, ?_⟩⟩
    cases bw with
    | false => exact iteF (fin H3 ((s.trans s2).trans s3) p)
    | true =>
    have s4 : Same H H3 := (s.trans s2).trans s3
    have rl : Rel X.K F H3 σ env := r.rel.ext (ext_same r.rel.sub s4)
    refine iteT ⟨F, env, rl, ?_⟩
    have p : Post X.K B0 A0 (fun _ _ _ => False) E (match ev (fun _ => none) p0 env with
      | .ok (_, .bool a) => if a = true then (match ev (fun _ => none) q0 env with | .ok (_, .bool b) => .ret .sh (.bool b) | _ => .stuck) else .ret .sh (.bool false)
      | _ => .stuck) := p
    cases h0 : ev (fun _ => none) p0 env with
    | stuck => rw [h0] at p; exact p.elim
    | exc _ => rw [h0] at p; exact p.elim
    | ok x =>
    rw [h0] at p
    obtain ⟨t, d⟩ := x
    intro F4 H4 e4 v4 rv4
    cases d with
    | bool b4 =>
      have iv := is_bool (rv4.is e4.s)
      subst iv
      refine ⟨b4, rfl, ?_⟩
      have x4 : Ext B0 A0 F4 H4 := (r.ext.trans (ext_same r.rel.sub s4)).trans e4
      cases b4 with
      | false => exact iteF (p _ F4 H4 x4 (bool_is (K := X.K) (H := F4)))
      | true =>
      refine iteT ⟨F4, env, rl.ext e4, ?_⟩
      have p : Post X.K B0 A0 (fun _ _ _ => False) E (match ev (fun _ => none) q0 env with | .ok (_, .bool b) => .ret .sh (.bool b) | _ => .stuck) := p
      cases h5 : ev (fun _ => none) q0 env with
      | stuck => rw [h5] at p; exact p.elim
      | exc _ => rw [h5] at p; exact p.elim
      | ok x =>
      rw [h5] at p
      obtain ⟨t5, d5⟩ := x
      intro F5 H5 e5 v5 rv5
      cases d5 with
      | bool b5 =>
        have iv := is_bool (rv5.is e5.s)
        subst iv
        exact p _ F5 H5 (x4.trans e5) (bool_is (K := X.K) (H := F5))
      | _ => exact p.elim
    | _ => exact p.elim
theorem Post.weak {K : PySem.W.Frag} {B0 A0 : Hp} {W : Wd} {E : Ends} {s : Sux} {c : Str} {env : Env} {i : Nat} (hi : env[i]? = some .no) (h : Post K B0 A0 W E (s.ev c env)) :
    Post K B0 A0 (fun _ _ _ => False) { nx := fun σ' H' => E.nx (σ'.set i none) H', rt := E.rt, bk := fun σ' H' => E.bk (σ'.set i none) H', ct := fun σ' H' => E.ct (σ'.set i none) H' } (s.ev c env) := by
  have keep : ∀ {e : Env}, e[i]? = some .no → (∀ σ F H, SRel K B0 A0 F H σ e → E.nx σ H) → ∀ σ F H, SRel K B0 A0 F H σ e → E.nx (σ.set i none) H := fun {e} he k σ F H r => by
    have := r.any (i := i) (v := none)
    rw [set_eq_self he] at this
    exact k _ F H this
  cases s with
  | ret u => exact h
  | rets u x y => exact h
  | pas => exact keep hi h
  | retE u v w p q =>
    have k : (∃ d, (Sux.retE u v w p q).ev c env = .ret .sh d) ∨ (Sux.retE u v w p q).ev c env = .stuck := by
      simp only [Sux.ev]
      split
      · split
        · split
          · split
            · exact .inl ⟨_, rfl⟩
            · exact .inr rfl
          · exact .inl ⟨_, rfl⟩
        · exact .inr rfl
      · exact .inl ⟨_, rfl⟩
    rcases k with ⟨d, k⟩ | k
    · rw [k] at h ⊢
      exact h
    · rw [k] at h
      exact h.elim
  | addI j u =>
    have h : Post K B0 A0 W E (match env[j]? with | some (.sh (.int n)) => .nx (env.set j (.sh (.int (n + (if u.is c then 1 else 0))))) | _ => .stuck) := h
    show Post K B0 A0 _ _ (match env[j]? with | some (.sh (.int n)) => .nx (env.set j (.sh (.int (n + (if u.is c then 1 else 0))))) | _ => .stuck)
    split at h
    · rename_i m hj
      refine keep ?_ h
      by_cases e : j = i
      · subst e
        rw [hj] at hi
        cases hi
      · rw [List.getElem?_set_ne e]
        exact hi
    · exact h.elim
/-- the clauses, each with the same name (slot i), and what they wish one after the other -/
inductive Hds (X : Cx) (n : Str) (i : Nat) (Wout : WX) : List ExceptHandler → (Ends → WX) → Prop
  | nil : Hds X n i Wout [] fun _ => Wout
  | cons {x : Str} {c : Value} {ts : Addr → Value → Option Addr → TS} {b : Stmt} {np p : Pos} {hs : List ExceptHandler} {w : Ends → WX} (hc : Names X x c)
      (hsu : ∀ (a : Addr) (oe : Obj) (cls : Value) (d : Option Addr) (pn : List (Addr × Obj)), Zc cls d oe → (∃ vs, oe.data = .fields vs) → PSs (X.suite a ((a, oe) :: pn)) [b] (ts a cls d)) (r : Hds X n i Wout hs w) :
      Hds X n i Wout (.ExceptHandler (some (.Name x np)) (some n) [b] p :: hs) fun D => wAs X.K c i ts (w D) D
theorem ps_hds {body : List Stmt} {nm : Str} {i : Nat} {h₀ : ExceptHandler} {hds : List ExceptHandler} {w : Ends → WX} {pos : Pos} {tb : WX → TS} {Wout : WX} (hs : X.stack = X.env :: X.outer) (hf : X.env.frame = some X.env.locals) (hN : X.N.Nodup) (hi : X.N[i]? = some nm) (hln : X.env.kindOf nm = some .local) (tk : Takes X Wout)
    (hb : ∀ (W : WX) (pn : List (Addr × Obj)) (xe : Value → Shared → Prop), Takes (X.tr pn xe) W → PassesOwn (model X.prog X.w) X.A X.env xe → PSs (X.tr pn xe) body (tb W)) (hh : Hds X nm i Wout (h₀ :: hds) w) :
    PS X (.Try body (h₀ :: hds) [] [] pos) (fun D σ H => tb (w D) D σ H) := by
  refine ⟨fun pins s σ H D I q0 => ?_⟩
  have ok := I.ok
  have fr : X.A.frames = some (X.env :: X.outer) := ok.frames.trans (congrArg some hs)
  refine wpAny_Try_except (wpAny_mono ((hb (w D) (X.pn ++ pins) (fun e s₁ => wpAny (model X.prog X.w) X.A (noteFrame e X.env) (fun _ s₂ => wpAny (model X.prog X.w) X.A (setFlight e none) (fun _ s₃ =>
    wpAny (model X.prog X.w) X.A (handleBy e X.env (h₀ :: hds)) (SP X pins D) X.xe s₃) X.xe s₂) X.xe s₁) ?ctch PassesOwn.looking).run [] s σ H D (I.toTry _) q0) ?thru fun _ _ he => he)
  case thru =>
    intro f s1 q
    cases f with
    | next => obtain ⟨σ', H', J, q⟩ := q; exact wpAny_execs_nil ⟨σ', H', J.ofTry ok, q⟩
    | brk => obtain ⟨σ', H', J, q⟩ := q; exact ⟨σ', H', J.ofTry ok, q⟩
    | cont => obtain ⟨σ', H', J, q⟩ := q; exact ⟨σ', H', J.ofTry ok, q⟩
    | ret u => obtain ⟨v, σ', H', J, r, q⟩ := q; exact ⟨v, σ', H', J.ofTry ok, r, q⟩
  case ctch =>
    rintro u s' ⟨a, B, sI, pins', σ', H', cls, d, rfl, J', nb, up, sky, na, os, ag, wish⟩
    have J : Inv X pins σ' H' sI := J'.ofTry ok
    have sky' : Sky B (X.env :: X.outer) a (Zc cls d) X.env.locals s'.heap := by rw [← hs]; exact sky
    show wpAny (model X.prog X.w) X.A (noteFrame (.ref a) X.env) _ _ _
    refine Sky.land Zc.steady fr hf sky' fun h3 fl3 up3 => ?_
    have J3 : Inv X pins σ' H' { s' with heap := h3 } := J.landed nb fl3.1 (up.trans up3) os ag
    obtain ⟨o3, v3, he3, hz3, hd3⟩ := fl3.there
    have away : a ∉ frs (X.env :: X.outer) := fun hm => by
      obtain ⟨_, o', e', nf⟩ := fl3.2.2.1.mem hm
      rw [he3] at e'
      cases e'
      exact nf _ hd3
    have nL : a ≠ X.env.locals := fun z => away (List.mem_filterMap.mpr ⟨X.env, List.mem_cons_self, by rw [hf, z]⟩)
    have nF : a ∉ X.fs := fun hm => by
      obtain ⟨e, he, q⟩ := List.mem_filterMap.mp hm
      exact away (List.mem_filterMap.mpr ⟨e, List.mem_cons_of_mem _ he, q⟩)
    have S3 := J3.suite he3 hd3 na nL nF
    have ty : PySem.W.Looks (model X.prog X.w) h3 (typeOf (.ref a)) cls := fun A Q E s k q => wpAny_typeOf_ref (k _ _ he3) (by rw [hz3.1]; exact q)
    have go : ∀ {hs' : List ExceptHandler} {w' : Ends → WX}, Hds X nm i Wout hs' w' → w' D cls d σ' H' → wpAny (model X.prog X.w) X.A (handleBy (.ref a) X.env hs') (SP X pins D) X.xe { s' with heap := h3 } := by
      intro hs' w' hk
      induction hk with
      | nil =>
        intro wish
        refine wpAny_handleBy_nil ?_
        obtain ⟨_, _, _, oe, vs, T, oT, ts', he, hz, hd, h1, hr⟩ := id fl3
        unfold PySem.passOn
        refine wpAny_bind (wpAny_field he hd h1 ?_)
        rw [if_neg (show ¬ ((Value.ref T == Value.none) = true) from by simp)]
        have fin : wpAny (model X.prog X.w) X.A (setFlight (.ref a) X.env.frame) (fun _ s4 => wpAny (model X.prog X.w) X.A (throw (.ref a) : Sem Flow) (SP X pins D) X.xe s4) X.xe { s' with heap := h3 } := by
          rw [hf]
          exact HandSPX.setFlight_upZ fl3 fun h4 hh4 up4 => wpAny_throw (tk _ _ ⟨a, B, sI, pins, σ', H', cls, d, rfl, J, nb, (up.trans up3).trans up4, .inr (.inr (by rw [hs]; exact hh4)), na, os, ag, wish⟩)
        first
          | exact wpAny_bind (wpAny_pure (wpAny_bind fin))
          | exact wpAny_bind fin
      | @cons x c ts b np p hs2 w2 hc hsu r ih =>
        rintro ⟨bb, hb1, yes, no⟩
        refine wpAny_handleBy_cons (codeAny_handlers_test ?_) (by intro q; cases q)
        have LM := PySem.W.exm_one (M := model X.prog X.w) J3.kIn ty hb1
        have test : ∀ {Q E : Value → Shared → Prop}, Q c { s' with heap := h3 } → wpAny (model X.prog X.w) (X.A.mark (some (.ref a))) (eval (.Name x np) X.env) Q E { s' with heap := h3 } := fun {Q E} q => by
          obtain ⟨hg, hdb, hm | ⟨hm, hv, hnn⟩⟩ := hc
          · exact ld_glob (X := X.suite a ((a, o3) :: (X.pn ++ pins))) S3 hg hm q hdb
          · exact ld_blt (X := X.suite a ((a, o3) :: (X.pn ++ pins))) S3 hg hm hv q hnn hdb
        refine test (LM.here ?_)
        cases bb with
        | false => exact ih (no rfl)
        | true =>
          refine codeAny_handlers_suite_as ?_
          refine HandSPX.lands_againZ fl3 fun h4 fl4 up4 => ?_
          have J4 : Inv X pins σ' H' { s' with heap := h4 } := J.landed nb fl4.1 ((up.trans up3).trans up4) os ag
          obtain ⟨o4, v4, he4, hz4, hd4⟩ := fl4.there
          refine store_ok (X := X.suite a ((a, o4) :: (X.pn ++ pins))) (v := .ref a) (J4.suite he4 hd4 na nL nF) hN hi (.inl hln) rfl (fun s5 S5 => ?_) (.inr hln)
          refine wpAny_mono ((hsu a o4 cls d (X.pn ++ pins) hz4 ⟨_, hd4⟩).run [] s5 _ H' _ S5 (yes rfl a na)) (fun f s6 q => ?_) (fun _ _ z => False.elim z)
          have gone : ∀ {σ6 : L2.St} {H6 : Hp} {Q : Shared → Prop}, Inv (X.suite a ((a, o4) :: (X.pn ++ pins))) [] σ6 H6 s6 → (∀ s7, Inv X pins (σ6.set i none) H6 s7 → Q s7) →
              wpAny (model X.prog X.w) X.A (do bindName X.env nm .none; unbindBehindTheSuite X.env nm p) (fun _ s7 => Q s7) X.xe s6 := fun S6 hq => gone_ok (S6.unsuite ok) hN hi hln hq
          cases f with
          | next => obtain ⟨σ6, H6, S6, q6⟩ := q; exact gone S6 fun s7 J7 => ⟨_, _, J7, q6⟩
          | brk => obtain ⟨σ6, H6, S6, q6⟩ := q; exact gone S6 fun s7 J7 => ⟨_, _, J7, q6⟩
          | cont => obtain ⟨σ6, H6, S6, q6⟩ := q; exact gone S6 fun s7 J7 => ⟨_, _, J7, q6⟩
          | ret u => obtain ⟨v6, σ6, H6, S6, r6, q6⟩ := q; exact gone S6 fun s7 J7 => ⟨_, _, _, J7, r6, q6⟩
    exact go hh wish
/-- the clauses as the look finds them -/
theorem hds_ok (ft : SFit X W cref n G bs cs N sc) {i : Nat} {ks : List Str} (ht : ("!try" : Str) ∈ bs) (hk : ∀ c ∈ ks, c ∈ cs) (B0 A0 : Hp) : ∀ {hs : List (Str × Sux)} {hds : List ExceptHandler} {nm : Str}, kHs N bs cs sc i hs hds = true → N[i]? = some nm → ∃ w : Ends → WX, Hds X nm i (wx cref W) hds w ∧
    ∀ (E : Ends) (c : Str) (e : Env) (σ : L2.St) (F H : Hp), c ∈ ks → i < e.length → SRel X.K B0 A0 F H σ e → Post X.K B0 A0 W E (match hdl c hs with | some s => s.ev c (e.set i .no) | none => .exc c e) → w E (cref c) none σ H
  | [], [], nm, _, _ => ⟨_, .nil, fun E c e σ F H _ _ r p => ⟨rfl, c, rfl, p σ F H r⟩⟩
  | [], _ :: _, _, h, _ => by simp [kHs] at h
  | _ :: _, [], _, h, _ => by simp [kHs] at h
  | h :: r, hd :: hds, nm, hh, hn => by
    unfold kHs at hh
    split at hh
    case h_3 => cases hh
    all_goals (rename_i heq1 heq2; first | (cases heq1; done) | (cases heq1; cases heq2))
    rename_i cn np nm' st pos'
    simp only [Bool.and_eq_true, decide_eq_true_eq, beq_iff_eq] at hh
    obtain ⟨⟨⟨⟨⟨⟨⟨rfl, h1⟩, h2⟩, h3⟩, h4⟩, h5⟩, h6⟩, h7⟩ := hh
    rw [hn] at h4
    cases h4
    obtain ⟨w, hw, rd⟩ := hds_ok ft ht hk B0 A0 h7 hn
    obtain ⟨C0, hC0⟩ := ft.gc.exs _ h1
    refine ⟨_, .cons (c := .ref C0) (ts := fun a cls d E σ H => ∃ c, c ∈ ks ∧ cls = cref c ∧ d = none ∧ tSux X.K i a c h.2 E σ H) ⟨ft.gl h2, (nm_of h3).1, .inl hC0.mg⟩ (fun a oe cls d pn hz hf => ⟨fun pins s σ H E I q => ?_⟩) hw, fun E c e σ F H hc hi r' p => ?_⟩
    · obtain ⟨c, hc, rfl, rfl, q⟩ := q
      obtain ⟨D, hD, ec, fc⟩ := ft.gc.err ht c (hk c hc)
      rw [hD] at hz
      exact (pss_one (sSux ft ⟨ec, fc⟩ hz hf h6)).run pins s σ H E I q
    · obtain ⟨D, hD, ec, fc⟩ := ft.gc.err ht c (hk c hc)
      obtain ⟨v, _, _, v3, v4⟩ := fc _ (.inl h1)
      obtain ⟨C1, rfl, hm⟩ := v3 (v4 h1).1
      rw [hC0.mg] at hm
      cases hm
      have ea := (v4 h1).2
      rw [← hD] at ea
      refine ⟨_, ea, fun y a na => ?_, fun y => ?_⟩
      · refine ⟨c, hc, rfl, rfl, ?_⟩
        have e1 : hdl c (h :: r) = some h.2 := by
          unfold hdl
          rw [if_pos y]
        rw [e1] at p
        exact ⟨List.getElem?_set_self (by rw [← r'.rel.len]; exact hi), B0, A0, F, e.set i .no, r'.any, List.getElem?_set_self hi, p.weak (List.getElem?_set_self hi)⟩
      · have e1 : hdl c (h :: r) = hdl c r := by
          conv => lhs; unfold hdl
          rw [if_neg (by rw [y]; exact Bool.false_ne_true)]
        rw [e1] at p
        exact rd E c e σ F H hc hi r' p
theorem sTry (wn : Nat) (ft : SFit X W cref n G bs cs N sc) {i : Nat} {ks : List Str} {hs : List (Str × Sux)} {b : Sx} {x : Stmt} {hds : List ExceptHandler} {pos : Pos} (ht : ("!try" : Str) ∈ bs) (hk : ∀ c ∈ ks, c ∈ cs) (hl : 0 < hs.length) (hh : kHs N bs cs sc i hs hds = true)
    (hb : ∀ (W' : Wd) (pn : List (Addr × Obj)) (xe : Value → Shared → Prop), Takes (X.tr pn xe) (wx cref W') → PassesOwn (model X.prog X.w) X.A X.env xe → PS (X.tr pn xe) x (tS X.K W' G wn b)) : PS X (.Try [x] hds [] [] pos) (tS X.K W G wn (.tryA i ks hs b)) := by
  obtain ⟨h0, r0, rfl⟩ : ∃ a b, hs = a :: b := by
    cases hs with
    | nil => cases hl
    | cons a b => exact ⟨a, b, rfl⟩
  match hds, hh with
  | [], hh => simp [kHs] at hh
  | hd :: hds, hh =>
    have hh0 := hh
    unfold kHs at hh
    split at hh
    case h_3 => cases hh
    all_goals (rename_i heq1 heq2; first | (cases heq1; done) | (cases heq1; cases heq2))
    rename_i cn np nm st pos'
    simp only [Bool.and_eq_true, decide_eq_true_eq, beq_iff_eq] at hh
    obtain ⟨⟨⟨⟨⟨⟨⟨rfl, h1⟩, h2⟩, h3⟩, h4⟩, h5⟩, h6⟩, h7⟩ := hh
    have hN : X.N.Nodup := by rw [ft.hN]; exact ft.nd
    have hn : X.N[i]? = some nm := by rw [ft.hN]; exact h4
    have hlo : X.env.kindOf nm = some .local := by
      show X.env.scope.names.lookup nm = _
      rw [ft.hsc]
      exact h5
    refine ⟨fun pins s σ H E I q => ?_⟩
    obtain ⟨B0, A0, F, env, r, p⟩ := q
    obtain ⟨w, hw, rd⟩ := hds_ok ft ht hk B0 A0 hh0 h4
    refine (ps_hds (tb := fun W' => tSs X.K (fun c σ H => W' (cref c) none σ H) G wn [b]) ft.stk ft.frm hN hn hlo ft.tk ?_ hw).run pins s σ H E I ?_
    · intro W' pn xe tk po
      refine pss_imp (pss_one (hb (fun c σ H => W' (cref c) none σ H) pn xe (tk.imp fun c d σ H q => ?_) po)) fun E σ H q => ?_
      · obtain ⟨rfl, c', rfl, q⟩ := q
        exact q
      · obtain ⟨B0, A0, F, env, r, p⟩ := q
        refine ⟨B0, A0, F, env, r, ?_⟩
        unfold evSs at p
        cases ho : evS G wn b env with
        | nx e =>
          rw [ho] at p
          have p : Post X.K B0 A0 (fun c σ H => W' (cref c) none σ H) E (evSs G wn [] e) := p
          unfold evSs at p
          exact p
        | _ => rw [ho] at p; exact p
    · refine ⟨B0, A0, F, env, r, ?_⟩
      have p : Post X.K B0 A0 W E ((evS G wn b env).caught i ks (h0 :: r0)) := p
      unfold evSs
      cases ho : evS G wn b env with
      | exc c e =>
        rw [ho] at p
        have p : Post X.K B0 A0 W E (if c ∈ ks ∧ i < e.length then (match hdl c (h0 :: r0) with | some s => s.ev c (e.set i .no) | none => .exc c e) else .stuck) := p
        by_cases hc : c ∈ ks ∧ i < e.length
        case neg =>
          rw [if_neg hc] at p
          exact p.elim
        rw [if_pos hc] at p
        exact fun σ' F' H' r' => rd E c e σ' F' H' hc.1 hc.2 r' p
      | nx e =>
        rw [ho] at p
        show Post X.K B0 A0 _ E (evSs G wn [] e)
        unfold evSs
        exact p
      | _ => rw [ho] at p; exact p
theorem sTryK (wn : Nat) (ft : SFit X W cref n G bs cs N sc) {ks : List Str} {v : Bool} {b : Sx} {x : Stmt} {y : Str} {j : Nat} {np p1 p2 p3 pos : Pos} (ht : ("!try" : Str) ∈ bs) (hk : ∀ c ∈ ks, c ∈ cs) (h1 : y ∈ cs) (h2 : glB sc y = true) (h3 : nmB y = true)
    (hb : ∀ (W' : Wd) (pn : List (Addr × Obj)) (xe : Value → Shared → Prop), Takes (X.tr pn xe) (wx cref W') → PassesOwn (model X.prog X.w) X.A X.env xe → PS (X.tr pn xe) x (tS X.K W' G wn b)) : PS X (.Try [x] [.ExceptHandler (some (.Name y np)) none [.Return (some (.Constant (.bool v) j p1)) p2] p3] [] [] pos) (tS X.K W G wn (.tryK y ks v b)) := by
  refine ⟨fun pins s σ H E I q => ?_⟩
  obtain ⟨B0, A0, F, env, r, p⟩ := q
  obtain ⟨C0, hC0⟩ := ft.gc.exs _ h1
  refine (ps_try_only (c := .ref C0) (ts := fun a cls d => tSeq (tRet (tC (.bl v))) tNext) (tb := fun W' => tSs X.K (fun c σ H => W' (cref c) none σ H) G wn [b]) ft.stk ft.frm ⟨ft.gl h2, (nm_of h3).1, .inl hC0.mg⟩ ft.tk ?_ fun a oe cls d pn hz hf => pss_cons (ps_ret pe_bl) pss_nil).run pins s σ H E I ?_
  · intro W' pn xe tk po
    refine pss_imp (pss_one (hb (fun c σ H => W' (cref c) none σ H) pn xe (tk.imp fun c d σ H q => ?_) po)) fun E σ H q => ?_
    · obtain ⟨rfl, c', rfl, q⟩ := q
      exact q
    · obtain ⟨B0, A0, F, env, r, p⟩ := q
      refine ⟨B0, A0, F, env, r, ?_⟩
      unfold evSs at p
      cases ho : evS G wn b env with
      | nx e =>
        rw [ho] at p
        have p : Post X.K B0 A0 (fun c σ H => W' (cref c) none σ H) E (evSs G wn [] e) := p
        unfold evSs at p
        exact p
      | _ => rw [ho] at p; exact p
  · refine ⟨B0, A0, F, env, r, ?_⟩
    have p : Post X.K B0 A0 W E ((evS G wn b env).caughtK y ks v) := p
    unfold evSs
    cases ho : evS G wn b env with
    | exc c e =>
      rw [ho] at p
      have p : Post X.K B0 A0 W E (if c ∈ ks then (if subE c y = true then .ret .sh (.bool v) else .exc c e) else .stuck) := p
      by_cases hc : c ∈ ks
      case neg =>
        rw [if_neg hc] at p
        exact p.elim
      rw [if_pos hc] at p
      obtain ⟨D, hD, ec, fc⟩ := ft.gc.err ht c (hk c hc)
      obtain ⟨w, _, _, v3, v4⟩ := fc _ (.inl h1)
      obtain ⟨C1, rfl, hm⟩ := v3 (v4 h1).1
      rw [hC0.mg] at hm
      cases hm
      have ea := (v4 h1).2
      rw [← hD] at ea
      intro σ' F' H' r'
      refine ⟨_, ea, fun z a na => ?_, fun z => ?_⟩
      · rw [if_pos z] at p
        exact p (.bl v) F' H' r'.ext (show Is X.K F' (.bool v) (.bl v) by simp only [Is])
      · rw [if_neg (by rw [z]; exact Bool.false_ne_true)] at p
        exact ⟨rfl, c, rfl, p σ' F' H' r'⟩
    | nx e =>
      rw [ho] at p
      show Post X.K B0 A0 _ E (evSs G wn [] e)
      unfold evSs
      exact p
    | _ => rw [ho] at p; exact p
end
end PV

/-! PvTree2: more statements about owned trees: dicts of lists, a list moved into a tree, rows raised and moved. -/
namespace PV
open PySem PySem.Spec PyProof.Rows L2
section
variable {K : PySem.W.Frag} {A A' F H F' H' : Hp} {σ : L2.St} {env : Env} {B0 A0 : Hp} {W : Wd} {E : Ends} {G : Gam}
theorem RelA.weak (hA : ∀ a, A a = none → A' a = none) (r : RelA K A F H σ env) : RelA K A' F H σ env := by
  obtain ⟨fps, h1, h2, h3⟩ := r.slot
  exact ⟨r.sub, r.len, fps, h1, h2, fun i hi a ha => hA a (h3 i hi a ha)⟩
/-- A and places that float free -/
def float (A : Hp) (l : List Addr) : Hp := fun a => if a ∈ l then some (.lst []) else A a
theorem float_no {l : List Addr} {a : Addr} (h : float A l a = none) : a ∉ l ∧ A a = none := by
  unfold float at h
  by_cases c : a ∈ l
  · rw [if_pos c] at h; cases h
  · rw [if_neg c] at h; exact ⟨c, h⟩
theorem float_of {l : List Addr} {a : Addr} (n : a ∉ l) (h : A a = none) : float A l a = none := by
  unfold float
  rw [if_neg n]
  exact h
theorem RelA.float (r : RelA K A F H σ env) (e : Ext F H F' H') {l : List Addr} (n : ∀ a ∈ l, H a = none) : RelA K (PV.float A l) F' H' σ env := by
  obtain ⟨fps, h1, h2, h3⟩ := r.slot
  refine ⟨e.s, r.len, fps, fun i s h => (h1 i s h).keep e.f fun a ha => ?_, h2, fun i hi a ha => float_of (fun z => ?_) (h3 i hi a ha)⟩
  · have q := (h1 i s h).at a ha
    exact ⟨e.gone q.1 q.2, e.stay q.2⟩
  · exact ((h1 i _ (List.getElem?_eq_getElem hi)).at a ha).2 (n a z)
theorem RelA.drop (r : RelA K A F H σ env) (i : Nat) : RelA K A F H σ (env.set i .no) := by
  by_cases hi : i < σ.length
  · have := r.any (i := i) (v := σ[i])
    rwa [set_get_same (List.getElem?_eq_getElem hi)] at this
  · rw [List.set_eq_of_length_le (by rw [r.len]; omega)]
    exact r
theorem bump_ok {x c : Int} {d d2 : D} (h : bump x c d = .ok d2) : ∃ ws m z, d = .list ws ∧ ws.all scal = true ∧ placed ws x = .ok (m, .int z) ∧ d2 = .list (ws.set m (.int (z + c))) := by
  unfold bump at h
  obtain ⟨ws, h1, h⟩ := bind_ok2 h
  have h1 := asL_ok h1
  unfold allS at h
  by_cases z : ws.all scal = true
  · rw [if_pos z] at h
    obtain ⟨ws', h2, h⟩ := bind_ok2 h
    cases h2
    obtain ⟨⟨m, y⟩, h3, h⟩ := bind_ok2 h
    obtain ⟨r, h4, h⟩ := bind_ok2 h
    cases h
    obtain ⟨i, j, e1, e2, _⟩ := augB_ok h4
    have e1 : y = .int i := e1
    subst e1
    cases e2
    cases h4
    exact ⟨ws, m, i, h1, z, h3, rfl⟩
  · rw [if_neg z] at h
    cases h
theorem keyD_inj {a b : Key} (h : keyD a = keyD b) : a = b := by
  have := congrArg dkey h
  rw [dkey_of, dkey_of] at this
  exact Option.some.inj this
theorem dKey_eq (k : Key) : dKey k = keyD k := by cases k <;> rfl
theorem ownK_keys : ∀ {kvs : List (D × D)} {es : List (Key × V)} {fp : List Addr}, OwnK K F H kvs es fp → ∀ q ∈ kvs, ∃ kk, q.1 = keyD kk
  | [], _, _, _, q, hq => by cases hq
  | (k, x) :: r, _, _, h, q, hq => by
    simp only [OwnK] at h
    obtain ⟨kk, v, w, f, g, rfl, hk, rfl, h0, h1, h2⟩ := h
    rcases List.mem_cons.mp hq with rfl | hq
    · exact ⟨kk, hk.1⟩
    · exact ownK_keys h2 q hq
theorem ownK_len : ∀ {kvs : List (D × D)} {es : List (Key × V)} {fp : List Addr}, OwnK K F H kvs es fp → es.length = kvs.length
  | [], _, _, h => by
    simp only [OwnK] at h
    rw [h.1]
    rfl
  | (k, x) :: r, _, _, h => by
    simp only [OwnK] at h
    obtain ⟨kk, v, w, f, g, rfl, hk, rfl, h0, h1, h2⟩ := h
    rw [List.length_cons, List.length_cons, ownK_len h2]
/-- the value at a key, and the dict with that value anew -/
theorem OwnK.sub : ∀ {kvs : List (D × D)} {es : List (Key × V)} {fp : List Addr} {k : Key} {v : V}, OwnK K F H kvs es fp → valV es k = some v → ∃ d f g1 g2, dGetK kvs k = some d ∧ (kvs.any fun kv => decide (dkey kv.1 = some k)) = true ∧ fp = g1 ++ f ++ g2 ∧ (∀ a ∈ f, a ∉ g1 ∧ a ∉ g2) ∧ Own K F H d v f ∧
    ∀ (H' : Hp) (d' : D), Own K F H' d' v f → (∀ a, a ∈ g1 ∨ a ∈ g2 → H' a = H a) → OwnK K F H' (kvs.map fun kv => if dkey kv.1 = some k then (kv.1, d') else kv) es fp
  | [], _, _, k, v, h, e => by
    simp only [OwnK] at h
    rw [h.1] at e
    cases e
  | (y, x) :: r, _, _, k, v, h, e => by
    simp only [OwnK] at h
    obtain ⟨kk, v0, w, f, g, rfl, ⟨rfl, hk⟩, rfl, h0, h1, h2⟩ := h
    by_cases c : kk = k
    · subst c
      rw [valV_pos rfl] at e
      cases e
      refine ⟨x, f, [], g, by simp [dGetK, dkey_of], by simp [dkey_of], rfl, fun a ha => ⟨(fun z => by cases z), h0 a ha⟩, h1, fun H' d' o kp => ?_⟩
      have er : (r.map fun kv => if dkey kv.1 = some kk then (kv.1, d') else kv) = r := by
        conv => rhs; rw [← List.map_id r]
        refine List.map_congr_left fun q hq => ?_
        obtain ⟨k2, e2⟩ := ownK_keys h2 q hq
        rw [if_neg (fun z => hk q hq (by rw [e2] at z ⊢; rw [dkey_of] at z; rw [Option.some.inj z]))]
        rfl
      rw [List.map_cons, er, if_pos (dkey_of kk)]
      simp only [OwnK]
      exact ⟨kk, v0, w, f, g, rfl, ⟨rfl, hk⟩, rfl, h0, o, h2.keep fun a ha => ⟨(h2.at a ha).1, kp a (.inr ha)⟩⟩
    · rw [valV_neg c] at e
      obtain ⟨d, f2, g1, g2, e1, e2, rfl, e3, e4, e5⟩ := OwnK.sub h2 e
      have nk : ¬ dkey (keyD kk) = some k := fun z => c (by rw [dkey_of] at z; exact Option.some.inj z)
      refine ⟨d, f2, f ++ g1, g2, ?_, by rw [List.any_cons, e2, Bool.or_true], by simp, fun a ha => ⟨fun z => ?_, (e3 a ha).2⟩, e4, fun H' d' o kp => ?_⟩
      · unfold dGetK at e1 ⊢
        rw [List.find?_cons, decide_eq_false nk]
        exact e1
      · rcases List.mem_append.mp z with z | z
        · exact h0 a z (List.mem_append_left _ (List.mem_append_right _ ha))
        · exact (e3 a ha).1 z
      · have t := e5 H' d' o fun a ha => kp a (ha.imp (List.mem_append_right _) id)
        rw [List.map_cons, if_neg nk]
        simp only [OwnK]
        refine ⟨kk, v0, w, f, g1 ++ f2 ++ g2, rfl, ⟨rfl, fun q hq => ?_⟩, rfl, h0, h1.keep fun a ha => ⟨(h1.at a ha).1, kp a (.inl (List.mem_append_left _ ha))⟩, t⟩
        obtain ⟨q0, hq0, rfl⟩ := List.mem_map.mp hq
        split <;> exact hk q0 hq0
/-- a key more -/
theorem OwnK.new {k : Key} : ∀ {kvs : List (D × D)} {es : List (Key × V)} {fp : List Addr}, OwnK K F H kvs es fp → valV es k = none → dGetK kvs k = none ∧ (kvs.any fun kv => decide (dkey kv.1 = some k)) = false ∧
    ∀ (d : D) (v : V) (f : List Addr), Own K F H d v f → (∀ a ∈ fp, a ∉ f) → OwnK K F H (kvs ++ [(keyD k, d)]) (es ++ [(k, v)]) (fp ++ f)
  | [], _, _, h, e => by
    simp only [OwnK] at h
    obtain ⟨rfl, rfl⟩ := h
    refine ⟨rfl, rfl, fun d v f o n => ?_⟩
    show OwnK K F H [(keyD k, d)] [(k, v)] ([] ++ f)
    simp only [OwnK]
    exact ⟨k, v, [], f, [], rfl, ⟨rfl, fun q hq => by cases hq⟩, by simp, (fun a _ z => by cases z), o, rfl, rfl⟩
  | (y, x) :: r, _, _, h, e => by
    simp only [OwnK] at h
    obtain ⟨kk, v0, w, f, g, rfl, ⟨rfl, hk⟩, rfl, h0, h1, h2⟩ := h
    by_cases c : kk = k
    · subst c
      rw [valV_pos rfl] at e
      cases e
    · rw [valV_neg c] at e
      obtain ⟨e1, e2, e3⟩ := OwnK.new h2 e
      have nk : ¬ dkey (keyD kk) = some k := fun z => c (by rw [dkey_of] at z; exact Option.some.inj z)
      refine ⟨?_, by rw [List.any_cons, e2, decide_eq_false nk]; rfl, fun d v f2 o n => ?_⟩
      · unfold dGetK at e1 ⊢
        rw [List.find?_cons, decide_eq_false nk]
        exact e1
      · have t := e3 d v f2 o fun a ha => n a (List.mem_append_right _ ha)
        show OwnK K F H ((keyD kk, x) :: (r ++ [(keyD k, d)])) ((kk, v0) :: (w ++ [(k, v)])) _
        simp only [OwnK]
        refine ⟨kk, v0, w ++ [(k, v)], f, g ++ f2, rfl, ⟨rfl, fun q hq => ?_⟩, List.append_assoc _ _ _, fun a ha z => ?_, h1, t⟩
        · rcases List.mem_append.mp hq with hq | hq
          · exact hk q hq
          · rw [List.mem_singleton.mp hq]
            exact fun z => c (keyD_inj z).symm
        · rcases List.mem_append.mp z with z | z
          · exact h0 a ha z
          · exact n a (List.mem_append_left _ ha) z
theorem asD_ok {d : D} {kvs : List (D × D)} (h : asD d = .ok kvs) : d = .dict kvs := by
  cases d <;> cases h
  rfl
theorem asD_exc {d : D} : ∀ c, asD d ≠ .exc c := fun c h => by cases d <;> cases h
theorem sdRow_exc {kvs : List (D × D)} {k : Key} : ∀ c, sdRow kvs k ≠ .exc c := fun c h => by
  unfold sdRow at h
  split at h
  · cases h
  · exact asL_exc c h
end
section
variable {cref : Str → Value} {n : Nat} {G : Gam} {bs cs N : List Str} {X : Cx} {W : Wd} {sc : Scope}
theorem sAppT (wn : Nat) {i j : Nat} {st : Stmt} (ft : SFit X W cref n G bs cs N sc) (h : kAppT N bs sc i j st = true) : PS X st (tS X.K W G wn (.appT i j)) := by
  unfold kAppT at h
  split at h
  case h_2 => cases h
  simp only [Bool.and_eq_true, decide_eq_true_eq] at h
  obtain ⟨⟨⟨rfl, h1⟩, h2⟩, h3⟩ := h
  refine ps_imp (ps_expr (pe_bm PySem.F.plainAttrs_list PySem.F.slot_list_append PySem.F.type_list_append mt_append (vr_ok ft h2)
    (pa_cons (vr_ok ft h3) pa_nil (star_cons rfl)) rfl (by rw [star_cons rfl]; rfl) (beq_iff_eq.mpr h1) (star_cons rfl) rfl) rfl) fun E σ H q => ?_
  obtain ⟨B0, A0, F, env, r0, p⟩ := q
  unfold evS at p
  obtain ⟨t, ht, p⟩ := p.ok odD_exc
  have ht := odD_ok ht
  obtain ⟨ds, hds, p2⟩ := p.ok asL_exc
  clear p
  have hds := asL_ok hds
  subst hds
  obtain ⟨v, fp, hv, o, na⟩ := r0.ra.ods ht
  have o' := o
  simp only [Own] at o
  obtain ⟨b, vs, fq, rfl, rfl, g1, g2, g3, g4⟩ := o
  obtain ⟨d, hd, p⟩ := p2.ok ownT_exc
  obtain ⟨w, fw, hw, ow, _⟩ := ownT_ok r0 hd
  by_cases hl : i ≠ j ∧ ds.length < lim
  case neg =>
    rw [if_neg hl] at p
    exact p.elim
  rw [if_pos hl] at p
  obtain ⟨nij, hl⟩ := hl
  refine ⟨_, hv, .inl ⟨rfl, vs, (LL.of (K := X.K) g3).seq⟩, w, hw, ⟨b, vs, w, rfl, rfl, g3, by rw [g4.len]; exact Nat.lt_trans hl lim_lt, ?_⟩⟩
  have ex := r0.ext.mut (o := .lst (vs ++ [w])) (na b List.mem_cons_self) g2
  refine p _ _ _ ⟨?_, ex⟩
  refine r0.ra.treeJ (Ext.refl r0.ra.sub) ht hv ex.s fun fi fj oi bj dj => ?_
  have ei := own_fp oi o'
  subst ei
  have ej : fj = fw := ownT_fp hd bj hw ow
  subst ej
  have dj := dj nij
  have bw : b ∉ fj := dj b List.mem_cons_self
  refine ⟨b :: (fq ++ fj), ?_, fun a ha => ?_, fun a ha hj hn => ?_⟩
  · simp only [Own]
    refine ⟨b, _, fq ++ fj, rfl, rfl, fun z => ?_, g2, upd_same, ?_⟩
    · rcases List.mem_append.mp z with z | z
      · exact g1 z
      · exact bw z
    · exact OwnL.app (.one (ow.keep fun a ha => ⟨(ow.at a ha).1, upd_ne fun z => bw (by rw [← z]; exact ha)⟩)) (g4.keep fun a ha => ⟨(g4.at a ha).1, upd_ne fun z => g1 (by rw [← z]; exact ha)⟩) fun a ha => dj a (List.mem_cons_of_mem _ ha)
  · rcases List.mem_cons.mp ha with rfl | ha
    · exact .inl (.inl List.mem_cons_self)
    · rcases List.mem_append.mp ha with ha | ha
      · exact .inl (.inl (List.mem_cons_of_mem _ ha))
      · exact .inl (.inr ha)
  · rw [upd_ne fun z => ha (by rw [z]; exact List.mem_cons_self)]
theorem sLopP (wn : Nat) {fz : List Nat} {i j : Nat} {e x : Ex} {c : Int} {st : Stmt} (ft : SFit X W cref n G bs cs N sc) (h : kLopP N bs sc i j e x c st = true) : PS X st (tS X.K W G wn (.lopP fz i j e x c)) := by
  unfold kLopP at h
  split at h
  case h_2 => cases h
  rename_i rr pr it r2 pr2 s ps op v pv f pf m ap r3 pr3 p pe pos
  simp only [Bool.and_eq_true, decide_eq_true_eq] at h
  obtain ⟨⟨⟨⟨⟨⟨⟨⟨⟨⟨⟨⟨hr, rfl⟩, rfl⟩, h1⟩, h2⟩, h3⟩, h4⟩, h5⟩, h6⟩, h7⟩, h8⟩, h9⟩, h10⟩ := h
  obtain ⟨na, nb, nc⟩ := st_of ft.hN ft.hsc (fun x _ => ft.fn x) h4
  have hN : X.N.Nodup := by rw [ft.hN]; exact ft.nd
  have ha : ∀ ov iv new, augStore s ov iv new = (do holding [new, ov, iv] (setItem ov iv new); release [new, ov, iv] []; pure .next) := by
    cases s <;> first | (intros; rfl) | cases h8
  refine ps_imp (ps_for ft.pass (ft.calm hr) (pi_list (sE e ft.toFit h3)) (pg_name hN na nb nc) (pss_cons (ps_augS (vr_ok ft h5) (sE x ft.toFit h9) get_listO (sE (.cst (.int c)) ft.toFit h10) ip_add set_list ha)
    (pss_one (ps_expr (pe_bm PySem.F.plainAttrs_list PySem.F.slot_list_append PySem.F.type_list_append mt_append (vr_ok ft h7) (pa_cons (vr_ok ft h6) pa_nil (star_cons rfl)) rfl (by rw [star_cons rfl]; rfl) (beq_iff_eq.mpr h1) (star_cons rfl) rfl) rfl))) (nofold h2)) fun E σ H q => ?_
  obtain ⟨B0, A0, F, env, r, p⟩ := q
  unfold evS at p
  obtain ⟨Fz, rz⟩ := r.frz (fz := fz)
  clear r
  have r := rz
  clear rz
  generalize frz fz env = env at p r
  refine r.aftE p fun y F1 H1 v1 e1 rv s1 p => ?_
  obtain ⟨t, ht, p⟩ := p.ok treeOf_exc
  obtain ⟨fp, nn, o⟩ := treeOf_own rv e1.s ht
  obtain ⟨ds, hds, p2⟩ := p.ok asL_exc
  clear p
  have hds := asL_ok hds
  subst hds
  obtain ⟨u, hu, p⟩ := p2.ok odD_exc
  clear p2
  have hu := odD_ok hu
  obtain ⟨fs, hfs, p2⟩ := p.ok asL_exc
  have hfs := asL_ok hfs
  subst hfs
  clear p
  generalize hf : (fun d => (ev G x ((env.set i .no).set j .no)).bind fun b => (isInt b.2).bind fun b => bump b c d) = f at p2
  have p : Post X.K B0 A0 W E (if i ≠ j ∧ j < env.length ∧ fs.length + ds.length < lim then Out.of env (nox (eachR f ds)) fun es => .nx ((env.set j .no).set i (.od (.list (fs ++ es)))) else .stuck) := p2
  clear p2
  by_cases hij : i ≠ j ∧ j < env.length ∧ fs.length + ds.length < lim
  case neg =>
    rw [if_neg hij] at p
    exact p.elim
  rw [if_pos hij] at p
  obtain ⟨nij, jl, ll⟩ := hij
  obtain ⟨fin, hfin, p⟩ := p.ok nox_exc
  have hfin := nox_eq hfin
  have il := lt_of_get hu
  simp only [Own] at o
  obtain ⟨a, xs, fq, rfl, rfl, g1, g2, g3, g4⟩ := o
  obtain ⟨v0, f0, hv, o0, _⟩ := s1.ra.ods hu
  simp only [Own] at o0
  obtain ⟨b, vs0, fq0, rfl, rfl, k1, k2, k3, k4⟩ := o0
  refine ⟨a, rfl, ⟨xs, (LL.of g3).seq⟩, ?_⟩
  have n0 : ∀ z ∈ a :: fq, A0 z = none := fun z hz => r.ext.h.free (nn z hz)
  have r1 : RelA X.K (float A0 (a :: fq)) F1 H1 σ (env.set j .no) := (r.ra.float e1 nn).drop j
  have e0 : (env.set j .no).set i (.od (.list fs)) = env.set j .no := set_eq_self (by rw [List.getElem?_set_ne (Ne.symm nij)]; exact hu)
  have lE : ∀ z : D, ((env.set j .no).set i (.od z)).length = env.length := fun z => by rw [List.length_set, List.length_set]
  refine for_list (fun n σ' H' => ∃ F' es rest vs' gq, n ≤ ds.length ∧ es.length = n ∧ eachR f (ds.drop n) = .ok rest ∧ es ++ rest = fin ∧ σ'[i]? = some (some (.ref b)) ∧ H' b = some (.lst vs') ∧ H' a = some (.lst xs) ∧ a ∉ gq ∧ (∀ z ∈ gq, A0 z = none) ∧
      OwnL X.K F' H' (ds.drop n) (xs.drop n) gq ∧ RelA X.K (float A0 (a :: gq)) F' H' σ' ((env.set j .no).set i (.od (.list (fs ++ es)))) ∧ Ext B0 A0 F' H')
    ⟨F1, [], fin, vs0, fq, Nat.zero_le _, rfl, hfin, rfl, hv, k3, g3, g1, fun z hz => n0 z (List.mem_cons_of_mem _ hz), g4, by rw [List.append_nil, e0]; exact r1, s1.ext⟩ (fun n σ' H' _ ⟨F', es, rest, vs', gq, _, _, _, _, _, _, z, _⟩ => (LL.of z).seq)
    (fun m x1 σ1 H2 hx ⟨F2, es, rest, vs', gq, hm, hes, hre, hfi, hv1, hb1, ha1, nag, ngq, og, ra, ex⟩ => ?_) (fun σ1 H2 ⟨F2, es, rest, vs', gq, hm, hes, hre, hfi, hv1, hb1, ha1, nag, ngq, og, ra, ex⟩ => ?_)
  · have hm2 : m < ds.length := by rw [← g4.len]; exact (List.getElem?_eq_some_iff.mp hx).1
    have hm3 : m < xs.length := (List.getElem?_eq_some_iff.mp hx).1
    have hx1 : xs[m] = x1 := (List.getElem?_eq_some_iff.mp hx).2
    rw [List.drop_eq_getElem_cons hm2] at hre og
    rw [List.drop_eq_getElem_cons hm3, hx1] at og
    obtain ⟨d1, re2, hd1, hre2, rfl⟩ := eachR_cons hre
    rw [← hf] at hd1
    obtain ⟨y2, hy, hd1⟩ := bind_ok2 hd1
    obtain ⟨bi, hbi, hd1⟩ := bind_ok2 hd1
    obtain ⟨ws, mm, z0, hw0, hs, hp, rfl⟩ := bump_ok hd1
    rw [hw0] at og
    simp only [OwnL] at og
    obtain ⟨_, _, fr, g, q1, rfl, dj, orow, orest⟩ := og
    cases q1
    simp only [Own] at orow
    obtain ⟨q, us, fr2, rfl, rfl, c1, c2, c3, c4⟩ := orow
    have efr := c4.scal hs
    subst efr
    have hvi : (σ1.set j (some (.ref q)))[i]? = some (some (.ref b)) := by rw [List.getElem?_set_ne (Ne.symm nij)]; exact hv1
    have hvj : (σ1.set j (some (.ref q)))[j]? = some (some (.ref q)) := List.getElem?_set_self (by rw [← ra.len, lE]; exact jl)
    have ra2 : RelA X.K (float A0 (a :: ([q] ++ g))) F2 H2 (σ1.set j (some (.ref q))) ((env.set j .no).set i (.od (.list (fs ++ es)))) := by
      have := ra.any (i := j) (v := some (.ref q))
      rwa [set_eq_self (x := Slot.no) (by rw [List.getElem?_set_ne nij, List.getElem?_set_self jl])] at this
    have rx : Rel X.K F2 H2 (σ1.set j (some (.ref q))) ((env.set i .no).set j .no) := by
      have := (ra2.drop i).rel
      rw [List.set_set, List.set_comm _ _ (Ne.symm nij)] at this
      exact this
    refine ⟨_, hvj, F2, _, rx, ?_⟩
    rw [hy]
    intro F3 H3 e3 v3 rv3
    have iv3 := rv3.is e3.s
    rw [isInt_ok2 hbi] at iv3
    cases is_int iv3
    obtain ⟨hp1, hp2⟩ := placed_ok hp
    have hl : us.length = ws.length := c4.len
    obtain ⟨w, hw, iw⟩ := (c4.is (P := H2) fun _ _ => rfl).get hp2
    cases is_int iw
    refine ⟨q, us, bi, mm, _, rfl, rfl, e3.h _ _ c3, by rw [hl]; exact hp1, hw, F3, _, rx.ext e3, ?_⟩
    rw [show ∀ e : Env, ev G (.cst (.int c)) e = .ok (.sh, .int c) from fun e => rfl]
    intro F4 H4 e4 v4 rv4
    cases is_int (K := X.K) (H := F4) rv4
    have e34 := e3.trans e4
    have c3' := e34.h _ _ c3
    have ha4 := e34.h _ _ ha1
    have hb4 := e34.h _ _ hb1
    refine ⟨z0, c, rfl, rfl, q, us, bi, mm, rfl, rfl, c3', by rw [hl]; exact hp1, ?_⟩
    have ra4 := ra2.ext e34
    obtain ⟨vi, fi, hvi2, oi, nfi⟩ := ra4.ods (i := i) (d := .list (fs ++ es)) (by rw [List.getElem?_set_self (by rw [List.length_set]; exact il)])
    rw [hvi] at hvi2
    cases hvi2
    have oi' := oi
    simp only [Own] at oi
    obtain ⟨_, vs2, fi2, z1, rfl, t1, t2, t3, t4⟩ := oi
    cases z1
    rw [hb4] at t3
    cases t3
    have nq : ∀ z ∈ b :: fi2, z ≠ q := fun z hz zq => (float_no (nfi z hz)).1 (by rw [zq]; simp)
    have nqa : a ≠ q := fun z => nag (by rw [z]; simp)
    have nba : b ≠ a := fun z => (float_no (nfi b List.mem_cons_self)).1 (by rw [z]; simp)
    have nbq : b ≠ q := nq b List.mem_cons_self
    have nqg : q ∉ g := dj q List.mem_cons_self
    have hb5 : (upd H4 q (.lst (us.set mm (.int (z0 + c))))) b = some (.lst vs') := by rw [upd_ne nbq]; exact hb4
    have c2' : F4 q = none := e34.gone c2 (by rw [c3]; intro z; cases z)
    have x1 := (ex.trans e34).mut (o := .lst (us.set mm (.int (z0 + c)))) (ngq q (by simp)) c2'
    have x2 := x1.mut (o := .lst (vs' ++ [.ref q])) (float_no (nfi b List.mem_cons_self)).2 t2
    have hlen : vs'.length < sizeLine := by
      have := t4.len
      rw [this, List.length_append, hes]
      have := lim_lt
      omega
    refine ⟨_, hvi, .inl ⟨rfl, vs', (LL.of (K := X.K) hb5).seq⟩, _, hvj, ⟨b, vs', .ref q, rfl, rfl, hb5, hlen, ?_⟩⟩
    have orow5 : Own X.K F4 (upd (upd H4 q (.lst (us.set mm (.int (z0 + c))))) b (.lst (vs' ++ [.ref q]))) (.list (ws.set mm (.int (z0 + c)))) (.ref q) [q] := by
      simp only [Own]
      refine ⟨q, _, [], rfl, rfl, (fun z => by cases z), c2', by rw [upd_ne nbq.symm, upd_same], ?_⟩
      exact ownL_scal (G := H2) (IsL.set mm (c4.is fun _ _ => rfl) (int_is (K := X.K) (H := H2))) (all_set hs rfl)
    refine ⟨F4, es ++ [.list (ws.set mm (.int (z0 + c)))], re2, vs' ++ [.ref q], g, hm2, by rw [List.length_append, hes]; rfl, hre2, by rw [List.append_assoc]; exact hfi, hvi, upd_same, ?_, fun z => nag (by simp [z]), fun z hz => ngq z (by simp [hz]), ?_, ?_, x2⟩
    · rw [upd_ne nba.symm, upd_ne nqa]
      exact ha4
    · refine (own_ext_L orest e34).keep fun z hz => ⟨e34.gone (orest.at z hz).1 (orest.at z hz).2, ?_⟩
      rw [upd_ne fun zb => (float_no (nfi b List.mem_cons_self)).1 (by rw [← zb]; simp [hz]), upd_ne fun zq => nqg (by rw [← zq]; exact hz)]
    · have := ra4.changeA (A' := float A0 (a :: g)) (fun z hz => by
          obtain ⟨y1, y2⟩ := float_no hz
          exact float_of (fun y => y1 (by
            rcases List.mem_cons.mp y with y | y
            · rw [y]; simp
            · simp [y])) y2) (i := i) (by rw [lE]; exact il) j (x := some (.ref b)) (t := .od (.list (fs ++ (es ++ [.list (ws.set mm (.int (z0 + c)))])))) (F' := F4) (H' := upd (upd H4 q (.lst (us.set mm (.int (z0 + c))))) b (.lst (vs' ++ [.ref q]))) x2.s (Same.refl _) fun fps b1 b2 b3 => by
        obtain ⟨w2, y1, y2⟩ := b1 i _ (by rw [List.getElem?_set_self (by rw [List.length_set]; exact il)])
        rw [hvi] at y1
        cases y1
        have ei := own_fp y2 oi'
        refine ⟨b :: (fi2 ++ [q]), ⟨_, rfl, ?_⟩, fun z hz => ?_, fun k k1 k2 k3 z hz => ?_⟩
        · simp only [Own]
          refine ⟨b, _, fi2 ++ [q], rfl, rfl, fun z => ?_, t2, upd_same, ?_⟩
          · rcases List.mem_append.mp z with z | z
            · exact t1 z
            · exact nbq (List.mem_singleton.mp z)
          · rw [← List.append_assoc]
            refine OwnL.app (.one orow5) (t4.keep fun z hz => ⟨(t4.at z hz).1, ?_⟩) fun z hz y => nq z (List.mem_cons_of_mem _ hz) (List.mem_singleton.mp y)
            rw [upd_ne fun zb => t1 (by rw [← zb]; exact hz), upd_ne (nq z (List.mem_cons_of_mem _ hz))]
        · have nm : z ∈ b :: fi2 ∨ z = q := by
            rcases List.mem_cons.mp hz with y | y
            · exact .inl (by rw [y]; exact List.mem_cons_self)
            · rcases List.mem_append.mp y with y | y
              · exact .inl (List.mem_cons_of_mem _ y)
              · exact .inr (List.mem_singleton.mp y)
          rcases nm with y | y
          · obtain ⟨y1, y2⟩ := float_no (nfi z y)
            exact float_of (fun y => y1 (by
              rcases List.mem_cons.mp y with y | y
              · rw [y]; simp
              · simp [y])) y2
          · rw [y]
            refine float_of (fun y => ?_) (ngq q (by simp))
            rcases List.mem_cons.mp y with y | y
            · exact nqa y.symm
            · exact nqg y
        · have d1 := b2 k i k1 k3 (by rw [lE]; exact il) z hz
          rw [ei] at d1
          have d2 : z ≠ q := fun y => (float_no (b3 k k3 z hz).1).1 (by rw [y]; simp)
          refine ⟨fun y => ?_, (b3 k k3 z hz).2.1, ?_⟩
          · rcases List.mem_cons.mp y with y | y
            · exact d1 (by rw [y]; exact List.mem_cons_self)
            · rcases List.mem_append.mp y with y | y
              · exact d1 (List.mem_cons_of_mem _ y)
              · exact d2 (List.mem_singleton.mp y)
          · rw [upd_ne fun y => d1 (by rw [y]; exact List.mem_cons_self), upd_ne d2]
      rw [set_get_same hvi, List.set_comm _ _ (Ne.symm nij), List.set_set, List.set_comm _ _ nij] at this
      rw [List.set_set] at this
      exact this
  · have hm2 : xs.length = ds.length := g4.len
    rw [hm2, List.drop_length] at hre
    cases hre
    rw [List.append_nil] at hfi
    subst hfi
    exact p _ _ _ ⟨ra.weak fun z hz => (float_no hz).2, ex⟩
theorem sSda (wn : Nat) {i : Nat} {k e : Ex} {st : Stmt} (ft : SFit X W cref n G bs cs N sc) (h : kSda N bs sc i k e st = true) : PS X st (tS X.K W G wn (.sda i k e)) := by
  unfold kSda at h
  split at h
  case h_2 => cases h
  rename_i x px m1 ap1 u pl p1 m ap y p pos
  simp only [Bool.and_eq_true, decide_eq_true_eq] at h
  obtain ⟨⟨⟨⟨⟨⟨rfl, h1⟩, rfl⟩, h2⟩, h3⟩, h4⟩, h5⟩ := h
  have st := star_cons (es := []) (env := X.env) (chk_noStar h5)
  have su := star_cons (es := [.List [] pl]) (env := X.env) (chk_noStar h4)
  have mm : M2 X (.Name x px) "setdefault" ap1 u (.List [] pl) p1 := ⟨rfl, by rw [su]; rfl, beq_iff_eq.mpr h1, by rw [su]; rfl⟩
  refine ps_imp (ps_expr (pe_bm PySem.F.plainAttrs_list PySem.F.slot_list_append PySem.F.type_list_append mt_append (pe_dsetd (vr_ok ft h3) (sE k ft.toFit h4) (pe_lst pa_nil) mm) (pa_cons (sE e ft.toFit h5) pa_nil st) rfl (by rw [st]; rfl) (beq_iff_eq.mpr h2) st rfl) rfl) fun E σ H q => ?_
  obtain ⟨B0, A0, F, env, r, p⟩ := q
  unfold evS at p
  obtain ⟨d, hd, p⟩ := p.ok odD_exc
  have hd := odD_ok hd
  obtain ⟨kvs, hk, p2⟩ := p.ok asD_exc
  clear p
  have hk := asD_ok hk
  subst hk
  obtain ⟨v, fp, hv, o, na⟩ := r.ra.ods hd
  have o' := o
  simp only [Own] at o
  obtain ⟨a, es, fq, rfl, rfl, g1, g2, g3, g4⟩ := o
  refine ⟨_, hv, a, rfl, .inl ⟨es, .inl g3⟩, r.aftE p2 fun z F1 H1 v1 e1 rv1 s1 p => ?_⟩
  cases hkk : dkey z.2 with
  | none => rw [hkk] at p; exact p.elim
  | some kk =>
  rw [hkk] at p
  have p : Post X.K B0 A0 W E (Out.of env (sdRow kvs kk) fun ws => Out.of env (nox (ev G e (env.set i .no))) fun y => Out.of env (scalD y) fun c => if kvs.length < lim ∧ ws.length < lim then .nx (env.set i (.od (.dict (dPutK kvs kk (.list (ws ++ [c])))))) else .stuck) := p
  obtain ⟨ws, hws, p⟩ := p.ok sdRow_exc
  obtain ⟨yv, hy, p⟩ := p.ok nox_exc
  have hy := nox_eq hy
  obtain ⟨c, hc, p⟩ := p.ok scalR_exc
  obtain ⟨sc, rfl⟩ := scalR_ok hc
  by_cases hl : kvs.length < lim ∧ ws.length < lim
  case neg =>
    rw [if_neg hl] at p
    exact p.elim
  rw [if_pos hl] at p
  have il := lt_of_get hd
  refine ⟨(by show 0 ≤ sizeLine; omega), fun q nq => ?_⟩
  have ek := key_is (rv1.is e1.s) hkk
  have o1 := own_ext o' e1
  have o1' := o1
  simp only [Own] at o1
  obtain ⟨_, es1, fq1, y1, y2, k1, k2, k3, k4⟩ := o1
  cases y1
  obtain ⟨_, y2⟩ := List.cons.inj y2
  subst y2
  have e13 : es = es1 := by
    have := e1.h _ _ g3
    rw [k3] at this
    cases this
    rfl
  subst e13
  have aq : a ≠ q := fun y => by rw [y, nq] at k3; cases k3
  have nqf : ∀ b ∈ a :: fq, b ≠ q := fun b hb y => (o1'.at b hb).2 (by rw [y]; exact nq)
  have k3' : (upd H1 q (.lst [])) a = some (.dK es) := by rw [upd_ne aq]; exact k3
  have el : es.length < sizeLine := by rw [ownK_len g4]; exact Nat.lt_trans hl.1 lim_lt
  have eD := Ext.new0 (o := HO.lst []) e1.s nq
  -- what is read of the item: the dict's slot set aside
  have side : ∀ H3 : Hp, Same F1 H3 → (∀ b, b ∉ a :: fq → H1 b ≠ none → H3 b = H1 b) → Rel X.K F1 H3 σ (env.set i .no) := fun H3 sm kp => by
    have hs : i < σ.length := by rw [← r.ra.len]; exact il
    have := s1.ra.change1 il (x := some (.ref a)) (t := .no) (F' := F1) (H' := H3) sm (Same.refl _) fun fps b1 b2 b3 => by
      refine ⟨[], rfl, (fun _ z => by cases z), fun k n1 hk b hb => ⟨(fun z => by cases z), (b3 k hk b hb).2.1, kp b (fun z => ?_) (b3 k hk b hb).2.2⟩⟩
      obtain ⟨w, z1, z2⟩ := b1 i _ hd
      rw [hv] at z1
      cases z1
      exact b2 k i n1 hk il b hb (by rw [own_fp z2 o1']; exact z)
    rw [set_get_same hv] at this
    exact this.rel
  refine ⟨es, kk, k3', ek, el, fun w hw => ?_, fun hn => ?_⟩
  · obtain ⟨dd, f, gA, gB, x1, x2, efq, x3, x4, x5⟩ := k4.sub hw
    unfold sdRow at hws
    rw [x1] at hws
    have hws := asL_ok (show asL dd = .ok ws from hws)
    subst hws
    have x4' := x4
    simp only [Own] at x4
    obtain ⟨t, us, ft2, rfl, rfl, t1, t2, t3, t4⟩ := x4
    have tin : t ∈ a :: fq := by rw [efq]; simp
    have tq := nqf t tin
    have ta : t ≠ a := fun y => k1 (by rw [← y, efq]; simp)
    have t3' : (upd H1 q (.lst [])) t = some (.lst us) := by rw [upd_ne tq]; exact t3
    refine ⟨.inl ⟨rfl, us, (LL.of (K := X.K) t3').seq⟩, ?_⟩
    refine ⟨F1, _, side _ eD.s (fun b _ hb => eD.stay hb), ?_⟩
    rw [hy]
    intro F3 H3 e3 v3 rv3
    have e := e1.trans (eD.trans e3)
    have t3'' := e3.h _ _ t3'
    refine ⟨t, us, v3, rfl, rfl, t3'', by rw [t4.len]; exact Nat.lt_trans hl.2 lim_lt, ?_⟩
    have o3 := own_ext o' e
    have o3' := o3
    simp only [Own] at o3
    obtain ⟨_, es3, fq3, y1, y2, j1, j2, j3, j4⟩ := o3
    cases y1
    obtain ⟨_, y2⟩ := List.cons.inj y2
    subst y2
    rw [e.h _ _ g3] at j3
    cases j3
    obtain ⟨dd3, f3, gA3, gB3, u1, u2, ef, u3, u4, u5⟩ := j4.sub hw
    rw [x1] at u1
    cases u1
    have u4' := u4
    simp only [Own] at u4
    obtain ⟨_, us3, ft3, z1, rfl, w1, w2, w3, w4⟩ := u4
    cases z1
    rw [t3''] at w3
    cases w3
    have ex := (r.ext.trans e).mut (o := .lst (us ++ [v3])) (na t tin) w2
    refine p σ F3 _ ⟨?_, ex⟩
    refine r.ra.treeE e hd hv ex.s fun fi oi => ?_
    rw [own_fp oi o']
    refine ⟨_, ?_, fun b hb => .inl hb, fun b hb hn => ?_⟩
    · unfold dPutK
      rw [if_pos u2]
      simp only [Own]
      refine ⟨a, es, _, rfl, rfl, k1, j2, by rw [upd_ne ta.symm]; exact e.h _ _ g3, ?_⟩
      refine u5 _ _ ?_ fun b hb => upd_ne fun y => ?_
      · simp only [Own]
        exact ⟨t, _, ft3, rfl, rfl, w1, w2, upd_same, own_app w4 w1 (rv3.is e3.s) sc⟩
      · have := u3 t List.mem_cons_self
        rw [← y] at this
        exact hb.elim this.1 this.2
    · rw [upd_ne fun y => hb (by rw [y]; exact tin)]
      exact e.stay hn
  · obtain ⟨x1, x2, x3⟩ := k4.new hn
    unfold sdRow at hws
    rw [x1] at hws
    have hws : R.ok [] = .ok ws := hws
    cases hws
    have ep : putK es kk (.ref q) = es ++ [(kk, .ref q)] := putK_new _ hn
    rw [ep]
    have q3 : (upd (upd H1 q (.lst [])) a (.dK (es ++ [(kk, .ref q)]))) q = some (.lst []) := by rw [upd_ne aq.symm, upd_same]
    refine ⟨.inl ⟨rfl, [], (LL.of (K := X.K) q3).seq⟩, ?_⟩
    have sm3 : Same F1 (upd (upd H1 q (.lst [])) a (.dK (es ++ [(kk, .ref q)]))) := fun b u hb => by
      rw [upd_ne fun y => by rw [y, k2] at hb; cases hb]
      exact eD.s _ _ hb
    refine ⟨F1, _, side _ sm3 (fun b hb hn2 => ?_), ?_⟩
    · rw [upd_ne fun y => hb (by rw [y]; exact List.mem_cons_self)]
      exact eD.stay hn2
    rw [hy]
    intro F3 H4 e3 v3 rv3
    have q4 := e3.h _ _ q3
    refine ⟨q, [], v3, rfl, rfl, q4, (by show 0 < sizeLine; rw [sizeLine_eq]; decide), ?_⟩
    have fq1 : F1 q = none := e1.s.free nq
    have fq3 : F3 q = none := e3.gone fq1 (by rw [q3]; intro y; cases y)
    have ea := (s1.ext.trans eD).mut (o := .dK (es ++ [(kk, .ref q)])) (na a List.mem_cons_self) k2
    have ex := (ea.trans e3).mut (o := .lst ([] ++ [v3])) (s1.ext.h.free nq) fq3
    refine p σ F3 _ ⟨?_, ex⟩
    have stay : ∀ b, H1 b ≠ none → b ≠ a → b ≠ q → (upd H4 q (.lst ([] ++ [v3]))) b = H1 b := fun b h1 h2 h3 => by
      have e5 : (upd (upd H1 q (.lst [])) a (.dK (es ++ [(kk, .ref q)]))) b = H1 b := by rw [upd_ne h2, upd_ne h3]
      rw [upd_ne h3, e3.stay (by rw [e5]; exact h1), e5]
    have ha4 : (upd H4 q (.lst ([] ++ [v3]))) a = some (.dK (es ++ [(kk, .ref q)])) := by
      rw [upd_ne aq]
      exact e3.h _ _ upd_same
    have fa3 : F3 a = none := e3.gone k2 (by rw [upd_same]; intro y; cases y)
    have := r.ra.change1 il (x := some (.ref a)) (t := .od (.dict (dPutK kvs kk (.list ([] ++ [yv.2]))))) (F' := F3) (H' := upd H4 q (.lst ([] ++ [v3]))) ex.s (e1.f.trans e3.f) fun fps b1 b2 b3 => by
      obtain ⟨w, z1, z2⟩ := b1 i _ hd
      rw [hv] at z1
      cases z1
      have ei := own_fp z2 o'
      have gone3 : ∀ b, H1 b ≠ none → F1 b = none → b ≠ a → b ≠ q → F3 b = none := fun b h1 h2 h3 h4 => e3.gone h2 (by rw [upd_ne h3, upd_ne h4]; exact h1)
      refine ⟨a :: (fq ++ [q]), ⟨_, rfl, ?_⟩, fun b hb => ?_, fun k n1 hk b hb => ?_⟩
      · unfold dPutK
        rw [x2]
        simp only [Bool.false_eq_true, if_false, Own]
        refine ⟨a, _, _, rfl, rfl, fun y => ?_, fa3, ha4, ?_⟩
        · rcases List.mem_append.mp y with y | y
          · exact k1 y
          · exact aq (List.mem_singleton.mp y)
        · rw [dKey_eq]
          have k5 : OwnK X.K F3 (upd H4 q (.lst ([] ++ [v3]))) kvs es fq := k4.keep fun b hb => by
            have n1 := (k4.at b hb)
            have n2 : b ≠ a := fun y => k1 (by rw [← y]; exact hb)
            have n3 := nqf b (List.mem_cons_of_mem _ hb)
            exact ⟨gone3 b n1.2 n1.1 n2 n3, stay b n1.2 n2 n3⟩
          refine (k5.new hn).2.2 _ _ [q] ?_ fun b hb y => nqf b (List.mem_cons_of_mem _ hb) (List.mem_singleton.mp y)
          simp only [Own]
          refine ⟨q, _, [], rfl, rfl, (fun y => by cases y), fq3, upd_same, ?_⟩
          exact ownL_scal (G := H4) (.one (rv3.is e3.s)) (by simp [sc])
      · rcases List.mem_cons.mp hb with y | y
        · rw [y]; exact na a List.mem_cons_self
        · rcases List.mem_append.mp y with y | y
          · exact na b (List.mem_cons_of_mem _ y)
          · rw [List.mem_singleton.mp y]
            exact s1.ext.h.free nq
      · have d1 := b2 k i n1 hk il b hb
        rw [ei] at d1
        have nb := b3 k hk b hb
        have h1b := e1.stay nb.2.2
        have n2 : b ≠ a := fun y => d1 (by rw [y]; exact List.mem_cons_self)
        have n3 : b ≠ q := fun y => nb.2.2 (by rw [y]; exact e1.h.free nq)
        refine ⟨fun y => ?_, gone3 b (by rw [h1b]; exact nb.2.2) (e1.gone nb.2.1 nb.2.2) n2 n3, (stay b (by rw [h1b]; exact nb.2.2) n2 n3).trans h1b⟩
        rcases List.mem_cons.mp y with y | y
        · exact n2 y
        · rcases List.mem_append.mp y with y | y
          · exact d1 (List.mem_cons_of_mem _ y)
          · exact n3 (List.mem_singleton.mp y)
    rwa [set_get_same hv] at this
end
end PV

/-! PvAl: a list within an own tree, changed through two further names: one = x[k]; c = one[1]; p = q; c[p] = e. -/
namespace PV
open PySem PySem.Spec PyProof.Rows L2
theorem alOf_eq {s : Sx} {i j c pl : Nat} {k q e : Ex} (h : alOf s = some (i, j, c, pl, k, q, e)) : s = .alS i j c pl k q e := by
  cases s <;> first | (cases h; done) | (simp only [alOf, Option.some.injEq, Prod.mk.injEq] at h; obtain ⟨rfl, rfl, rfl, rfl, rfl, rfl, rfl⟩ := h; rfl)
section
variable {cref : Str → Value} {n : Nat} {G : Gam} {bs cs N : List Str} {X : Cx} {W : Wd} {sc : Scope}
theorem sAlS (wn : Nat) {i j c pl : Nat} {k q e : Ex} {x1 x2 x3 x4 : Stmt} {xs : List Stmt} {l : List Sx} (ft : SFit X W cref n G bs cs N sc) (h : kAlS N bs sc i j c pl k q e x1 x2 x3 x4 = true) (hr : PSs X xs (tSs X.K W G wn l)) :
    PSs X (x1 :: x2 :: x3 :: x4 :: xs) (tSs X.K W G wn (.alS i j c pl k q e :: l)) := by
  unfold kAlS at h
  split at h
  case h_2 => cases h
  rename_i o1 po1 m1 pm1 s1 ps1 pp1 c1 pc1 o2 po2 s2 ps2 pp2 p1 pp1' v3 pp3 c2 pc2 p2 pp2' ps4 v4 pp4
  simp only [Bool.and_eq_true] at h
  obtain ⟨⟨⟨⟨⟨⟨⟨⟨⟨⟨⟨⟨⟨h1, h2⟩, h3⟩, h4⟩, h5⟩, h6⟩, h7⟩, h8⟩, h9⟩, h10⟩, h11⟩, h12⟩, h13⟩, h14⟩ := h
  have hN : X.N.Nodup := by rw [ft.hN]; exact ft.nd
  obtain ⟨a1, b1, d1⟩ := st_of ft.hN ft.hsc (fun x _ => ft.fn x) h1
  obtain ⟨a2, b2, d2⟩ := st_of ft.hN ft.hsc (fun x _ => ft.fn x) h5
  obtain ⟨a3, b3, d3⟩ := st_of ft.hN ft.hsc (fun x _ => ft.fn x) h9
  have P1 := ps_set (pos := pp1) (pos' := po1) hN a1 b1 (pe_ix (pos := ps1) ix_seq (vr_ok (px := pm1) ft h2) (sE k ft.toFit h4) (plainIx_of h3)) rfl d1
  have P2 := ps_set (pos := pp2) (pos' := pc1) hN a2 b2 (pe_ix (pos := ps2) ix_seq (vr_ok (px := po2) ft h6) (sE (.cst (.int 1)) ft.toFit h8) (plainIx_of h7)) rfl d2
  have P3 := ps_set (pos := pp3) (pos' := pp1') hN a3 b3 (sE q ft.toFit h11) (swaps_name h11 fun a b c d z => by subst z; cases h10) d3
  have pg : PG X (.Subscript (.Name c2 pc2) (.Name p2 pp2') ps4) (gSub (tVar c) (tVar pl) rSetL) := pg_sub (vr_ok ft h12) (vr_ok ft h13) set_list (fun _ => rfl)
  have P4 := ps_asg (pos := pp4) (sE e ft.toFit h14) pg (swaps_two (a := .Name c2 pc2) (b := .Name p2 pp2') (p := ps4) (n := pp4.line) (env := X.env)) stores_sub
  refine pss_imp (pss_cons P1 (pss_cons P2 (pss_cons P3 (pss_cons P4 hr)))) fun E σ H z => ?_
  obtain ⟨B0, A0, F, env, r, p⟩ := z
  unfold evSs evS at p
  cases ha : alV G i j c pl k q e env with
  | exc y => rw [ha] at p; exact p.elim
  | stuck => rw [ha] at p; exact p.elim
  | ok env2 =>
  rw [ha] at p
  have p : Post X.K B0 A0 W E (evSs G wn l env2) := p
  unfold alV at ha
  obtain ⟨t, ht, hb0⟩ := bind_ok2 ha
  clear ha
  have ht := odD_ok ht
  obtain ⟨ds, hds, hc0⟩ := bind_ok2 hb0
  clear hb0
  have hds := asL_ok hds
  subst hds
  obtain ⟨y1, hy1, ha⟩ := bind_ok2 hc0
  obtain ⟨ai, hai, ha⟩ := bind_ok2 ha
  obtain ⟨⟨m, it⟩, hpl, ha⟩ := bind_ok2 ha
  obtain ⟨⟨jj, ws⟩, hrow, ha⟩ := bind_ok2 ha
  obtain ⟨y3, hy3, ha⟩ := bind_ok2 ha
  obtain ⟨bi, hbi, ha⟩ := bind_ok2 ha
  obtain ⟨y4, hy4, ha⟩ := bind_ok2 ha
  obtain ⟨z4, hz4, ha⟩ := bind_ok2 ha
  obtain ⟨sc4, rfl⟩ := scalR_ok hz4
  obtain ⟨it2, hit2, ha⟩ := bind_ok2 ha
  obtain ⟨mm, y0, hs, hm0, rfl⟩ := rowS_ok hit2
  obtain ⟨es1, hi1, hp1⟩ := rowL_ok hrow
  split at ha
  case isFalse => cases ha
  rename_i hd
  obtain ⟨⟨nij, nic, nip, njc, njp, ncp⟩, jl, cl, pll⟩ := hd
  cases ha
  have hget : ds[m]? = some it := (placed_ok hpl).2
  have il := lt_of_get ht
  obtain ⟨v, fp, hv, o, na⟩ := r.ra.ods ht
  obtain ⟨pa0, vs0, w, ff, rfl, g2, g3, g4, g5, g6, g7, g8, rb⟩ := o.part (j := m) rfl hget
  obtain ⟨pa, vs, qa, us, fr, rfl, u2, u3, u4, u5, u6, u7, u8, u9⟩ := g5.row hi1 hp1
  have efr := u5.scal hs
  subst efr
  have len : σ.length = env.length := r.rel.len.symm
  -- one = x[k]
  refine ⟨_, hv, F, env, r.rel, ?_⟩
  rw [hy1]
  refine fun F1 H1 e1 v1 rv1 => ?_
  have iv1 := rv1.is e1.s
  rw [isInt_ok2 hai] at iv1
  cases is_int iv1
  refine atI_ok (stay2 e1 g2) (atI_of g4 hpl g3) ?_
  -- c = one[1]
  have s1 := (r.next e1).any (i := j) (v := some (.ref pa))
  have hj1 : (σ.set j (some (.ref pa)))[j]? = some (some (.ref pa)) := List.getElem?_set_self (by rw [len]; exact jl)
  refine ⟨_, hj1, F1, _, s1.rel, ?_⟩
  have ek : ∀ e : Env, ev G (.cst (.int 1)) e = .ok (.sh, .int 1) := fun e => by unfold ev; rfl
  rw [ek]
  refine fun F2 H2 e2 v2 rv2 => ?_
  cases is_int (K := X.K) (H := F2) rv2
  have e12 := e1.trans e2
  refine atI_ok (stay2 e12 u2) u3 ?_
  have s2 := (s1.next e2).any (i := c) (v := some (.ref qa))
  -- p = q
  refine ⟨F2, _, s2.rel, ?_⟩
  rw [hy3]
  refine fun F3 H3 e3 v3' rv3 => ?_
  have iv3 := rv3.is e3.s
  rw [isInt_ok2 hbi] at iv3
  cases is_int iv3
  have s3 := (s2.next e3).set (i := pl) (v := .int bi) (d := .int bi) (by simp only [Is])
  have e123 := e12.trans e3
  -- the state with c alone
  have lenS : (((σ.set j (some (.ref pa))).set c (some (.ref qa))).set pl (some (.int bi))).length = env.length := by simp [len]
  have lenE : (((env.set j .no).set c .no).set pl (.sh (.int bi))).length = env.length := by simp
  have hi3 : (((env.set j .no).set c .no).set pl (.sh (.int bi)))[i]? = some (.od (.list ds)) := by
    rw [List.getElem?_set_ne (Ne.symm nip), List.getElem?_set_ne (Ne.symm nic), List.getElem?_set_ne (Ne.symm nij)]
    exact ht
  have hvi3 : (((σ.set j (some (.ref pa))).set c (some (.ref qa))).set pl (some (.int bi)))[i]? = some (some (.ref pa0)) := by
    rw [List.getElem?_set_ne (Ne.symm nip), List.getElem?_set_ne (Ne.symm nic), List.getElem?_set_ne (Ne.symm nij)]
    exact hv
  have hvc3 : (((σ.set j (some (.ref pa))).set c (some (.ref qa))).set pl (some (.int bi)))[c]? = some (some (.ref qa)) := by
    rw [List.getElem?_set_ne (Ne.symm ncp)]
    exact List.getElem?_set_self (by simp [len]; exact cl)
  have hvp3 : (((σ.set j (some (.ref pa))).set c (some (.ref qa))).set pl (some (.int bi)))[pl]? = some (some (.int bi)) := List.getElem?_set_self (by simp [len]; exact pll)
  have o3 := own_ext o e123
  have g53 := own_ext g5 e123
  have rr : RelA X.K A0 F3 H3 (((σ.set j (some (.ref pa))).set c (some (.ref qa))).set pl (some (.int bi))) (((((env.set j .no).set c .no).set pl (.sh (.int bi))).set i .no).set c (.od (.list ws))) := by
    have := s3.ra.change (i := c) (by rw [lenE]; exact cl) i (x := some (.ref qa)) (t := .od (.list ws)) (F' := F3) (H' := H3) s3.rel.sub (Same.refl _) fun fps b1 b2 b3 => by
      obtain ⟨w2, z1, z2⟩ := b1 i _ hi3
      rw [hvi3] at z1
      cases z1
      have ee := own_fp z2 o3
      have qi : qa ∈ fps i := by rw [ee]; exact g6 _ u7
      refine ⟨[qa], ⟨_, rfl, ?_⟩, fun a ha => ?_, fun k2 k3 k4 k5 a ha => ⟨fun z => ?_, (b3 k2 k5 a ha).2.1, rfl⟩⟩
      · simp only [Own]
        exact ⟨qa, us, [], rfl, rfl, (fun z => by cases z), e123.gone u8 (by rw [u4]; intro z; cases z), e123.h _ _ u4, own_ext_L u5 e123⟩
      · rw [List.mem_singleton.mp ha]
        exact na _ (g6 _ u7)
      · rw [List.mem_singleton.mp z] at ha
        exact b2 k2 i k4 k5 (by rw [lenE]; exact il) qa ha qi
    have eqs : ((((σ.set j (some (.ref pa))).set c (some (.ref qa))).set pl (some (.int bi))).set c (some (.ref qa))) = (((σ.set j (some (.ref pa))).set c (some (.ref qa))).set pl (some (.int bi))) := set_eq_self hvc3
    rwa [eqs] at this
  refine ⟨F3, _, rr.rel, ?_⟩
  rw [hy4]
  refine fun F4 H4 e4 v4' rv4 => ?_
  refine ⟨_, hvc3, _, hvp3, ?_⟩
  have e5 := e123.trans e4
  have y3' := e5.h _ _ u4
  refine ⟨qa, us, bi, mm, rfl, rfl, y3', by rw [u5.len]; exact (placed_ok hm0).1, ?_⟩
  have s4 := s3.next e4
  have ic : Is X.K H4 y4.2 v4' := rv4.is e4.s
  have oc := own_set (q := qa) (us' := us.set mm v4') (own_ext_L u5 e5) hs ic sc4 (m := mm)
  obtain ⟨p2, vs2, w2, f2, z1, z2, z3, z4, z5, z6, z7, z8, rb2⟩ := (own_ext o e5).part (j := m) rfl hget
  cases z1
  have : vs2 = vs0 := by
    rcases g2 with g2 | g2 <;> have g2' := e5.h _ _ g2 <;> rcases z2 with z2 | z2 <;> rw [g2'] at z2 <;> cases z2 <;> rfl
  subst this
  rw [g3] at z3
  cases z3
  obtain ⟨_, fr2, t1, t2, t3, t4, t5⟩ := z5.row_at hi1 hp1 rfl (stay2 e5 u2) u3 y3'
  have er := ownL_fp t1 (own_ext_L u5 e5)
  subst er
  have s5 := s4.deep (u := .lst (us.set mm v4')) hi3 hvi3 (own_ext o e5) na rb2 z6 t3 t4 (t5 _ _ oc)
  exact ⟨B0, A0, F4, _, s5, p⟩
theorem sApc (wn : Nat) {e c : Ex} {st : Stmt} (ft : SFit X W cref n G bs cs N sc) (h : kApc N bs sc e c st = true) : PS X st (tS X.K W G wn (.apc e c)) := by
  unfold kApc at h
  split at h
  case h_2 => cases h
  simp only [Bool.and_eq_true, decide_eq_true_eq] at h
  obtain ⟨⟨⟨rfl, h1⟩, h3⟩, h5⟩ := h
  have st := star_cons (es := []) (env := X.env) (chk_noStar h5)
  refine ps_imp (ps_expr (pe_bm PySem.F.plainAttrs_list PySem.F.slot_list_append PySem.F.type_list_append mt_append (sE e ft.toFit h3) (pa_cons (sE c ft.toFit h5) pa_nil st) rfl (by rw [st]; rfl) (beq_iff_eq.mpr h1) st rfl) rfl) fun E σ H q => ?_
  obtain ⟨B0, A0, F, env, r, p⟩ := q
  unfold evS at p
  refine r.aftE p fun x F1 H1 v1 e1 rv1 s1 p => ?_
  obtain ⟨t, d⟩ := x
  cases t <;> first | exact p.elim | skip
  cases d <;> first | exact p.elim | skip
  rename_i ds
  obtain ⟨pa, rfl, na, f1, vs, g1, g2⟩ := rv1
  refine ⟨.inl ⟨rfl, vs, (LL.of (K := X.K) g1).seq⟩, ?_⟩
  have p : Post X.K B0 A0 W E (Out.of env (nox (ev G c env)) fun y => Out.of env (scalD y) fun _ => if ds.length < lim then .nx env else .stuck) := p
  obtain ⟨y, hy, p⟩ := p.ok nox_exc
  have hy := nox_eq hy
  obtain ⟨z, hz, p⟩ := p.ok scalR_exc
  by_cases hl : ds.length < lim
  case neg =>
    rw [if_neg hl] at p
    exact p.elim
  rw [if_pos hl] at p
  refine ⟨F1, env, s1.rel, ?_⟩
  rw [hy]
  refine fun F2 H2 e2 v2 rv2 => ?_
  have g1' := e2.h _ _ g1
  have f2 := e2.gone f1 (by rw [g1]; intro z; cases z)
  refine ⟨pa, vs, v2, rfl, rfl, g1', by rw [g2.len]; exact Nat.lt_trans hl lim_lt, ?_⟩
  exact p _ _ _ (r.next ((e1.trans e2).mut na f2))
theorem sRts (wn : Nat) {f : Str} {i : Nat} {st : Stmt} (ft : SFit X W cref n G bs cs N sc) (h : kRts N bs sc f i st = true) : PS X st (tS X.K W G wn (.rts f i)) := by
  unfold kRts at h
  split at h
  case h_2 => cases h
  rename_i x px y py k z pz pk pc pos
  simp only [Bool.and_eq_true, decide_eq_true_eq] at h
  obtain ⟨⟨⟨⟨⟨⟨⟨rfl, h1⟩, rfl⟩, rfl⟩, h0⟩, h2⟩, h3⟩, h4⟩ := h
  have h0 : bang z = false := by simpa using h0
  obtain ⟨g1, g2⟩ := ft.toFit.glN h1
  cases hG : G z with
  | none =>
    refine ⟨fun pins s σ H Q I q => ?_⟩
    obtain ⟨B0, A0, F, env, r, p⟩ := q
    unfold evS at p
    rw [hG] at p
    exact p.elim
  | some g =>
    obtain ⟨fa, fd, ps, hm, hk, hb, hF, ar⟩ := ft.toFit.gc.fns z g h0 hG
    have nst : noStar (.Name y py) = true := rfl
    have st := star_cons (es := []) (env := X.env) nst
    refine ps_imp (ps_ret (pe_callBK (cr_srt hG hF hb ar (ft.toFit.rm (.inl ⟨z, g, hG⟩)).2 ft.toFit.gd) g1 g2 boot_sorted (pa_cons (vr_ok (px := py) ft h4) pa_nil st) (pk_cons (pe_glob (v := .ref fa) (ft.toFit.gl h2) hm rfl (nm_of h3).1) pk_nil) (by decide) (by decide) (by rw [st]; rfl) (star_any (es := [.Name y py]) (by simp only [List.all_cons, List.all_nil, Bool.and_true]; exact nst)) rfl rfl rfl)) fun E σ H q => ?_
    obtain ⟨B0, A0, F, env, r, p⟩ := q
    unfold evS at p
    rw [hG] at p
    have p : Post X.K B0 A0 W E (Out.of env (odD env i) fun t => Out.of env (asL t) fun ds => match keysOf g ds with
      | some ks => if sortOk ks = true then .ret .tr (.list (sortV ds ks)) else .stuck
      | none => .stuck) := p
    obtain ⟨t, ht, p⟩ := p.ok odD_exc
    have ht := odD_ok ht
    obtain ⟨ds, hds, p2⟩ := p.ok asL_exc
    clear p
    have hds := asL_ok hds
    subst hds
    cases hkk : keysOf g ds with
    | none => simp only [hkk] at p2; exact p2.elim
    | some ks =>
      simp only [hkk] at p2
      by_cases hs : sortOk ks = true
      case neg =>
        rw [if_neg hs] at p2
        exact p2.elim
      rw [if_pos hs] at p2
      obtain ⟨v, fp, hv, o, na⟩ := r.ra.ods ht
      simp only [Own] at o
      obtain ⟨a, ws, fq, rfl, rfl, k1, k2, k3, k4⟩ := o
      obtain ⟨lk, _⟩ := keysOf_spec hkk
      refine ⟨_, hv, ?_⟩
      refine ⟨rfl, a, ws, ds, ks, g, rfl, k3, k4.is fun _ _ => rfl, hG, hkk, hs, fun H' q sm np np' => ?_⟩
      obtain ⟨fr, f1, f2⟩ := ownL_sort (X := X) (ks := ks) k4 k4.len lk
      have ex : Ext F H F (upd H' q (.lst (sortV ws ks))) := ⟨Same.refl _, sm.trans (same_upd np'), r.rel.sub.trans (sm.trans (same_upd np')), fun b z => .inl z⟩
      refine p2 (.ref q) F _ (r.ext.trans ex) ⟨q :: fr, fun b hb => ?_, ?_⟩
      · rcases List.mem_cons.mp hb with rfl | hb
        · exact r.ext.h.free np
        · exact na b (List.mem_cons_of_mem _ ((f2 b).mp hb))
      · simp only [Own]
        refine ⟨q, _, fr, rfl, rfl, fun z => ?_, r.rel.sub.free np, upd_same, own_ext_L f1 ex⟩
        exact (k4.at q ((f2 q).mp z)).2 np
end
end PV

/-! PvTree3: return [(a, y) for y in sorted(x)], x an own tree. -/
namespace PV
open PySem PySem.Spec PyProof.Rows L2
section
variable {X : Cx}
def rSor (K : PySem.W.Frag) : List V → Hp → VK → Prop := fun vs H Q => ∃ l ws xs, vs = [.ref l] ∧ H l = some (.lst ws) ∧ IsL K H xs ws ∧ sortOk xs = true ∧ ∀ q, H q = none → Q (.ref q) (upd H q (.lst (sortV ws xs)))
theorem cr_sor {k : Nat} (hr : Room k X.A) : CallR X (.builtin "sorted") (rSor X.K) := by
  intro pins s σ H vs us Q I rv h
  obtain ⟨l, ws, xs, rfl, hH, h2, g1, q⟩ := h
  obtain ⟨its, rw', pl, hz⟩ := I.list (LL.of (K := X.K) hH).seq
  rw [Vals.ref1 rv]
  obtain ⟨o1, o2, o3⟩ := sortOk_of g1
  have hlen := h2.len
  have hu := hr.un
  have sn := zip_snd (xs := ws) (ys := xs) hlen
  have hlz : (ws.zip xs).length ≤ sizeLine := by
    rw [List.length_zip]
    omega
  have lay : ∀ p ∈ ws.zip xs, ∀ u, RelV p.1 u → ∃ as, Reads s.heap u p.2 as := fun p hp u ru => by
    have hi := isL_zip h2 p hp
    have cl : p.2.canLay0 = true := by
      have hm : p.2 ∈ xs := by
        rw [← sn]
        exact List.mem_map_of_mem hp
      exact (o3 _ hm).2
    exact Dp.reads I p.2 p.1 u (hi.dp cl) ru
  refine PySem.W.sorted_data (bs := ws.zip xs) (enc := fun p : V × D => p.2) (R := fun u p => RelV p.1 u) pl.isList (each_of rw' hlen fun v u d ru _ => ru) (each_of rw' hlen fun v u d ru hm => lay _ hm u ru)
    (by rw [sn]; exact o1) (by rw [sn]; exact o2) hlz (fun b hb => ?_) fun out e1 e2 => ?_
  · have hm : b.2 ∈ xs := by
      rw [← sn]
      exact List.mem_map_of_mem hb
    have := (o3 _ hm).1
    omega
  · obtain ⟨ep, he'⟩ := PyProof.Rows.sortedAll_at s.heap its out.toArray
    have hlen2 : (sortV ws xs).length ≤ sizeLine := by
      unfold sortV
      rw [List.length_map, List.length_mergeSort]
      exact hlz
    exact ⟨.ref _, _, I.laid (a := s.heap.objs.size + 1) (o := .lst (sortV ws xs)) (t' := s.toks) (fun _ _ => PyProof.Rows.sortedAll_old) (Nat.le_succ _) ⟨hlen2, out, ep, vals_each e2, he'⟩, rfl, q _ (I.hok.fresh (Nat.le_succ _))⟩
end
section
variable {X : Cx} {W : Wd} {cref : Str → Value} {n : Nat} {G : Gam} {bs cs N : List Str} {sc : Scope}
theorem Fit.var3 {W : Str → L2.St → Hp → Prop} (f : Fit X W cref n G bs cs N sc) {i : Nat} {x : Str} (h : vr N sc i x = true) {pos : Pos} : PE X (.Name x pos) (tVar i) := by
  unfold vr at h
  simp only [Bool.and_eq_true, decide_eq_true_eq] at h
  exact f.nm h.1.1 h.1.2 h.2
theorem sRtc (wn : Nat) {x : Str} {j i : Nat} {a : Ex} {st : Stmt} (ft : SFit X W cref n G bs cs N sc) (h : kRtc N bs sc x j i a st = true) : PS X st (tS X.K W G wn (.rtc x j i a)) := by
  unfold kRtc at h
  split at h
  case h_2 => cases h
  rename_i e1 y py tx tp t z zp u up cp m scope lp rp
  simp only [Bool.and_eq_true, decide_eq_true_eq] at h
  obtain ⟨⟨⟨⟨⟨⟨⟨⟨rfl, hr⟩, h1⟩, h2⟩, rfl⟩, h3⟩, h4⟩, h5⟩, h6⟩ := h
  obtain ⟨g1, g2⟩ := ft.toFit.glN h3
  have hN := ft.hN
  have hsc := ft.hsc
  have f := ft.toFit
  have nst : noStar (.Name u up) = true := rfl
  have st := star_cons (es := []) (env := X.env) nst
  have hsb : ("sorted" : Str) ∈ bs := by
    simp only [PV.glN, Bool.and_eq_true, decide_eq_true_eq] at h3
    exact h3.2
  have ha := pe_callB (X := X) (p := zp) (pos := cp) (cr_sor (ft.toFit.rm (.inr hsb)).1) g1 g2 boot_sorted (pa_cons (vr_ok (px := up) ft h4) pa_nil st) (by decide) (by decide) st rfl
  have hT : chkTs N bs .nil (relS scope sc) [] = true := by simp [chkTs]
  refine ps_imp (ps_ret (pe_lc (own := [(x, j)]) (tt := tTA X.K W0 G .nil) (g := gTg X.K (.nm j)) (te := tTup (tCons (tE X.K W0 G a) (tCons (tVar j) tNil))) (ft.calm hr) (by rw [hN]; exact ft.nd) (pi_list ha) (by rw [hN, hsc]; exact blkOk_by h1)
    (fun s H C cl fp => pg_of (cok := fun x => scope.names.lookup x == some .cell) (f.blk s H scope cl C fp).hN f.nd (f.blk s H scope cl C fp).hsc (fun x hx => hx) (f.calm hr) h2)
    (fun s H C cl fp => sIf (bs := bs) .nil (f.blk s H scope cl C fp) hT (Nat.zero_le _))
    (fun s H C cl fp => pe_tup (pa_cons (sE a (f.blk s H scope cl C fp) h5) (pa_cons ((f.blk s H scope cl C fp).var3 h6) pa_nil (star_cons (by rfl))) (star_cons (chk_noStar h5)))) (nofold (by rfl)))) fun E σ H q => ?_
  obtain ⟨B0, A0, F, env, r, p⟩ := q
  unfold evS at p
  obtain ⟨tt, ht, p⟩ := p.ok odD_exc
  have ht := odD_ok ht
  obtain ⟨ds, hds, p2⟩ := p.ok asL_exc
  clear p
  have hds := asL_ok hds
  subst hds
  obtain ⟨y0, hy, p3⟩ := p2.ok nox_exc
  have hy := nox_eq hy
  obtain ⟨c, hc, p4⟩ := p3.ok scalR_exc
  clear p2 p3
  by_cases hs : sortOk ds = true ∧ i ≠ j ∧ j < env.length ∧ ds.length ≤ lim
  case neg =>
    rw [if_neg hs] at p4
    exact p4.elim
  rw [if_pos hs] at p4
  obtain ⟨hs, nij, hj, hz⟩ := hs
  obtain ⟨hsc, hcy⟩ := scalR_ok hc
  obtain ⟨v, fp, hv, o, na⟩ := r.ra.ods ht
  simp only [Own] at o
  obtain ⟨pa, ws, fq, rfl, rfl, k1, k2, k3, k4⟩ := o
  obtain ⟨fr, f1, f2⟩ := ownL_sort (X := X) (ks := ds) k4 k4.len rfl
  have lS := f1.len
  have lz : (sortV ds ds).length ≤ lim := by
    have : (sortV ds ds).length = ds.length := by
      unfold sortV
      rw [List.length_map, List.length_mergeSort, List.length_zip, Nat.min_self]
    omega
  refine ⟨_, hv, ?_⟩
  refine ⟨pa, ws, ds, rfl, k3, k4.is fun _ _ => rfl, hs, fun q nq => ?_⟩
  have nfr : ∀ b ∈ fr, A0 b = none := fun b hb => na b (List.mem_cons_of_mem _ ((f2 b).mp hb))
  clear k4 f2
  generalize sortV ws ds = S at f1 lS
  generalize sortV ds ds = sds at f1 lS lz p4
  refine ⟨q, rfl, ⟨S, (LL.of (K := X.K) upd_same).seq⟩, fun Dl hD => ?_⟩
  have e01 : Ext F H F (upd H q (.lst S)) := Ext.new0 r.rel.sub nq
  have hD0 : H Dl = none := e01.h.free hD
  have e02 : Ext F H F (upd (upd H q (.lst S)) Dl (.lst [])) := e01.trans (Ext.new0 e01.s hD)
  have nqD : q ≠ Dl := fun z => by rw [← z, upd_same] at hD; cases hD
  refine ⟨fun k m H2 => m = S.length - k ∧ k ≤ S.length ∧ ∃ F2 acc fq1 fr1, Ext F H F2 H2 ∧ F2 Dl = none ∧ H2 Dl = some (.lst acc) ∧ H2 q = some (.lst S) ∧ OwnL X.K F2 H2 ((sds.take k).map fun d => .tuple [c, d]) acc fq1 ∧ OwnL X.K F2 H2 (sds.drop k) (S.drop k) fr1 ∧ (∀ b ∈ fq1, b ∉ fr1) ∧ Dl ∉ fq1 ∧ Dl ∉ fr1 ∧ (∀ b ∈ fq1, A0 b = none) ∧ ∀ b ∈ fr1, A0 b = none,
    ⟨S.length, rfl, Nat.zero_le _, F, [], [], fr, e02, r.rel.sub.free hD0, upd_same, by rw [upd_ne nqD]; exact upd_same, by rw [List.take_zero, List.map_nil]; simp only [OwnL]; exact ⟨trivial, trivial⟩, by rw [List.drop_zero, List.drop_zero]; exact own_ext_L f1 e02, (fun b z => by cases z), (fun z => by cases z), (fun z => (f1.at Dl z).2 hD0), (fun b z => by cases z), nfr⟩, ?_⟩
  rintro k m H2 ⟨rfl, hk, F2, acc, fq1, fr1, e, d1, d2, d3, o1, o2, dj, n1, n2, a1, a2⟩
  by_cases hlt : k < S.length
  · refine .inr ⟨⟨S, S[k], (LL.of (K := X.K) d3).seq, List.getElem?_eq_getElem hlt⟩, _, fun H' z => ⟨S.length - (k + 1), by omega, z⟩, fun w H3 yy => ?_⟩
    obtain ⟨rfl, hx⟩ := yy
    have hx := hx S (LL.of (K := X.K) d3).seq
    have hkd : k < sds.length := by omega
    rw [List.drop_eq_getElem_cons hlt, List.drop_eq_getElem_cons hkd] at o2
    rw [List.getElem?_eq_getElem hlt] at hx
    have hx := Option.some.inj hx
    rw [hx] at o2
    simp only [OwnL] at o2
    obtain ⟨w0, wr, fd, fr2, ew, rfl, dj2, od, or⟩ := o2
    obtain ⟨rfl, rfl⟩ := List.cons.inj ew
    have rel := ((r.ra.any (i := j) (v := some w)).rel).ext e
    show wipe ((wipe σ [j]).set j (some w)) [j] = wipe σ [j] ∧ _
    refine ⟨by simp [wipe, List.set_set], F2, env.set j .no, by simpa [wipe, List.set_set] using rel, ?_⟩
    show Aft _ _ _ (evTA G .nil (env.set j .no)) _
    unfold evTA
    intro F4 H4 e4
    refine (if_pos rfl).mpr ?_
    refine ⟨F4, env.set j .no, by simpa [wipe, List.set_set] using rel.ext e4, ?_⟩
    rw [hy]
    intro F5 H5 e5 va rva
    refine ⟨w, ?_, (by show 2 ≤ sizeLine; rw [sizeLine_eq]; decide), fun T nT => ?_⟩
    · have := r.ra.len
      show ((wipe σ [j]).set j (some w))[j]? = some (some w)
      simp only [wipe, List.set_set]
      exact List.getElem?_set_self (by omega)
    have e05 := (e.trans e4).trans e5
    have e45 := e4.trans e5
    have isa := rva.is e5.s
    have g5 : F5 Dl = none := e45.gone d1 (by rw [d2]; intro z; cases z)
    have h5 : H5 Dl = some (.lst acc) := e45.h _ _ d2
    have hq5 : H5 q = some (.lst S) := e45.h _ _ d3
    have nTD : Dl ≠ T := fun z => by rw [z, nT] at h5; cases h5
    have nTq : q ≠ T := fun z => by rw [z, nT] at hq5; cases hq5
    have o1' := own_ext_L o1 e45
    have od' := own_ext od e45
    have or' := own_ext_L or e45
    have ku : ∀ b, F5 b = none → H5 b ≠ none → b ≠ Dl → F5 b = none ∧ upd (upd H5 T (.tup [va, w])) Dl (.lst (acc ++ [.ref T])) b = H5 b := fun b q1 q2 q3 => ⟨q1, by rw [upd_ne q3, upd_ne fun z => q2 (by rw [z]; exact nT)]⟩
    have ll := lim_lt
    have la : acc.length = k := by
      rw [o1.len, List.length_map, List.length_take]
      omega
    refine ⟨acc, by rw [upd_ne nTD]; exact h5, by omega, rfl, by omega, F5, acc ++ [.ref T], fq1 ++ (T :: fd), fr2, ((e05.trans (Ext.new0 e5.s nT)).mut hD0 g5), g5, upd_same, by rw [upd_ne nqD, upd_ne nTq]; exact hq5, ?_, ?_, ?_, ?_, ?_, ?_, ?_⟩
    · rw [List.take_succ, List.getElem?_eq_getElem hkd, List.map_append]
      refine OwnL.app (.one ?_) (o1'.keep fun b hb => ku b (o1'.at b hb).1 (o1'.at b hb).2 fun z => n1 (by rw [← z]; exact hb)) fun b hb z => ?_
      · have o2 := od'.keep fun b hb => ku b (od'.at b hb).1 (od'.at b hb).2 fun z => n2 (by rw [← z]; exact List.mem_append_left _ hb)
        simp only [Own]
        refine ⟨T, [va, w], fd, rfl, rfl, fun z => (od'.at T z).2 nT, e5.s.free nT, by rw [upd_ne (fun z => nTD z.symm)]; exact upd_same, ?_⟩
        simp only [OwnL]
        refine ⟨va, [w], [], fd, rfl, rfl, (fun a z => by cases z), own_scal (by rw [hcy]; exact isa) (by rw [hcy]; exact hsc), w, [], fd, [], rfl, by simp, (fun a _ z => by cases z), o2, rfl, rfl⟩
      · rcases List.mem_cons.mp z with rfl | z
        · exact (o1'.at b hb).2 nT
        · exact dj b hb (List.mem_append_left _ z)
    · exact or'.keep fun b hb => ku b (or'.at b hb).1 (or'.at b hb).2 fun z => n2 (by rw [← z]; exact List.mem_append_right _ hb)
    · intro b hb z
      rcases List.mem_append.mp hb with hb | hb
      · exact dj b hb (List.mem_append_right _ z)
      · rcases List.mem_cons.mp hb with rfl | hb
        · exact (or'.at b z).2 nT
        · exact dj2 b hb z
    · intro z
      rcases List.mem_append.mp z with z | z
      · exact n1 z
      · rcases List.mem_cons.mp z with z | z
        · exact nTD z
        · exact n2 (List.mem_append_left _ z)
    · exact fun z => n2 (List.mem_append_right _ z)
    · intro b hb
      rcases List.mem_append.mp hb with hb | hb
      · exact a1 b hb
      · rcases List.mem_cons.mp hb with rfl | hb
        · exact r.ext.h.free (e05.h.free nT)
        · exact a2 b (List.mem_append_left _ hb)
    · exact fun b hb => a2 b (List.mem_append_right _ hb)
  · have ek : k = S.length := by omega
    subst ek
    refine .inl ⟨⟨S, (LL.of (K := X.K) d3).seq, Nat.le_refl _⟩, p4 (.ref Dl) F2 H2 (r.ext.trans e) ⟨Dl :: fq1, fun b hb => ?_, ?_⟩⟩
    · rcases List.mem_cons.mp hb with rfl | hb
      · exact r.ext.h.free hD0
      · exact a1 b hb
    · rw [lS, List.take_length] at o1
      simp only [Own]
      exact ⟨Dl, acc, fq1, rfl, rfl, n1, d1, d2, o1⟩
end
theorem itemsS_ok {d : D} {ds : List D} (h : itemsR d = .ok ds) : items d = some ds := by
  unfold itemsR at h
  split at h
  · next h' => cases h; exact h'
  · cases h
theorem itemsS_exc {d : D} : ∀ c, itemsR d ≠ .exc c := fun c h => by
  unfold itemsR at h
  split at h <;> cases h
/-- an own tree's item taken out; the rest is given up -/
theorem RelA.movX {K : PySem.W.Frag} {A F H : Hp} {σ : L2.St} {env : Env} (r : RelA K A F H σ env) {i j : Nat} {d c : D} {v w : V} (h : env[j]? = some (.od d)) (hv : σ[j]? = some (some v)) (n : i ≠ j) (hw : ∀ fp, Own K F H d v fp → ∃ f, Own K F H c w f ∧ ∀ a ∈ f, a ∈ fp) : RelA K A F H (σ.set i (some w)) ((env.set j .no).set i (.od c)) := by
  have hj := lt_of_get h
  by_cases hi : i < env.length
  case neg =>
    rw [List.set_eq_of_length_le (by rw [← r.len]; omega), List.set_eq_of_length_le (by rw [List.length_set]; omega)]
    have := r.any (i := j) (v := some v)
    rwa [set_get_same hv] at this
  exact r.change hi j r.sub (Same.refl F) fun fps h1 h2 h3 => by
    obtain ⟨w', h4, h5⟩ := h1 j _ h
    rw [hv] at h4
    cases h4
    obtain ⟨f, o, k⟩ := hw _ h5
    exact ⟨f, ⟨w, rfl, o⟩, fun a ha => (h3 j hj a (k a ha)).1, fun l n1 n2 hl a ha => ⟨fun z => h2 l j n2 hl hj a ha (k a z), (h3 l hl a ha).2.1, rfl⟩⟩
section
variable {cref : Str → Value} {n : Nat} {G : Gam} {bs cs N : List Str} {X : Cx} {W : Wd} {sc : Scope}
theorem sMovX (wn : Nat) {i j : Nat} {e : Ex} {st : Stmt} (ft : SFit X W cref n G bs cs N sc) (h : kMovX N bs sc i j e st = true) : PS X st (tS X.K W G wn (.movX i j e)) := by
  unfold kMovX at h
  split at h
  case h_2 => cases h
  simp only [Bool.and_eq_true] at h
  obtain ⟨⟨⟨h1, h2⟩, h3⟩, h4⟩ := h
  obtain ⟨a, b, c⟩ := st_of ft.hN ft.hsc (fun x _ => ft.fn x) h1
  have hN : X.N.Nodup := by rw [ft.hN]; exact ft.nd
  refine ps_imp (ps_set hN a b (pe_ix ix_seq (vr_ok ft h2) (sE e ft.toFit h4) (plainIx_of h3)) rfl c) fun E σ H q => ?_
  obtain ⟨B0, A0, F, env, r, p⟩ := q
  unfold evS at p
  obtain ⟨d, hd, p⟩ := p.ok odD_exc
  have hd := odD_ok hd
  obtain ⟨v, fp, hv, o, na⟩ := r.ra.ods hd
  refine ⟨v, hv, r.aftE p fun x F1 H1 v1 e1 rv1 s1 p => ?_⟩
  obtain ⟨k, hk, p⟩ := p.isInt
  have iv1 := rv1.is e1.s
  rw [hk] at iv1
  cases is_int iv1
  obtain ⟨ds, hds, p⟩ := p.ok itemsS_exc
  have hds := itemsS_ok hds
  obtain ⟨⟨m, y⟩, hm, p⟩ := p.ok placed_exc
  obtain ⟨m1, m2⟩ := placed_ok hm
  by_cases hij : i ≠ j
  · rw [if_pos hij] at p
    have o1 := own_ext o e1
    obtain ⟨pa, vs, w, f, rfl, g1, g2, g3, g4, g5, _⟩ := o1.part hds m2
    have ea : atI vs k = some w := by
      unfold atI
      rw [g3, m1]
      exact g2
    refine atI_ok g1 ea ?_
    refine p _ F1 H1 ⟨s1.ra.movX hd hv hij fun fp' o' => ?_, s1.ext⟩
    obtain ⟨pa', vs', w', f', q0, q1, q2, q3, q4, q5, _⟩ := o'.part hds m2
    cases q0
    have : w' = w := by
      have ev : vs' = vs := by
        rcases g1 with g1 | g1 <;> rcases q1 with q1 | q1 <;> rw [g1] at q1 <;> cases q1 <;> rfl
      rw [ev] at q2
      have q2 : vs[m]? = some w' := q2
      have g2 : vs[m]? = some w := g2
      rw [g2] at q2
      exact (Option.some.inj q2).symm
    subst this
    exact ⟨f', q4, q5⟩
  · rw [if_neg hij] at p
    exact p.elim
end
end PV

/-! PvStm: statements. -/
namespace PV
open PySem PySem.Spec PyProof.Rows L2
section
variable {cref : Str → Value} {n : Nat} {G : Gam} {bs cs N : List Str}
mutual
theorem sS (wn : Nat) : ∀ (x : Sx) {X : Cx} {W : Wd} {sc : Scope} {st : Stmt}, SFit X W cref n G bs cs N sc → chkS N bs cs sc x st = true → PS X st (tS X.K W G wn x)
  | .asg fz i e, X, W, sc, st, ft, h => by
    cases st with
    | Assign ts v pos =>
      match ts, h with
      | [tg], h =>
        cases tg with
        | Name x px =>
          simp only [chkS, Bool.and_eq_true] at h
          obtain ⟨⟨h1, hti⟩, h2⟩ := h
          have h := And.intro h1 h2
          obtain ⟨a, b, c⟩ := st_of ft.hN ft.hsc (fun x _ => ft.fn x) h.1
          have hN : X.N.Nodup := by rw [ft.hN]; exact ft.nd
          by_cases hl : ∃ a b c d, v = .ListComp a b c d
          · obtain ⟨a1, a2, a3, a4, rfl⟩ := hl
            rcases swaps_lc (a := a1) (b := a2) (c := a3) (d := a4) (p := px) (x := x) (n := pos.line) (env := X.env) with z | ⟨z, y⟩
            · exact ps_imp (ps_set hN a b (sE e ft.toFit h.2) z c) fun E σ H q => asg_read q
            · cases e with
              | cpr own tg src c e => exact ps_imp (sLc ft h.2 a y z) fun E σ H q => asg_read q
              | trI e => cases hti
              | _ => simp [chkE, frzE, isLC] at h
          · exact ps_imp (ps_set hN a b (sE e ft.toFit h.2) (swaps_name h.2 fun a b c d z => hl ⟨a, b, c, d, z⟩) c) fun E σ H q => asg_read q
        | _ => simp [chkS] at h
      | [], h => simp [chkS] at h
      | a :: _ :: _, h => cases a <;> first | (cases h; done) | (rename_i u _ _; cases u <;> cases h)
    | _ => simp [chkS] at h
  | .asgT fz is e, X, W, sc, st, ft, h => by
    cases st with
    | Assign ts v pos =>
      match ts, h with
      | [tg], h =>
        cases tg with
        | Tuple es k px =>
          simp only [chkS, Bool.and_eq_true, Bool.not_eq_true', decide_eq_true_eq] at h
          obtain ⟨⟨⟨hr, h1⟩, h2⟩, h3⟩ := h
          have h : (chkTg.go N sc (fun _ => true) is es = true ∧ isTupE v = false) ∧ chkE N bs e sc v = true := ⟨⟨h1, h2⟩, h3⟩
          refine ps_imp (ps_asg (sE e ft.toFit h.2) (pg_of (tg := .tp is) (cok := fun _ => true) ft.hN ft.nd ft.hsc (fun x _ => ft.fn x) (ft.calm hr) (by simpa only [chkTg] using h.1.1)) (swaps_tup (a := es) (k := k) (p := px) (n := pos.line) (env := X.env)) (stores_tup h.1.2)) fun E σ H q => ?_
          obtain ⟨B0, A0, F, env, r, p⟩ := q
          unfold evS at p
          obtain ⟨F0, r0⟩ := r.frz (fz := fz)
          refine r0.aftE p fun x F' H' v e rv s p => ?_
          cases hb : bindT (.tp is) ((nt x.1 x.2).dm, x.2) (frz fz env) with
          | none => rw [hb] at p; exact p.elim
          | some e2 =>
            rw [hb] at p
            have hd : (nt x.1 x.2).dm = .sh := by
              cases hz : (nt x.1 x.2).dm <;> first | rfl | (rw [hz] at hb; cases x.2 <;> cases hb)
            obtain ⟨F2, x2, _, i2⟩ := res_dm2 e (rv.nt e.s) hd
            exact (r0.next x2).bind i2 hb fun σ2 r2 => p _ _ _ r2
        | _ => simp [chkS] at h
      | [], h => simp [chkS] at h
      | a :: _ :: _, h => cases a <;> first | (cases h; done) | (rename_i u _ _; cases u <;> cases h)
    | _ => simp [chkS] at h
  | .aug i o e, X, W, sc, st, ft, h => by
    cases st with
    | AugAssign tg op v pos =>
      cases tg with
      | Name x px =>
        simp only [chkS, Bool.and_eq_true, decide_eq_true_eq] at h
        obtain ⟨⟨⟨h0, rfl⟩, h1⟩, h2⟩ := h
        obtain ⟨a, b, c⟩ := st_of ft.hN ft.hsc (fun x _ => ft.fn x) h1
        have hN : X.N.Nodup := by rw [ft.hN]; exact ft.nd
        have rd : ∀ (f : Int → Int → Int), (∀ i j r, augB o (.int i) (.int j) = .ok r → r = .int (f i j)) → ∀ E σ H, tS X.K W G wn (.aug i o e) E σ H → tAug i (tE X.K W G e) (ipI f) E σ H := fun f hf E σ H q => by
          obtain ⟨B0, A0, F, env, r, p⟩ := q
          unfold evS at p
          obtain ⟨d, hd, p⟩ := p.ok shD_exc
          obtain ⟨w, hw, iw⟩ := r.rel.shs (shD_ok hd)
          refine ⟨w, hw, r.aftE p fun x F' H' v e rv s p => ?_⟩
          obtain ⟨z, hz, p⟩ := p.ok augB_exc
          obtain ⟨m, k, rfl, hk, _⟩ := augB_ok hz
          have iv := rv.is e.s
          rw [hk] at iv hz
          have hz' := hf m k z hz
          subst hz'
          exact ⟨m, k, is_int iw, is_int iv, p _ _ _ (s.set int_is)⟩
        cases o <;> first | (cases h0; done) | skip
        · exact ps_imp (ps_aug hN a b (sE e ft.toFit h2) ip_add c) (rd _ fun i j r z => by cases z; rfl)
        · exact ps_imp (ps_aug hN a b (sE e ft.toFit h2) ip_sub c) (rd _ fun i j r z => by cases z; rfl)
      | _ => simp [chkS] at h
    | _ => simp [chkS] at h
  | .augX i o kx e, X, W, sc, st, ft, h => by
    cases st with
    | AugAssign tg op v pos =>
      cases tg with
      | Subscript ob sx px =>
        cases ob with
        | Name x px2 =>
          simp only [chkS, Bool.and_eq_true, decide_eq_true_eq] at h
          obtain ⟨⟨⟨⟨⟨⟨⟨h0, rfl⟩, h1⟩, h2⟩, h3⟩, h4⟩, h5⟩, h6⟩ := h
          have pv : PE X (.Name x px2) (tVar i) := ft.nm h1 h2 h3
          have ha : ∀ ov iv new, augStore sx ov iv new = (do holding [new, ov, iv] (setItem ov iv new); release [new, ov, iv] []; pure .next) := by
            cases sx <;> first | (intros; rfl) | cases h4
          have rd : ∀ (f : Int → Int → Int), (∀ i j r, augB o (.int i) (.int j) = .ok r → r = .int (f i j)) → ∀ E σ H, tS X.K W G wn (.augX i o kx e) E σ H → tAugS (tVar i) (tE X.K W G kx) (tE X.K W G e) rGetL (ipI f) rSetL E σ H := fun f hf E σ H q => by
            obtain ⟨B0, A0, F, env, r, p⟩ := q
            unfold evS at p
            obtain ⟨ds, hd, p⟩ := p.ok ownL_exc
            have hd := ownL_ok hd
            obtain ⟨pa, hpa, rt⟩ := r.rel.own hd
            refine ⟨_, hpa, r.aftE p fun x1 F1 H1 v1 e1 rv1 s1 p => ?_⟩
            obtain ⟨k, hk, p⟩ := p.isInt
            obtain ⟨jd, hj, p⟩ := p.ok placed_exc
            obtain ⟨hj1, hj2⟩ := placed_ok hj
            have iv1 := rv1.is e1.s
            rw [hk] at iv1
            obtain ⟨f1, vs, hvs, hL⟩ := rt.mono e1
            obtain ⟨w, hw, iw⟩ := hL.get hj2
            refine ⟨pa, vs, k, jd.1, w, rfl, is_int iv1, hvs, by rw [hL.len]; exact hj1, hw, s1.aftE p fun x2 F2 H2 v2 e2 rv2 s2 p => ?_⟩
            obtain ⟨z, hz, p⟩ := p.ok augB_exc
            obtain ⟨m, k2, hm, hk2, _⟩ := augB_ok hz
            have iv2 := rv2.is e2.s
            rw [hk2] at iv2
            rw [hm] at iw
            rw [hm, hk2] at hz
            have hz' := hf m k2 z hz
            subst hz'
            have rt2 := (rt.mono e1).mono e2
            obtain ⟨f2, vs2, hvs2, hL2⟩ := id rt2
            refine ⟨m, k2, is_int iw, is_int iv2, pa, vs2, k, jd.1, rfl, is_int iv1, hvs2, by rw [hL2.len]; exact hj1, ?_⟩
            exact p _ _ _ (s2.write hd hpa rt2 (hL2.set jd.1 int_is))
          cases o <;> first | (cases h0; done) | skip
          · exact ps_imp (ps_augS pv (sE kx ft.toFit h5) get_listO (sE e ft.toFit h6) ip_add set_list ha) (rd _ fun i j r z => by cases z; rfl)
          · exact ps_imp (ps_augS pv (sE kx ft.toFit h5) get_listO (sE e ft.toFit h6) ip_sub set_list ha) (rd _ fun i j r z => by cases z; rfl)
        | _ => simp [chkS] at h
      | _ => simp [chkS] at h
    | _ => simp [chkS] at h
  | .setX fz i kx e, X, W, sc, st, ft, h => by
    cases st with
    | Assign ts v pos =>
      match ts, h with
      | [tg], h =>
        cases tg with
        | Subscript ob sx px =>
          cases ob with
          | Name x px2 =>
            simp only [chkS, Bool.and_eq_true, decide_eq_true_eq] at h
            obtain ⟨⟨⟨⟨⟨h1, h2⟩, h3⟩, h4⟩, h5⟩, h6⟩ := h
            have pv : PE X (.Name x px2) (tVar i) := ft.nm h1 h2 h3
            have pg : PG X (.Subscript (.Name x px2) sx px) (gSub (tVar i) (tE X.K W G kx) rSetL) := by
              refine pg_sub pv (sE kx ft.toFit h5) set_list ?_
              cases sx <;> first | (intro _; rfl) | cases h4
            refine ps_imp (ps_asg (sE e ft.toFit h6) pg (swaps_two (a := .Name x px2) (b := sx) (p := px) (n := pos.line) (env := X.env)) stores_sub) fun E σ H q => ?_
            obtain ⟨B0, A0, F, env, r, p⟩ := q
            unfold evS at p
            obtain ⟨F0, r0⟩ := r.frz (fz := fz)
            generalize frz fz env = env at p r0
            refine r0.aftE p fun y F1 H1 v1 e1 rv1 s1 p => ?_
            obtain ⟨d, hd, p⟩ := p.ok shOnly_exc
            obtain ⟨F2, s2, i2, _⟩ := shOnly_use r0 e1 rv1 hd
            obtain ⟨ds, hds, p⟩ := p.ok ownL_exc
            have hds := ownL_ok hds
            obtain ⟨pa, hpa, rt⟩ := s2.rel.own hds
            refine ⟨_, hpa, s2.aftE p fun x3 F3 H3 v3 e3 rv3 s3 p => ?_⟩
            obtain ⟨k, hk, p⟩ := p.isInt
            obtain ⟨jd, hj, p⟩ := p.ok placed_exc
            obtain ⟨hj1, hj2⟩ := placed_ok hj
            have iv3 := rv3.is e3.s
            rw [hk] at iv3
            have rt2 := rt.mono e3
            obtain ⟨f2, vs2, hvs2, hL2⟩ := id rt2
            refine ⟨pa, vs2, k, jd.1, rfl, is_int iv3, hvs2, by rw [hL2.len]; exact hj1, ?_⟩
            exact p _ _ _ (s3.write hds hpa rt2 (hL2.set jd.1 (i2.mono e3.f)))
          | _ => simp [chkS] at h
        | _ => simp [chkS] at h
      | [], h => simp [chkS] at h
      | a :: _ :: _, h => cases a <;> first | (cases h; done) | (rename_i u _ _; cases u <;> cases h)
    | _ => simp [chkS] at h
  | .setD fz i kx e, X, W, sc, st, ft, h => by
    cases st with
    | Assign ts v pos =>
      match ts, h with
      | [tg], h =>
        cases tg with
        | Subscript ob sx px =>
          cases ob with
          | Name x px2 =>
            simp only [chkS, Bool.and_eq_true, decide_eq_true_eq] at h
            obtain ⟨⟨⟨⟨⟨h1, h2⟩, h3⟩, h4⟩, h5⟩, h6⟩ := h
            have pv : PE X (.Name x px2) (tVar i) := ft.nm h1 h2 h3
            have hu : X.A.units + 1 < cLine := by
              have := ft.un
              omega
            have pg : PG X (.Subscript (.Name x px2) sx px) (gSub (tVar i) (tE X.K W G kx) rSetD) := by
              refine pg_sub pv (sE kx ft.toFit h5) (set_dict hu) ?_
              cases sx <;> first | (intro _; rfl) | cases h4
            refine ps_imp (ps_asg (sE e ft.toFit h6) pg (swaps_two (a := .Name x px2) (b := sx) (p := px) (n := pos.line) (env := X.env)) stores_sub) fun E σ H q => ?_
            obtain ⟨B0, A0, F, env, r, p⟩ := q
            unfold evS at p
            obtain ⟨F0, r0⟩ := r.frz (fz := fz)
            generalize frz fz env = env at p r0
            refine r0.aftE p fun y F1 H1 v1 e1 rv1 s1 p => ?_
            obtain ⟨d, hd, p⟩ := p.ok shOnly_exc
            obtain ⟨F2, s2, i2, _⟩ := shOnly_use r0 e1 rv1 hd
            obtain ⟨ds, hds, p⟩ := p.ok ownD_exc
            have hds := ownD_ok hds
            obtain ⟨pa, hpa, rt⟩ := s2.rel.own hds
            refine ⟨_, hpa, s2.aftE p fun x3 F3 H3 v3 e3 rv3 s3 p => ?_⟩
            cases hk : dkey x3.2 with
            | none => rw [hk] at p; exact p.elim
            | some kk =>
              rw [hk] at p
              have p : Post X.K B0 A0 W E (if ds.length < lim then .nx (env.set i (.ow (.dict (dPutK ds kk d)))) else .stuck) := p
              by_cases hl : ds.length < lim
              · rw [if_pos hl] at p
                have rt2 := rt.mono e3
                obtain ⟨f2, es2, hes2, hK2⟩ := id rt2
                refine ⟨pa, _, rfl, ?_, p _ _ _ (s3.writeD hds hpa rt2 (isK_put hK2 (i2.mono e3.f)))⟩
                rw [key_is (rv3.is e3.s) hk]
                exact DPut.k hes2 (by rw [isK_len hK2]; exact Nat.lt_trans hl lim_lt)
              · rw [if_neg hl] at p
                exact p.elim
          | _ => simp [chkS] at h
        | _ => simp [chkS] at h
      | [], h => simp [chkS] at h
      | a :: _ :: _, h => cases a <;> first | (cases h; done) | (rename_i u _ _; cases u <;> cases h)
    | _ => simp [chkS] at h
  | .app fz i e, X, W, sc, st, ft, h => by
    cases st with
    | Expr v pos =>
      cases v with
      | Call fn args kws cpos =>
        cases fn with
        | Attribute ob m ap =>
          cases ob with
          | Name x px =>
            match args, kws, h with
            | [y], [], h =>
              simp only [chkS, Bool.and_eq_true, decide_eq_true_eq] at h
              obtain ⟨⟨⟨⟨⟨rfl, h1⟩, h2⟩, h3⟩, h4⟩, h5⟩ := h
              have st := star_cons (es := []) (env := X.env) (chk_noStar h5)
              have pv : PE X (.Name x px) (tVar i) := ft.nm h2 h3 h4
              have pe := pe_bm (apos := ap) (cpos := cpos) PySem.F.plainAttrs_list PySem.F.slot_list_append PySem.F.type_list_append mt_append pv (pa_cons (sE e ft.toFit h5) pa_nil st) rfl (by rw [st]; rfl) (beq_iff_eq.mpr h1) st rfl
              refine ps_imp (ps_expr pe rfl) fun E σ H q => ?_
              obtain ⟨B0, A0, F, env, r, p⟩ := q
              unfold evS at p
              obtain ⟨F0, r0⟩ := r.frz (fz := fz)
              generalize frz fz env = env at p r0
              obtain ⟨ds, hds, p⟩ := p.ok ownL_exc
              have hds := ownL_ok hds
              obtain ⟨pa, hpa, rt⟩ := r0.rel.own hds
              refine ⟨_, hpa, .inl ⟨rfl, ?_⟩, r0.aftE p fun y F1 H1 v1 e1 rv1 s1 p => ?_⟩
              · obtain ⟨_, vs, hvs, _⟩ := rt
                exact ⟨vs, (LL.of (K := X.K) hvs).seq⟩
              · obtain ⟨d, hd, p⟩ := p.ok shOnly_exc
                obtain ⟨F2, s2, i2, _⟩ := shOnly_use r0 e1 rv1 hd
                obtain ⟨pa', hpa', rt2⟩ := s2.rel.own hds
                rw [hpa] at hpa'
                cases hpa'
                obtain ⟨f2, vs2, hvs2, hL2⟩ := id rt2
                by_cases hl : ds.length < lim
                · rw [if_pos hl] at p
                  refine ⟨pa, vs2, v1, rfl, rfl, hvs2, by rw [hL2.len]; exact Nat.lt_trans hl lim_lt, ?_⟩
                  exact p _ _ _ (s2.write hds hpa rt2 (hL2.app (.one i2)))
                · rw [if_neg hl] at p
                  exact p.elim
            | [], _, h => simp [chkS] at h
            | [_], _ :: _, h => simp [chkS] at h
            | _ :: _ :: _, _, h => simp [chkS] at h
          | _ => simp [chkS] at h
        | _ => simp [chkS] at h
      | _ => simp [chkS] at h
    | _ => simp [chkS] at h
  | .exp e, X, W, sc, st, ft, h => by
    cases st with
    | Expr v pos =>
      simp only [chkS, Bool.and_eq_true] at h
      refine ps_imp (ps_expr (sE e ft.toFit h.2) (by cases v <;> first | rfl | cases h.1)) fun E σ H q => ?_
      obtain ⟨B0, A0, F, env, r, p⟩ := q
      unfold evS at p
      exact r.aftE p fun x F' H' v e rv s p => p _ _ _ s
    | _ => simp [chkS] at h
  | .ifs c a b, X, W, sc, st, ft, h => by
    cases st with
    | If t x y pos =>
      simp only [chkS, Bool.and_eq_true] at h
      refine ps_imp (ps_if (sT c ft.toFit h.1.1) (sSs wn a ft h.1.2) (sSs wn b ft h.2)) fun E σ H q => ?_
      obtain ⟨B0, A0, F, env, r, p⟩ := q
      unfold evS at p
      refine ⟨F, env, r.rel, (r.aft p).imp fun t F1 H1 _ e1 ⟨s, p⟩ => ?_⟩
      cases t with
      | true => exact iteT ⟨B0, A0, F1, env, s, p⟩
      | false => exact iteF ⟨B0, A0, F1, env, s, p⟩
    | _ => simp [chkS] at h
  | .whl c a, X, W, sc, st, ft, h => by
    cases st with
    | While t x els pos =>
      cases els with
      | nil =>
        simp only [chkS, Bool.and_eq_true] at h
        exact ps_imp (ps_while ft.pass (sT c ft.toFit h.1) (sSs wn a ft h.2)) fun E σ H q => while_read q
      | cons _ _ => simp [chkS] at h
    | _ => simp [chkS] at h
  | .lop fz tg src a, X, W, sc, st, ft, h => by
    cases st with
    | For t it x els pos =>
      cases els with
      | nil =>
        simp only [chkS, Bool.and_eq_true, decide_eq_true_eq] at h
        obtain ⟨⟨⟨hr, h1⟩, h2⟩, h3⟩ := h
        have h : (chkTg N sc (fun _ => true) tg t = true ∧ chkSrc N bs src sc it t = true) ∧ chkSs N bs cs sc a x = true := ⟨⟨h1, h2⟩, h3⟩
        exact ps_imp (ps_for ft.pass (ft.calm hr) (sSrc src ft.toFit h.1.2) (pg_of (cok := fun _ => true) ft.hN ft.nd ft.hsc (fun x _ => ft.fn x) (ft.calm hr) h.1.1) (sSs wn a ft h.2) (nofold (src_noSet h.1.2))) fun E σ H q => for_read q
      | cons _ _ => simp [chkS] at h
    | _ => simp [chkS] at h
  | .ret fz e, X, W, sc, st, ft, h => by
    cases st with
    | Return v pos =>
      cases v with
      | some v =>
        simp only [chkS] at h
        refine ps_imp (ps_ret (sE e ft.toFit h)) fun E σ H q => ?_
        obtain ⟨B0, A0, F, env, r, p⟩ := q
        unfold evS at p
        obtain ⟨F0, r0⟩ := r.frz (fz := fz)
        refine r0.aftE p fun x F' H' v e rv s p => ?_
        have rv := rv.nt e.s
        split at p
        · rename_i hz
          rw [hz] at rv
          exact p v F' H' s.ext rv
        · rename_i hz
          rw [hz] at rv
          exact p v F' H' s.ext (rv.back r0.ext.h)
        · rename_i hz
          rw [hz] at rv
          exact p v F' H' s.ext (rv.back r0.ext.h)
        · exact p.elim
      | none => simp [chkS] at h
    | _ => simp [chkS] at h
  | .rtv i, X, W, sc, st, ft, h => by
    cases st with
    | Return v pos =>
      cases v with
      | some v =>
        cases v with
        | Name x px =>
          simp only [chkS] at h
          refine ps_imp (ps_ret (ft.var h)) fun E σ H q => ?_
          obtain ⟨B0, A0, F, env, r, p⟩ := q
          unfold evS at p
          split at p
          · rename_i d hd
            obtain ⟨pa, hpa, rt⟩ := r.rel.own hd
            exact ⟨_, hpa, p _ F H r.ext ⟨pa, rfl, r.ra.ownA hd hpa, rt⟩⟩
          · rename_i d hd
            obtain ⟨v, hv, iv⟩ := r.rel.shs hd
            exact ⟨_, hv, p _ F H r.ext iv⟩
          · rename_i d hd
            obtain ⟨v, fp, hv, o, n⟩ := r.ra.ods hd
            exact ⟨_, hv, p _ F H r.ext ⟨fp, n, o⟩⟩
          · exact p.elim
        | _ => simp [chkS] at h
      | none => simp [chkS] at h
    | _ => simp [chkS] at h
  | .rtn, X, W, sc, st, ft, h => by
    cases st with
    | Return v pos =>
      cases v with
      | some v => simp [chkS] at h
      | none =>
        refine ps_imp ps_retN fun E σ H q => ?_
        obtain ⟨B0, A0, F, env, r, p⟩ := q
        unfold evS at p
        exact p .non F H r.ext (show Is X.K F .none .non by simp only [Is])
    | _ => simp [chkS] at h
  | .brk, X, W, sc, st, ft, h => by
    cases st with
    | Break pos => exact ps_imp ps_break fun E σ H ⟨B0, A0, F, env, r, p⟩ => (show Post X.K B0 A0 W E (.brk env) by unfold evS at p; exact p) _ _ _ r
    | _ => simp [chkS] at h
  | .cnt, X, W, sc, st, ft, h => by
    cases st with
    | Continue pos => exact ps_imp ps_continue fun E σ H ⟨B0, A0, F, env, r, p⟩ => (show Post X.K B0 A0 W E (.cnt env) by unfold evS at p; exact p) _ _ _ r
    | _ => simp [chkS] at h
  | .pas, X, W, sc, st, ft, h => by
    cases st with
    | Pass pos => exact ps_imp ps_pass fun E σ H ⟨B0, A0, F, env, r, p⟩ => (show Post X.K B0 A0 W E (.nx env) by unfold evS at p; exact p) _ _ _ r
    | _ => simp [chkS] at h
  | .rai c, X, W, sc, st, ft, h => by
    cases st with
    | Raise e cause pos =>
      cases cause with
      | none =>
        cases e with
        | some e =>
          have h0 : (decide (("range" : Str) ∈ bs) && chkR sc cs c e) = true := h
          clear h
          rw [Bool.and_eq_true] at h0
          obtain ⟨hr0, h⟩ := h0
          have hr := of_decide_eq_true hr0
          clear hr0
          cases e with
          | Call fn args kws pos =>
            cases fn with
            | Name x px =>
              match args, kws, h with
              | [y], [], h =>
                cases y with
                | Constant cc k p2 =>
                  cases cc with
                  | str m =>
                    simp only [chkS, chkR, Bool.and_eq_true, decide_eq_true_eq] at h
                    obtain ⟨⟨⟨rfl, h1⟩, h2⟩, h3⟩ := h
                    obtain ⟨C, hC⟩ := ft.gc.exs x h3
                    refine ps_imp (ps_raise (ft.calm hr) ft.tk (pmk_own PySem.F.excBase_ValueError hC.ex hC.mg hC.kp (raises_own hC.sb hC.ty) (ft.gl h1) (nm_of h2).1)) fun E σ H q => ?_
                    obtain ⟨B0, A0, F, env, r, p⟩ := q
                    unfold evS at p
                    exact ⟨rfl, x, hC.cr.symm, p _ _ _ r⟩
                  | _ => simp [chkS, chkR] at h
                | _ => simp [chkS, chkR] at h
              | [], _, h => simp [chkS, chkR] at h
              | [y], _ :: _, h => cases y <;> first | (cases h; done) | (rename_i cc _ _; cases cc <;> cases h)
              | y :: _ :: _, k, h => cases y <;> first | (cases h; done) | (rename_i cc _ _; cases cc <;> cases h)
            | _ => simp [chkS, chkR] at h
          | _ => simp [chkS, chkR] at h
        | none => cases h
      | some _ => cases e <;> cases h
    | _ => simp [chkS, chkR] at h
  | .asgO fz i e, X, W, sc, st, ft, h => sAsgO wn ft (by simpa only [chkS] using h)
  | .appO fz i e, X, W, sc, st, ft, h => sAppO wn ft (by simpa only [chkS] using h)
  | .rtp a i, X, W, sc, st, ft, h => sRtp wn ft (by simpa only [chkS] using h)
  | .appP i a j, X, W, sc, st, ft, h => sAppP wn ft (by simpa only [chkS] using h)
  | .mov i j, X, W, sc, st, ft, h => sMov wn ft (by simpa only [chkS] using h)
  | .movX i j e, X, W, sc, st, ft, h => sMovX wn ft (by simpa only [chkS] using h)
  | .setXX i k l e, X, W, sc, st, ft, h => sSetXX wn ft (by simpa only [chkS] using h)
  | .appX i k e, X, W, sc, st, ft, h => sAppX wn ft (by simpa only [chkS] using h)
  | .lopA i j k c, X, W, sc, st, ft, h => sLopA wn ft (by simpa only [chkS] using h)
  | .lopS i j k l e, X, W, sc, st, ft, h => sLopS wn ft (by simpa only [chkS] using h)
  | .ins fz i k e, X, W, sc, st, ft, h => sIns wn ft (by simpa only [chkS] using h)
  | .sda i k e, X, W, sc, st, ft, h => sSda wn ft (by simpa only [chkS] using h)
  | .appT i j, X, W, sc, st, ft, h => sAppT wn ft (by simpa only [chkS] using h)
  | .lopP fz i j e x c, X, W, sc, st, ft, h => sLopP wn ft (by simpa only [chkS] using h)
  | .chg i l e, X, W, sc, st, ft, h => sChg wn ft (by simpa only [chkS] using h)
  | .tryA i ks hs b, X, W, sc, st, ft, h => by
    cases st with
    | Try body hds els fin pos =>
      match body, els, fin, h with
      | [x], [], [], h =>
        simp only [chkS, Bool.and_eq_true, decide_eq_true_eq] at h
        obtain ⟨⟨⟨⟨h1, h2⟩, h3⟩, h4⟩, h5⟩ := h
        exact sTry wn ft h1 (fun c hc => of_decide_eq_true (List.all_eq_true.mp h2 c hc)) h3 h4 fun W' pn xe tk po => sS wn b { toFit := { gc := ft.gc, hN := ft.hN, nd := ft.nd, hsc := ft.hsc, calm := ft.calm, un := ft.un, rm := ft.rm, rp := ft.rp, gd := ft.gd, tk := tk }, fn := ft.fn, pass := po, stk := ft.stk, frm := ft.frm } h5
      | [], _, _, h => simp [chkS] at h
      | _ :: _ :: _, _, _, h => simp [chkS] at h
      | [_], _ :: _, _, h => simp [chkS] at h
      | [_], [], _ :: _, h => simp [chkS] at h
    | _ => simp [chkS] at h
  | .tryK y ks v b, X, W, sc, st, ft, h => by
    unfold chkS at h
    split at h
    all_goals (try contradiction)
    rename_i heq
    cases heq
    simp only [Bool.and_eq_true, decide_eq_true_eq] at h
    obtain ⟨⟨⟨⟨⟨⟨⟨h1, h2⟩, rfl⟩, h3⟩, h4⟩, h5⟩, rfl⟩, h6⟩ := h
    exact sTryK wn ft h1 (fun c hc => of_decide_eq_true (List.all_eq_true.mp h2 c hc)) h3 h4 h5 fun W' pn xe tk po => sS wn b { toFit := { gc := ft.gc, hN := ft.hN, nd := ft.nd, hsc := ft.hsc, calm := ft.calm, un := ft.un, rm := ft.rm, rp := ft.rp, gd := ft.gd, tk := tk }, fn := ft.fn, pass := po, stk := ft.stk, frm := ft.frm } h6
  | .rts f i, X, W, sc, st, ft, h => sRts wn ft (by simpa only [chkS] using h)
  | .rtc x j i a, X, W, sc, st, ft, h => sRtc wn ft (by simpa only [chkS] using h)
  | .apc e c, X, W, sc, st, ft, h => sApc wn ft (by simpa only [chkS] using h)
  | .alS i j c pl k q e, X, W, sc, st, ft, h => by
    simp only [chkS] at h
    cases h
termination_by x => sizeOf x
theorem sSs (wn : Nat) : ∀ (x : List Sx) {X : Cx} {W : Wd} {sc : Scope} {st : List Stmt}, SFit X W cref n G bs cs N sc → chkSs N bs cs sc x st = true → PSs X st (tSs X.K W G wn x)
  | [], X, W, sc, st, ft, h => by
    cases st with
    | nil => exact pss_imp pss_nil fun E σ H ⟨B0, A0, F, env, r, p⟩ => (show Post X.K B0 A0 W E (.nx env) by unfold evSs at p; exact p) _ _ _ r
    | cons _ _ => simp [chkSs] at h
  | s :: l, X, W, sc, st, ft, h => by
    cases st with
    | nil =>
      unfold chkSs at h
      split at h <;> cases h
    | cons a b =>
      unfold chkSs at h
      cases ha : alOf s with
      | some z =>
        obtain ⟨i, j, c, pl, k, q, e⟩ := z
        have hs := alOf_eq ha
        subst hs
        rw [ha] at h
        match b, h with
        | x2 :: x3 :: x4 :: xs, h =>
          simp only [Bool.and_eq_true] at h
          exact sAlS wn ft h.1 (sSs wn l ft h.2)
        | [], h => cases h
        | [_], h => cases h
        | [_, _], h => cases h
      | none =>
        rw [ha] at h
        simp only [Bool.and_eq_true] at h
        refine pss_imp (pss_cons (sS wn s ft h.1) (sSs wn l ft h.2)) fun E σ H ⟨B0, A0, F, env, r, p⟩ => ?_
        unfold evSs at p
        exact ⟨B0, A0, F, env, r, p.seq⟩
termination_by x => sizeOf x
end
end
end PV

/-! PvDef: a def keeps the promise that the reckoning of its body gives; the law's end. -/
namespace PV
open PySem PySem.Spec PyProof.Rows L2

section
variable {P : Program} {w : World} {K : PySem.W.Frag} {mg : Str → Option Value} {base : Heap} {cref : Str → Value} {G : Gam} {bs cs : List Str}
theorem FnG.mono {j k : Nat} {f : Addr} {fd : FuncData} {ps : List Str} {sp : Sp} (F : FnG P w K mg base j f fd ps sp) (h : j ≤ k) : FnG P w K mg base k f fd ps sp :=
  ⟨F.len, fun A outer s H args us vs Q E hr hg he hb hv hs => F.run A outer s H args us vs Q E (hr.mono h) hg he hb hv hs⟩
theorem GC.mono {j k : Nat} (g : GC P w K mg base cref j G bs cs) (h : j ≤ k) : GC P w K mg base cref k G bs cs :=
  ⟨g.blt, fun x e hn hx => by
    obtain ⟨f, fd, ps, h1, h2, h3, h4, h5⟩ := g.fns x e hn hx
    exact ⟨f, fd, ps, h1, h2, h3, h4.mono h, h5⟩, fun x k e hx => by
    obtain ⟨f, fd, ps, m, h1, h2, h3, h4, h5, h6⟩ := g.kwf x k e hx
    exact ⟨f, fd, ps, m, h1, h2, h3, h4.mono h, h5, h6⟩, g.exs, fun e hx => by
    obtain ⟨f, fd, h1, h2, h3, h4⟩ := g.chg e hx
    exact ⟨f, fd, h1, h2, h3, h4.mono h⟩, g.err, g.con, fun x e hx => by
    obtain ⟨f, fd, ps, dus, dvs, dds, g0, h1, h2, h3, h4, h5, h6, h7⟩ := g.dfl x e hx
    exact ⟨f, fd, ps, dus, dvs, dds, g0, h1, h2, h3, h4, h5, h6.mono h, h7⟩⟩
def Gam.none : Gam := fun _ => Option.none
def Gam.add (G : Gam) (x : Str) (g : List D → R TD) : Gam := fun y => if y = x then some g else G y
theorem GC.nil (h1 : ∀ x ∈ bs, mg x = none) (h2 : ∀ c ∈ cs, ∃ C, ExcC K mg cref c C) (h3 : ("!try" : Str) ∈ bs → ∀ c ∈ cs, ErrF K mg cref cs c) : GC P w K mg base cref 0 Gam.none bs cs := ⟨h1, fun x g _ h => (by cases h), fun x k g h => (by cases h), h2, fun g h => (by cases h), h3, fun x g h => (by cases h), fun x g h => (by cases h)⟩
theorem evDef_len {W sz k : Nat} {b : List Sx} (ds : List D) (h : evDef G W sz k b ds ≠ .stuck) : ds.length = k := by
  by_cases c : ds.length = k
  · exact c
  · unfold evDef at h
    rw [if_pos c] at h
    exact absurd rfl h
theorem GC.add {k : Nat} {x : Str} {g : List D → R TD} {f : Addr} {fd : FuncData} {ps : List Str} (gc : GC P w K mg base cref k G bs cs) (h1 : mg x = some (.ref f)) (h2 : PySem.W.keepIn K (.ref f) = true) (h3 : Binds K fd ps [])
    (h4 : FnG P w K mg base k f fd ps (spD K cref ps.length g)) (h5 : ∀ ds, g ds ≠ .stuck → ds.length = ps.length) (hx : bang x = false := by decide +kernel) : GC P w K mg base cref k (G.add x g) bs cs := by
  refine ⟨gc.blt, fun y e hn he => ?_, fun y z e he => gc.kwf y z e (by unfold Gam.add at he; rwa [if_neg (fun q => by rw [← q, bang_kwn] at hx; cases hx)] at he), gc.exs, fun e he => gc.chg e (by unfold Gam.add at he; rwa [if_neg (fun z => by rw [← z] at hx; exact absurd hx (by decide +kernel))] at he), gc.err,
    fun y e he => gc.con y e (by unfold Gam.add at he; rwa [if_neg (fun z => by rw [← z, bang_cgn] at hx; cases hx)] at he), fun y e he => gc.dfl y e (by unfold Gam.add at he; rwa [if_neg (fun z => by rw [← z, bang_dfn] at hx; cases hx)] at he)⟩
  unfold Gam.add at he
  by_cases c : y = x
  · subst c
    rw [if_pos rfl] at he
    cases he
    exact ⟨f, fd, ps, h1, h2, h3, h4, h5⟩
  · rw [if_neg c] at he
    exact gc.fns y e hn he
theorem ne_chg (x k : Str) : kwn x k ≠ "!changed" := fun h => by
  have := congrArg (fun s : Str => s.cps.toList) h
  have e : (("!changed" : Str).cps.toList) = [33, 99, 104, 97, 110, 103, 101, 100] := by decide +kernel
  have this : (kwn x k).cps.toList = (("!changed" : Str).cps.toList) := this
  rw [e] at this
  have t2 : 33 :: x.cps.size :: (x.cps.toList ++ k.cps.toList) = [33, 99, 104, 97, 110, 103, 101, 100] := by simpa [kwn] using this
  obtain ⟨h1, h2⟩ := List.cons.inj (List.cons.inj t2).2
  have h3 := congrArg List.length h2
  rw [List.length_append, Array.length_toList, h1] at h3
  simp at h3
  omega
theorem GC.addChg {k : Nat} {f : Addr} {fd : FuncData} (gc : GC P w K mg base cref k G bs cs) (h1 : mg "changed" = some (.ref f)) (h2 : PySem.W.keepIn K (.ref f) = true) (h3 : Binds K fd ["counts", "place", "change"] [])
    (h4 : FnG P w K mg base k f fd ["counts", "place", "change"] spCh) : GC P w K mg base cref k (G.add "!changed" fun _ => .stuck) bs cs :=
  ⟨gc.blt, fun y e hn he => gc.fns y e hn (by unfold Gam.add at he; rwa [if_neg (fun z => by rw [z] at hn; exact absurd hn (by decide +kernel))] at he), fun y z e he => gc.kwf y z e (by unfold Gam.add at he; rwa [if_neg (ne_chg y z)] at he), gc.exs, fun _ _ => ⟨f, fd, h1, h2, h3, h4⟩, gc.err, fun y e he => gc.con y e (by unfold Gam.add at he; rwa [if_neg cgn_chg] at he), fun y e he => gc.dfl y e (by unfold Gam.add at he; rwa [if_neg dfn_chg] at he)⟩
theorem kbn_of {x qual : Str} {st : Stmt} {f : Addr} {fd : FuncData} {ps : List Str} {m : Nat} {k : Str} (F : L2.Fun K x qual st f fd)
    (h : ∀ (kV doc pm : Value) (an : Option Addr) (cdv ct : Value) (us ws : List Value), us.length = m → ws.length = 1 → bindArgs (PySem.W.fnOf x qual (defArgs st) (defBody st) (defScope st) .none kV doc pm an cdv ct) ⟨us, [k].zip ws⟩ = pure (ps.zip (us ++ ws))) :
    KBn K fd ps m [k] (fun us ws => us ++ ws) (fun vs zs => vs ++ zs) := by
  obtain ⟨oc, od, kV, doc, pm, an, cdv, ct, osl, rfl, lk, hcd⟩ := F.ex
  exact ⟨fun s us ws _ h1 h2 => .of_eq (h kV doc pm an cdv ct us ws h1 h2), fun r z => r.append z⟩
/-- a def whose last parameter is given by its name -/
theorem GC.addK {lv m : Nat} {x k : Str} {g : List D → R TD} {f : Addr} {fd : FuncData} {ps : List Str} (gc : GC P w K mg base cref lv G bs cs) (h1 : mg x = some (.ref f)) (h2 : PySem.W.keepIn K (.ref f) = true) (h3 : KBn K fd ps m [k] (fun us ws => us ++ ws) (fun vs zs => vs ++ zs))
    (h4 : FnG P w K mg base lv f fd ps (spD K cref ps.length g)) (h5 : ∀ ds, g ds ≠ .stuck → ds.length = ps.length) (h6 : m + 1 = ps.length) : GC P w K mg base cref lv (G.add (kwn x k) g) bs cs := by
  refine ⟨gc.blt, fun y e hn he => gc.fns y e hn (by unfold Gam.add at he; rwa [if_neg (fun z => by rw [z, bang_kwn] at hn; cases hn)] at he), fun y z e he => ?_, gc.exs, fun e he => gc.chg e (by unfold Gam.add at he; rwa [if_neg (fun z => ne_chg x k z.symm)] at he), gc.err, fun y e he => gc.con y e (by unfold Gam.add at he; rwa [if_neg cgn_kwn] at he), fun y e he => gc.dfl y e (by unfold Gam.add at he; rwa [if_neg dfn_kwn] at he)⟩
  unfold Gam.add at he
  by_cases c : kwn y z = kwn x k
  · obtain ⟨rfl, rfl⟩ := kwn_inj c
    rw [if_pos rfl] at he
    cases he
    exact ⟨f, fd, ps, m, h1, h2, h3, h4, h5, h6⟩
  · rw [if_neg c] at he
    exact gc.kwf y z e he
/-- a constant of the module -/
theorem GC.addC {lv : Nat} {x : Str} {d : D} {u : Value} {v : V} (gc : GC P w K mg base cref lv G bs cs) (h1 : mg x = some u) (h2 : RelV v u) (h3 : ∀ H, Is K H d v) : GC P w K mg base cref lv (G.add (cgn x) fun _ => .ok (.sh, d)) bs cs := by
  refine ⟨gc.blt, fun y e hn he => gc.fns y e hn (by unfold Gam.add at he; rwa [if_neg (fun z => by rw [z, bang_cgn] at hn; cases hn)] at he), fun y z e he => gc.kwf y z e (by unfold Gam.add at he; rwa [if_neg (fun q => cgn_kwn q.symm)] at he), gc.exs, fun e he => gc.chg e (by unfold Gam.add at he; rwa [if_neg (fun z => cgn_chg z.symm)] at he), gc.err, fun y e he => ?_, fun y e he => gc.dfl y e (by unfold Gam.add at he; rwa [if_neg (fun z => cgn_dfn z.symm)] at he)⟩
  unfold Gam.add at he
  by_cases c : cgn y = cgn x
  · rw [if_pos c] at he
    cases he
    rw [cgn_inj c]
    exact ⟨d, u, v, rfl, h1, h2, h3⟩
  · rw [if_neg c] at he
    exact gc.con y e he
/-- a def that may be called without its last parameter, which has a default -/
theorem GC.addD {lv : Nat} {x : Str} {g : List D → R TD} {f : Addr} {fd : FuncData} {ps : List Str} {dus : List Value} {dvs : List V} {dds : List D} (gc : GC P w K mg base cref lv G bs cs) (h1 : mg x = some (.ref f)) (h2 : PySem.W.keepIn K (.ref f) = true) (h3 : Binds K fd ps dus) (h3b : Vals dvs dus) (h3c : ∀ H, IsL K H dds dvs)
    (h4 : FnG P w K mg base lv f fd ps (spD K cref ps.length g)) (h5 : ∀ ds, g ds ≠ .stuck → ds.length = ps.length) : GC P w K mg base cref lv (G.add (dfn x) fun ds => g (ds ++ dds)) bs cs := by
  refine ⟨gc.blt, fun y e hn he => gc.fns y e hn (by unfold Gam.add at he; rwa [if_neg (fun z => by rw [z, bang_dfn] at hn; cases hn)] at he), fun y z e he => gc.kwf y z e (by unfold Gam.add at he; rwa [if_neg (fun q => dfn_kwn q.symm)] at he), gc.exs, fun e he => gc.chg e (by unfold Gam.add at he; rwa [if_neg (fun z => dfn_chg z.symm)] at he), gc.err, fun y e he => gc.con y e (by unfold Gam.add at he; rwa [if_neg cgn_dfn] at he), fun y e he => ?_⟩
  unfold Gam.add at he
  by_cases c : dfn y = dfn x
  · rw [if_pos c] at he
    cases he
    rw [dfn_inj c]
    exact ⟨f, fd, ps, dus, dvs, dds, g, h1, h2, h3, h3b, h3c, h4, fun _ => rfl, h5⟩
  · rw [if_neg c] at he
    exact gc.dfl y e he
theorem rel_start {F H : Hp} {N : List Str} {vs : List V} {ds : List D} {sz : Nat} (s : Same F H) (h : IsL K F ds vs) (hs : N.length = sz) : SRel K F H F H (L2.start N vs) (ds.map Slot.sh ++ List.replicate (sz - ds.length) Slot.no) := by
  have hl := h.len
  have sl : ∀ (i : Nat) (o : Slot), (ds.map Slot.sh ++ List.replicate (sz - ds.length) Slot.no)[i]? = some o → o = .no ∨ ∃ d, o = .sh d ∧ ds[i]? = some d := fun i o e => by
    by_cases c : i < ds.length
    · rw [List.getElem?_append_left (by simpa using c), List.getElem?_map, List.getElem?_eq_getElem c] at e
      cases e
      exact .inr ⟨_, rfl, List.getElem?_eq_getElem c⟩
    · rw [List.getElem?_append_right (by simpa using c), List.getElem?_replicate] at e
      split at e
      · cases e
        exact .inl rfl
      · cases e
  have no : ∀ (i : Nat) (d : D), (ds.map Slot.sh ++ List.replicate (sz - ds.length) Slot.no)[i]? ≠ some (.ow d) := fun i d e => by
    rcases sl i _ e with z | ⟨_, z, _⟩ <;> cases z
  refine ⟨⟨s, ?_, fun _ => [], fun i o e => ?_, (fun i j _ _ _ a z => by cases z), fun i _ a z => by cases z⟩, Ext.refl s⟩
  · unfold L2.start
    rw [List.length_append, List.length_append, List.length_map, List.length_map, List.length_replicate, List.length_replicate, hs, hl]
  · rcases sl i o e with rfl | ⟨d, rfl, hd⟩
    · rfl
    · obtain ⟨v, hv, iv⟩ := h.get hd
      refine ⟨rfl, v, ?_, iv⟩
      have hi : i < vs.length := (List.getElem?_eq_some_iff.mp hv).1
      unfold L2.start
      rw [List.getElem?_append_left (by simpa using hi), List.getElem?_map, hv]
      rfl
/-- a def by the rules of its body -/
theorem def_run {k : Nat} {f : Addr} {x qual : Str} {st : Stmt} {fd : FuncData} {N ps : List Str} {sp : Sp} (F : L2.Fun K x qual st f fd) (S : FnScope N ps (defScope st)) (gc : GC P w K mg base cref k G bs cs) (hsp0 : ∀ vs H Q E, sp vs H Q E → vs.length = ps.length)
    (go : ∀ (X : Cx) (E : XK), SFit X (fun c _ H => E (cref c) none H) cref k G bs cs N (defScope st) → X.K = K → ∃ t : TS, PSs X (defBody st) t ∧ ∀ vs H Q, sp vs H Q E → t { nx := fun _ H' => Q .non H', rt := Q } (L2.start N vs) H) : FnG P w K mg base (k + 1) f fd ps sp := by
  obtain ⟨oc, od, kV, doc, pm, an, cdv, ct, osl, rfl, lk, hcd⟩ := F.ex
  refine ⟨hsp0, fun A outer s H args us vs Q E hr hg env hb r hsp => ?_⟩
  have keepB := fun b o e => (env.bs b o e).1
  have KX := env.mod.kin.keeps keepB
  have noL := env.mod.nolimit.keeps keepB
  refine codeAny_call_function hr.depth (KX _ _ lk) rfl S.co S.gen rfl (PySem.W.codeRec_of KX hcd) (hb _ _ _ _ ?_)
  have kinds : ∀ y ∈ ps.zip us, (defScope st).names.lookup y.1 = some .local ∨ ((defScope st).names.lookup y.1 = some .cell ∧ ((cellsFrom (s.heap.objs.size + 1) (defScope st).names []).lookup y.1).isSome = true) := by
    intro y hy
    obtain ⟨n, v⟩ := y
    exact (S.par n (List.of_mem_zip hy).1).imp id fun q => ⟨q, PySem.W.cellsFrom_some _ _ _ (.inl q)⟩
  refine wpAny_newFunctionEnv_cells S.kind kinds fun ev1 he s1 fresh => ?_
  subst he
  refine ⟨noL.keeps fresh.toInCall.keep, codeAny_func ?_⟩
  have hl := hsp0 _ _ _ _ hsp
  have I0 := inv_start (CX := L2.CX P w) (E := E) S hr.hd env hl r fresh
  generalize hX : cxOf (L2.CX P w) P w K mg base N qual (defScope st) f cdv A outer s H E = X at I0
  have fit : SFit X (fun c σ H => E (cref c) none H) cref k G bs cs N (defScope st) := by
    subst hX
    exact { gc := gc, hN := rfl, nd := S.nd, hsc := rfl, calm := fun _ => rfl, un := (by have := (hr.deeper (envOfC qual (defScope st) s.heap.objs.size f cdv)).un; show (A.deeper (envOfC qual (defScope st) s.heap.objs.size f cdv)).units + 65 < cLine; omega), rm := fun _ => room_s hr _, rp := fun _ => (by have := (hr.deeper (envOfC qual (defScope st) s.heap.objs.size f cdv)).un; show (A.deeper (envOfC qual (defScope st) s.heap.objs.size f cdv)).units + 190 < cLine; omega), gd := hg, fn := fun _ => rfl, pass := passes_of rfl, stk := rfl, frm := rfl,
            tk := (takes_of rfl rfl rfl rfl).imp fun c d σ H q => by obtain ⟨rfl, c, rfl, z⟩ := q; exact z }
  have hK : X.K = K := by subst hX; rfl
  obtain ⟨t, body, tk⟩ := go X E fit hK
  have want := tk vs H Q hsp
  have run := body.run [] s1 (L2.start N vs) H _ I0 want
  subst hX
  refine wpAny_mono run (fun fl s' hs => ?_) fun e s' hs => hs
  match fl, hs with
  | .ret u, hs =>
    obtain ⟨v, σ', H', J, rv, q⟩ := hs
    exact ⟨v, H', J.os, J.bare, J.base, J.hok, rv, q⟩
  | .next, hs =>
    obtain ⟨σ', H', J, q⟩ := hs
    exact ⟨V.non, H', J.os, J.bare, J.base, J.hok, rfl, q⟩
  | .brk, hs =>
    obtain ⟨_, _, _, q⟩ := hs
    exact q.elim
  | .cont, hs =>
    obtain ⟨_, _, _, q⟩ := hs
    exact q.elim
/-- THE RULE for a def -/
theorem def_ok {k wn : Nat} {f : Addr} {x qual : Str} {st : Stmt} {fd : FuncData} {N ps : List Str} {b : List Sx} (F : L2.Fun K x qual st f fd) (S : FnScope N ps (defScope st)) (gc : GC P w K mg base cref k G bs cs)
    (ch : chkSs N bs cs (defScope st) b (defBody st) = true) : FnG P w K mg base (k + 1) f fd ps (spD K cref ps.length (evDef G wn N.length ps.length b)) := by
  obtain ⟨oc, od, kV, doc, pm, an, cdv, ct, osl, rfl, lk, hcd⟩ := F.ex
  refine ⟨fun vs H Q E h => h.1, fun A outer s H args us vs Q E hr hg env hb r hsp => ?_⟩
  have keepB := fun b o e => (env.bs b o e).1
  have KX := env.mod.kin.keeps keepB
  have noL := env.mod.nolimit.keeps keepB
  refine codeAny_call_function hr.depth (KX _ _ lk) rfl S.co S.gen rfl (PySem.W.codeRec_of KX hcd) (hb _ _ _ _ ?_)
  have kinds : ∀ y ∈ ps.zip us, (defScope st).names.lookup y.1 = some .local ∨ ((defScope st).names.lookup y.1 = some .cell ∧ ((cellsFrom (s.heap.objs.size + 1) (defScope st).names []).lookup y.1).isSome = true) := by
    intro y hy
    obtain ⟨n, v⟩ := y
    exact (S.par n (List.of_mem_zip hy).1).imp id fun q => ⟨q, PySem.W.cellsFrom_some _ _ _ (.inl q)⟩
  refine wpAny_newFunctionEnv_cells S.kind kinds fun ev1 he s1 fresh => ?_
  subst he
  refine ⟨noL.keeps fresh.toInCall.keep, codeAny_func ?_⟩
  obtain ⟨hl, F0, ds, sm, is, hm⟩ := hsp
  have I0 := inv_start (CX := L2.CX P w) (E := E) S hr.hd env hl r fresh
  generalize hX : cxOf (L2.CX P w) P w K mg base N qual (defScope st) f cdv A outer s H E = X at I0
  have fit : SFit X (fun c σ H => E (cref c) none H) cref k G bs cs N (defScope st) := by
    subst hX
    exact { gc := gc, hN := rfl, nd := S.nd, hsc := rfl, calm := fun _ => rfl, un := (by have := (hr.deeper (envOfC qual (defScope st) s.heap.objs.size f cdv)).un; show (A.deeper (envOfC qual (defScope st) s.heap.objs.size f cdv)).units + 65 < cLine; omega), rm := fun _ => room_s hr _, rp := fun _ => (by have := (hr.deeper (envOfC qual (defScope st) s.heap.objs.size f cdv)).un; show (A.deeper (envOfC qual (defScope st) s.heap.objs.size f cdv)).units + 190 < cLine; omega), gd := hg, fn := fun _ => rfl, pass := passes_of rfl, stk := rfl, frm := rfl,
            tk := (takes_of rfl rfl rfl rfl).imp fun c d σ H q => by obtain ⟨rfl, c, rfl, z⟩ := q; exact z }
  have body := sSs wn b fit ch
  have hK : X.K = K := by subst hX; rfl
  have dl : ds.length = ps.length := is.len.symm.trans hl
  have want : tSs X.K (fun c σ H => E (cref c) none H) G wn b { nx := fun _ H' => Q .non H', rt := Q } (L2.start N vs) H := by
    rw [hK]
    refine ⟨F0, H, F0, _, rel_start sm is rfl, ?_⟩
    unfold evDef at hm
    rw [if_neg (fun z => z dl)] at hm
    cases ho : evSs G wn b (ds.map Slot.sh ++ List.replicate (N.length - ds.length) Slot.no) with
    | nx e =>
      rw [ho] at hm
      exact fun σ F' H' q => hm .non F' H' q.ext (show Is K F' .none .non by simp only [Is])
    | brk e => rw [ho] at hm; exact (show False from hm).elim
    | cnt e => rw [ho] at hm; exact (show False from hm).elim
    | exc c e =>
      rw [ho] at hm
      exact fun σ F' H' q => hm F' H' q.ext
    | stuck => rw [ho] at hm; exact hm
    | ret t d =>
      rw [ho] at hm
      cases t with
      | sh => exact fun v F' H' e q => hm v F' H' e q
      | ow => exact fun v F' H' e q => hm v F' H' e q
      | tr => exact fun v F' H' e q => hm v F' H' e q
      | pk => exact (show False from hm).elim
      | rt => exact (show False from hm).elim
  have run := body.run [] s1 (L2.start N vs) H _ I0 want
  subst hX
  refine wpAny_mono run (fun fl s' hs => ?_) fun e s' hs => hs
  match fl, hs with
  | .ret u, hs =>
    obtain ⟨v, σ', H', J, rv, q⟩ := hs
    exact ⟨v, H', J.os, J.bare, J.base, J.hok, rv, q⟩
  | .next, hs =>
    obtain ⟨σ', H', J, q⟩ := hs
    exact ⟨V.non, H', J.os, J.bare, J.base, J.hok, rfl, q⟩
  | .brk, hs =>
    obtain ⟨_, _, _, q⟩ := hs
    exact q.elim
  | .cont, hs =>
    obtain ⟨_, _, _, q⟩ := hs
    exact q.elim
theorem chg_ok {k : Nat} {f : Addr} {qual : Str} {st : Stmt} {fd : FuncData} (F : L2.Fun K "changed" qual st f fd) (S : FnScope ["counts", "place", "change"] ["counts", "place", "change"] (defScope st)) (gc : GC P w K mg base cref k G bs cs)
    (hv : (["counts", "place", "change"] : List Str).all (fun x => visB (defScope st) x) = true) (ht : isChg (defBody st) = true) : FnG P w K mg base (k + 1) f fd ["counts", "place", "change"] spCh := by
  refine def_run F S gc (fun vs H Q E ⟨p, xs, k, c, j, v, e, _⟩ => by rw [e]; rfl) fun X E ft hK => ?_
  simp only [List.all_cons, List.all_nil, Bool.and_true, Bool.and_eq_true] at hv
  generalize defBody st = body at ht
  unfold isChg at ht
  split at ht
  case h_2 => cases ht
  simp only [Bool.and_eq_true, decide_eq_true_eq] at ht
  obtain ⟨⟨⟨⟨rfl, rfl⟩, rfl⟩, rfl⟩, rfl⟩ := ht
  have p0 : ∀ {pos : Pos}, PE X (.Name "counts" pos) (tVar 0) := fun {pos} => ft.nm rfl hv.1 (by decide)
  have p1 : ∀ {pos : Pos}, PE X (.Name "place" pos) (tVar 1) := fun {pos} => ft.nm rfl hv.2.1 (by decide)
  have p2 : ∀ {pos : Pos}, PE X (.Name "change" pos) (tVar 2) := fun {pos} => ft.nm rfl hv.2.2 (by decide)
  refine ⟨_, pss_one (ps_if (pt_cmpR (op_cmp ft.un .isn) (pe_ix ix_seq p0 p1 (plainIx_of rfl)) pe_non rfl) (pss_one (ps_augS p0 p1 get_listO p2 ip_add set_list (fun _ _ _ => rfl))) pss_nil), fun vs H Q h => ?_⟩
  obtain ⟨p, xs, k2, c, j, v, rfl, hp, hj, hx, hq⟩ := h
  have s0 : (L2.start ["counts", "place", "change"] [V.ref p, .int k2, .int c])[0]? = some (some (.ref p)) := rfl
  have s1 : (L2.start ["counts", "place", "change"] [V.ref p, .int k2, .int c])[1]? = some (some (.int k2)) := rfl
  have s2 : (L2.start ["counts", "place", "change"] [V.ref p, .int k2, .int c])[2]? = some (some (.int c)) := rfl
  have at_ : atI xs k2 = some v := by
    unfold atI
    rw [hj]
    exact hx
  refine ⟨_, s0, _, s1, .inl ⟨p, xs, k2, v, rfl, rfl, (LL.of (K := X.K) hp).seq, at_, ?_⟩⟩
  rcases hq with ⟨rfl, q⟩ | ⟨m, rfl, q⟩
  · exact ⟨.none, .none, false, by simp only [Is], by simp only [Is], rfl, false, rfl, iteF q⟩
  · exact ⟨.int m, .none, true, by simp only [Is], by simp only [Is], rfl, true, rfl, iteT ⟨_, s0, _, s1, p, xs, k2, j, _, rfl, rfl, hp, hj, hx, _, s2, m, c, rfl, rfl, p, xs, k2, j, rfl, rfl, hp, hj, q⟩⟩
end

/-- a def that calls itself, at most so deep -/
def gRec (G : Gam) (x : Str) (W sz k : Nat) (b : List Sx) : Nat → List D → R TD
  | 0 => fun _ => .stuck
  | n + 1 => evDef (G.add x (gRec G x W sz k b n)) W sz k b
theorem gRec_len {G : Gam} {x : Str} {W sz k : Nat} {b : List Sx} : ∀ {n : Nat} (ds : List D), gRec G x W sz k b n ds ≠ .stuck → ds.length = k
  | 0, _, h => absurd rfl h
  | _ + 1, ds, h => evDef_len ds h
theorem rec_ok {P : Program} {w : World} {K : PySem.W.Frag} {mg : Str → Option Value} {base : Heap} {cref : Str → Value} {G : Gam} {bs cs : List Str} {j wn : Nat} {f : Addr} {x qual : Str} {st : Stmt} {fd : FuncData} {N ps : List Str} {b : List Sx}
    (F : L2.Fun K x qual st f fd) (S : FnScope N ps (defScope st)) (gc : GC P w K mg base cref j G bs cs) (ch : chkSs N bs cs (defScope st) b (defBody st) = true) (h1 : mg x = some (.ref f)) (h2 : PySem.W.keepIn K (.ref f) = true) (h3 : Binds K fd ps []) (hx : bang x = false := by decide +kernel) :
    ∀ n : Nat, FnG P w K mg base (j + n) f fd ps (spD K cref ps.length (gRec G x wn N.length ps.length b n))
  | 0 => ⟨fun vs H Q E h => h.1, fun A outer s H args us vs Q E _ _ _ _ _ hsp => by
      obtain ⟨_, _, _, _, _, z⟩ := hsp
      exact z.elim⟩
  | n + 1 => by
    have ih := rec_ok (wn := wn) F S gc ch h1 h2 h3 hx n
    exact def_ok F S ((gc.mono (Nat.le_add_right j n)).add h1 h2 h3 ih (fun ds h => gRec_len ds h) hx) ch
/-! ### the law's end -/
/-- the script stands in the heap, tracked under lock or as an object of the module: nothing else is tracked -/
def ScrH (K : PySem.W.Frag) (H : Hp) (h : Heap) (a : Addr) : Prop := (∀ b u, H b = some u → b = a ∧ K.lookup a = none ∧ ∃ o xs, u = .frz o (.lst xs) ∧ h.get? a = some o)
theorem law_run {P : Program} {w : World} {K : PySem.W.Frag} {mg mb : Str → Option Value} {k : Nat} {fa a : Addr} {fd : FuncData} {x : Str} {cref : Str → Value} {g : List D → R TD} {s₁ : Shared} {vs : List Value} {ns : List Int}
    (KX : K.In s₁.heap) (hns : s₁.heap.Ns mainGlobals mg) (hb : s₁.heap.Ns builtinsNs mb) (hbb : ∀ x : Str, x ≠ "__name__" → mb x = bootBuiltins x) (hlim : s₁.heap.NoLimit) (hg : s₁.gens = #[])
    (ha : s₁.heap.get? a = some { cls := .type "list", data := .seq vs.toArray }) (hi : IntsAre vs ns) (hl : ns.length ≤ sizeLine) (hr : Room k callerA)
    (F : ∀ base : Heap, K.In base → base.Ns mainGlobals mg → FnG P w K mg base k fa fd [x] (spD K cref 1 g)) (hbind : ∀ (s : Shared) (u : Value), BindsTo s fd ⟨[u], []⟩ [(x, u)])
    (hgv : g [.list (ns.map .int)] = .ok (.sh, .bool true)) :
    codeAny (model P w) callerA (.call (.ref fa) ⟨[.ref a], []⟩) (fun r s' => r = .ok (.ret (.bool true)) ∧ OldK s₁.heap s'.heap ∧ s'.os = s₁.os ∧ AllBare s'.gens) s₁ := by
  have rv := vals_ints hi
  have go : ∀ H : Hp, ScrH K H s₁.heap a → LL K H a (ns.map V.int) → HOk P w H s₁.heap →
      codeAny (model P w) callerA (.call (.ref fa) ⟨[.ref a], []⟩) (fun r s' => r = .ok (.ret (.bool true)) ∧ OldK s₁.heap s'.heap ∧ s'.os = s₁.os ∧ AllBare s'.gens) s₁ := by
    intro H hS hL hok
    have only : ∀ {b : Addr}, b ≠ a → H b = none := fun {b} n => by
      cases q : H b with
      | none => rfl
      | some u => exact absurd (hS b u q).1 n
    have under : ∀ {b : Addr} {m : Str → Option Value}, s₁.heap.Ns b m → (hidT s₁.heap H).Ns b m := fun {b m} n => by
      obtain ⟨o, es, ep, e, d, r⟩ := n
      refine ⟨o, es, ep, hidT_get e (only fun z => ?_), d, r⟩
      rw [z, ha] at e
      cases e
      cases d
    have KB : K.In (hidT s₁.heap H) := fun b o e => hidT_get (KX b o e) (by
      cases q : H b with
      | none => rfl
      | some u =>
        obtain ⟨z, n, _⟩ := hS b u q
        rw [z, n] at e
        cases e)
    obtain ⟨mc, l1, l2⟩ := hlim
    have start : Env0 P w K mg (hidT s₁.heap H) callerA [] s₁ H :=
      ⟨rfl, ⟨KB, under hns, ⟨mb, under hb, hbb⟩, ⟨mc, under l1, l2⟩⟩, fun b o e => of_hidT e, Nat.le_of_eq (hidT_size _ _), trivial, fun b hb => absurd (show b ∈ ([] : List Addr) from hb) List.not_mem_nil, hok, .of_eq hg⟩
    have want : spD K cref 1 g [.ref a] H (fun v _ => v = .bl true) fun _ _ _ => False := by
      refine ⟨rfl, H, [.list (ns.map .int)], Same.refl _, .cons ?_ .nil, ?_⟩
      · simp only [Is]
        exact ⟨a, _, rfl, hL, ints_isL ns⟩
      · rw [hgv]
        exact fun v F' H' _ q => is_bool (K := K) (H := F') q
    refine codeAny_mono ((F _ KB (under hns)).run callerA [] s₁ H ⟨[.ref a], []⟩ [.ref a] [.ref a] _ _ hr rfl start (hbind s₁ (.ref a)) (.cons rfl .nil) want) fun res s' q => ?_
    match res, q with
    | .error e, q =>
      obtain ⟨_, _, _, _, _, _, _, _, _, _, _, _, z⟩ := q
      exact z.elim
    | .ok .next, q => exact False.elim q
    | .ok .brk, q => exact False.elim q
    | .ok .cont, q => exact False.elim q
    | .ok (.ret u), q =>
      obtain ⟨v, H', os, bare, un, hok', r', hv⟩ := q
      have hv' : v = .bl true := hv
      subst hv'
      obtain rfl : u = Value.bool true := r'
      refine ⟨rfl, OldK.of_keep fun b o e => ?_, os, bare⟩
      cases q : H b with
      | none => exact un.keep b o e q (fun z => absurd (show b ∈ ([] : List Addr) from z) List.not_mem_nil) (by simp)
      | some u =>
        obtain ⟨z1, z2, ob, xs, rfl, z4⟩ := hS b u q
        subst z1
        rw [e] at z4
        cases z4
        exact (hok' b _ (un.frzs b o _ q)).1
  cases hk : K.lookup a with
  | some o =>
    have e := KX a o hk
    rw [ha] at e
    cases e
    exact go (fun _ => none) (fun b u z => by cases z) (.inr ⟨vs, 0, hk, rv, by rw [hi.length]; exact hl⟩) fun b u z => by cases (show (none : Option HO) = some u from z)
  | none =>
    refine go (upd (fun _ => none) a (.frz { cls := .type "list", data := .seq vs.toArray } (.lst (ns.map V.int)))) (fun b u z => ?_) (.inl (.inr ⟨_, upd_same⟩)) fun b u z => ?_
    · by_cases c : b = a
      · subst c
        rw [upd_same] at z
        cases z
        exact ⟨rfl, hk, _, _, rfl, ha⟩
      · rw [upd_ne c] at z
        cases z
    · by_cases c : b = a
      · subst c
        rw [upd_same] at z
        cases z
        exact ⟨ha, by rw [List.length_map]; exact hl, vs, _, rv, ha⟩
      · rw [upd_ne c] at z
        cases z
theorem walk_g {l : PySem.W.OpenLaw} {n k : Nat} {q : Program} {loose : List Str} {XP : (Str → Option Value) → Heap → Prop} {YP : World → Heap → Prop} {d : DefRec} {K : Params → PySem.W.Frag} {x : Str} {g : List D → R TD}
    (hn : l.most = some n) (hn2 : n ≤ sizeLine) (hdf : d.params.defaults = []) (hr : Room k callerA)
    (hY : ∀ (w : World) (h : Heap), YP w h → (K w.params).In h)
    (hgv : ∀ ns : List Int, ns.length ≤ n → g [.list (ns.map .int)] = .ok (.sh, .bool true))
    (F : ∀ (w : World) (mg : Str → Option Value) (fa : Addr) (h : Heap), (K w.params).In h → h.Ns mainGlobals mg → mg d.name = some (.ref fa) →
      ∃ (fd : FuncData) (cref : Str → Value), (∀ (s : Shared) (u : Value), BindsTo s fd ⟨[u], []⟩ [(x, u)]) ∧ ∀ base : Heap, (K w.params).In base → base.Ns mainGlobals mg → FnG l.prog w (K w.params) mg base k fa fd [x] (spD (K w.params) cref 1 g)) :
    PySem.W.WalkO q loose XP YP l.row.toRowW d [] (fun f vs => PySem.call f vs) := by
  refine Att.attach_call hn hdf fun w s₀ s₁ mg mb fa o pm cd doc a vs ns G Y ho hd hcd hmg hobj hints hlen hgens => ?_
  obtain ⟨fd, cref, hb, hF⟩ := F w mg fa _ (hY w _ Y) G.T.g hmg
  exact law_run (hY w _ Y) G.T.g G.T.b G.T.builtins G.T.nolimit hgens hobj hints (Nat.le_trans hlen hn2) hr hF hb (hgv ns hlen)
end PV

/-! PvSim: the reckoning by rewriting. -/
namespace PV
open PySem L2
abbrev il (xs : List Int) : D := .list (xs.map .int)
section
variable {α β : Type} {a : α} {f : α → R β} {env : Env} {k : α → Out} {c : Str} {t s : Tag} {d e : D} {i j : Int} {b : Bool} {xs ys : List D} {z : Str}
@[simp] theorem b_ok : (R.ok a).bind f = f a := rfl
@[simp] theorem b_exc : (R.exc c : R α).bind f = .exc c := rfl
@[simp] theorem o_ok : Out.of env (.ok a) k = k a := rfl
@[simp] theorem o_exc : Out.of env (.exc c : R α) k = .exc c env := rfl
@[simp] theorem t_nx {g : Env → Out} {e : Env} : (Out.nx e).then g = g e := rfl
@[simp] theorem t_ret {g : Env → Out} : (Out.ret t d).then g = .ret t d := rfl
@[simp] theorem t_cnt {g : Env → Out} {e : Env} : (Out.cnt e).then g = .cnt e := rfl
@[simp] theorem t_brk {g : Env → Out} {e : Env} : (Out.brk e).then g = .brk e := rfl
@[simp] theorem t_exc {g : Env → Out} {e : Env} : (Out.exc c e).then g = .exc c e := rfl
@[simp] theorem nt_sh : nt .sh d = .sh := by cases d <;> rfl
@[simp] theorem nt_int : nt t (.int i) = .sh := rfl
@[simp] theorem nt_bool : nt t (.bool b) = .sh := rfl
@[simp] theorem nt_str : nt t (.str z) = .sh := rfl
@[simp] theorem nt_none : nt t .none = .sh := rfl
@[simp] theorem nt_list : nt t (.list xs) = t := rfl
@[simp] theorem nt_tuple : nt t (.tuple xs) = t := rfl
@[simp] theorem put_sh {n : Nat} : put env n (.sh, d) = .nx (env.set n (.sh d)) := by cases d <;> rfl
@[simp] theorem put_ow {n : Nat} : put env n (.ow, .list xs) = .nx (env.set n (.ow (.list xs))) := rfl
@[simp] theorem put_int {n : Nat} : put env n (t, .int i) = .nx (env.set n (.sh (.int i))) := rfl
@[simp] theorem put_bool {n : Nat} : put env n (t, .bool b) = .nx (env.set n (.sh (.bool b))) := rfl
@[simp] theorem kid_sh : Tag.kid .sh = .sh := rfl
@[simp] theorem kid_rt : Tag.kid .rt = .sh := rfl
@[simp] theorem kid_ow : Tag.kid .ow = .sh := rfl
@[simp] theorem kid_pk : Tag.kid .pk = .pk := rfl
@[simp] theorem kid_tr : Tag.kid .tr = .pk := rfl
@[simp] theorem dm_tr : Tag.dm .tr = .sh := rfl
@[simp] theorem dm_sh : Tag.dm .sh = .sh := rfl
@[simp] theorem dm_ow : Tag.dm .ow = .sh := rfl
@[simp] theorem dm_rt : Tag.dm .rt = .pk := rfl
@[simp] theorem dm_pk : Tag.dm .pk = .pk := rfl
@[simp] theorem root_sh : Tag.root .sh = .ow := rfl
@[simp] theorem root_pk : Tag.root .pk = .pk := rfl
@[simp] theorem jn_sh : Tag.jn .sh .sh = .sh := rfl
@[simp] theorem jn_pk : Tag.jn .pk t = .pk := by cases t <;> rfl
@[simp] theorem jn_pk2 : Tag.jn t .pk = .pk := by cases t <;> rfl
@[simp] theorem jnl_nil : jnL [] = .sh := rfl
@[simp] theorem jnl_cons {x : TD} {l : List TD} : jnL (x :: l) = x.1.dm.jn (jnL l) := rfl
@[simp] theorem zt_sh : zt .sh .sh = .sh := rfl
@[simp] theorem zt_pk : zt .pk t = .pk := rfl
@[simp] theorem zt_rt1 : zt .rt .sh = .rt := rfl
@[simp] theorem zt_rt2 : zt .sh .rt = .rt := rfl
@[simp] theorem zt_rt3 : zt .rt .rt = .rt := rfl
@[simp] theorem truth_bool : truth (.bool b) = .ok b := rfl
@[simp] theorem truth_int : truth (.int i) = .ok (i != 0) := rfl
@[simp] theorem truth_list : truth (.list xs) = .ok (!xs.isEmpty) := rfl
@[simp] theorem truth_tuple : truth (.tuple xs) = .ok (!xs.isEmpty) := rfl
@[simp] theorem truth_none : truth .none = .ok false := rfl
@[simp] theorem isBool_bool : isBool (.bool b) = .ok b := rfl
@[simp] theorem isInt_int : isInt (.int i) = .ok i := rfl
@[simp] theorem add_int : evBin .add (s, .int i) (t, .int j) = .ok (.sh, .int (i + j)) := rfl
@[simp] theorem sub_int : evBin .sub (s, .int i) (t, .int j) = .ok (.sh, .int (i - j)) := rfl
@[simp] theorem neg_int : evNeg (.int i) = .ok (.sh, .int (-i)) := rfl
@[simp] theorem g_true {r' : R TD} : PV.guard true r' = r' := rfl
theorem mul_int (h : mulOk i j = true) : evBin .mul (s, .int i) (t, .int j) = .ok (.sh, .int (i * j)) := by
  show PV.guard (mulOk i j) _ = _
  rw [h]
  rfl
theorem mod_int (h : 0 < j) : evBin .mod (s, .int i) (t, .int j) = .ok (.sh, .int (i % j)) := by
  show PV.guard (decide (0 < j)) _ = _
  rw [decide_eq_true h]
  rfl
theorem fdv_int (h : 0 < j) (h2 : j < 1073741824) : evBin .fdv (s, .int i) (t, .int j) = .ok (.sh, .int (i / j)) := by
  show PV.guard (decide (0 < j) && decide (j < 1073741824)) _ = _
  rw [decide_eq_true h, decide_eq_true h2]
  rfl
theorem pow_int (h : powOk i j = true) : evBin .pow (s, .int i) (t, .int j) = .ok (.sh, .int (i ^ j.toNat)) := by
  show PV.guard (powOk i j) _ = _
  rw [h]
  rfl
theorem cat_list (h : xs.length + ys.length ≤ lim) : evBin .add (s, .list xs) (t, .list ys) = .ok ((s.kid.jn t.kid).root, .list (xs ++ ys)) := by
  show PV.guard (decide _) _ = _
  rw [decide_eq_true h]
  rfl
@[simp] theorem lt_int : evCmp .lt (.int i) (.int j) = .ok (decide (i < j)) := rfl
@[simp] theorem le_int : evCmp .le (.int i) (.int j) = .ok (decide (i ≤ j)) := rfl
@[simp] theorem gt_int : evCmp .gt (.int i) (.int j) = .ok (decide (j < i)) := rfl
@[simp] theorem ge_int : evCmp .ge (.int i) (.int j) = .ok (decide (j ≤ i)) := rfl
@[simp] theorem eq_int : evCmp .eq (.int i) (.int j) = .ok (decide (i = j)) := by
  show gB (both (.int i) (.int j)) (PyData.eqv (.int i) (.int j)) = _
  have : PyData.eqv (.int i) (.int j) = decide (i = j) := by
    unfold PyData.eqv
    first | rfl | (by_cases h : i = j <;> simp [h, PyData.num])
  rw [this]
  rfl
@[simp] theorem ne_int : evCmp .ne (.int i) (.int j) = .ok (decide (i ≠ j)) := by
  have h : evCmp .eq (.int i) (.int j) = _ := eq_int
  have h2 : PyData.eqv (.int i) (.int j) = decide (i = j) := (gB_ok (show gB (both (.int i) (.int j)) (PyData.eqv (.int i) (.int j)) = _ from h)).2
  show gB (both (.int i) (.int j)) (!PyData.eqv (.int i) (.int j)) = _
  rw [h2]
  by_cases c : i = j <;> simp [c] <;> rfl
@[simp] theorem is_none' : evCmp .is d .none = .ok (isNone d) := by cases d <;> rfl
@[simp] theorem isn_none : evCmp .isn d .none = .ok (!isNone d) := by cases d <;> rfl
@[simp] theorem is_bl {a b : Bool} : evCmp .is (.bool a) (.bool b) = .ok (decide (a = b)) := rfl
@[simp] theorem isn_bl {a b : Bool} : evCmp .isn (.bool a) (.bool b) = .ok (!decide (a = b)) := rfl
@[simp] theorem ixt0 : evIx (t, .tuple (d :: xs)) (.int 0) = .ok (nt t.kid d, d) := by
  simp [evIx, L2.atI, L2.ixN]
@[simp] theorem ixt1 {d1 : D} : evIx (t, .tuple (d1 :: d :: xs)) (.int 1) = .ok (nt t.kid d, d) := by
  have : (1 : Int) < (xs.length : Int) + 1 + 1 := by omega
  simp [evIx, L2.atI, L2.ixN, this]
@[simp] theorem ixt2 {d1 d2 : D} : evIx (t, .tuple (d1 :: d2 :: d :: xs)) (.int 2) = .ok (nt t.kid d, d) := by
  have : (2 : Int) < (xs.length : Int) + 1 + 1 + 1 := by omega
  simp [evIx, L2.atI, L2.ixN, this]
@[simp] theorem ixt3 {d1 d2 d3 : D} : evIx (t, .tuple (d1 :: d2 :: d3 :: d :: xs)) (.int 3) = .ok (nt t.kid d, d) := by
  have : (3 : Int) < (xs.length : Int) + 1 + 1 + 1 + 1 := by omega
  simp [evIx, L2.atI, L2.ixN, this]
theorem atI_at {γ : Type} {l : List γ} {i : Int} {n : Nat} {x : γ} (h : i = (n : Int)) (e : l[n]? = some x) : L2.atI l i = some x := by
  subst h
  have hn : n < l.length := (List.getElem?_eq_some_iff.mp e).1
  have h2 : ((n : Nat) : Int) < (l.length : Int) := by omega
  simp [L2.atI, L2.ixN, h2, e]
theorem ixl_at {n : Nat} (h : i = (n : Int)) (e : xs[n]? = some d) : evIx (t, .list xs) (.int i) = .ok (nt t.kid d, d) := by
  show (match L2.atI xs i with | some d => R.ok (nt t.kid d, d) | none => .stuck) = _
  rw [atI_at h e]
theorem placed_at {n : Nat} (h : i = (n : Int)) (e : xs[n]? = some d) : placed xs i = .ok (n, d) := by
  subst h
  have hn : n < xs.length := (List.getElem?_eq_some_iff.mp e).1
  have h2 : ((n : Nat) : Int) < (xs.length : Int) := by omega
  simp [placed, L2.ixN, h2, e]
/-- a list's item, by its place -/
def gi (l : List Int) (n : Nat) : Int := l.getD n 0
theorem gi_some {l : List Int} {n : Nat} (h : n < l.length) : l[n]? = some (gi l n) := by
  unfold gi
  rw [List.getD_eq_getElem?_getD, List.getElem?_eq_getElem h]
  rfl
theorem gi_bd {X : List Int} {n : Nat} {P : Int → Prop} (h : ∀ y ∈ X, P y) (h0 : P 0) : P (gi X n) := by
  unfold gi
  rw [List.getD_eq_getElem?_getD]
  cases q : X[n]? with
  | none => exact h0
  | some v => exact h v (List.mem_of_getElem? q)
theorem set_bd {X : List Int} {j : Nat} {v : Int} {P : Int → Prop} (h : ∀ y ∈ X, P y) (hv : P v) : ∀ y ∈ X.set j v, P y := fun y hy => by
  rcases List.mem_or_eq_of_mem_set hy with z | z
  · exact h y z
  · rw [z]; exact hv
/-- in a list of ints -/
theorem ixi {ns : List Int} (h : 0 ≤ i) (h2 : i < ns.length) : evIx (t, il ns) (.int i) = .ok (.sh, .int (gi ns i.toNat)) := by
  have hl : i.toNat < ns.length := by omega
  rw [ixl_at (n := i.toNat) (d := .int (gi ns i.toNat)) (by omega) (by rw [List.getElem?_map, gi_some hl]; rfl)]
  rfl
theorem placed_i {ns : List Int} (h : 0 ≤ i) (h2 : i < ns.length) : placed (ns.map .int) i = .ok (i.toNat, .int (gi ns i.toNat)) := by
  have hl : i.toNat < ns.length := by omega
  exact placed_at (by omega) (by rw [List.getElem?_map, gi_some hl]; rfl)
@[simp] theorem len_list : evBi .len [(t, .list xs)] = .ok (.sh, .int xs.length) := rfl
@[simp] theorem len_tuple : evBi .len [(t, .tuple xs)] = .ok (.sh, .int xs.length) := rfl
@[simp] theorem abs_int : evBi .abs [(t, .int i)] = .ok (.sh, .int (if i < 0 then -i else i)) := rfl
@[simp] theorem min_int : evBi .min [(t, .int i), (s, .int j)] = .ok (.sh, .int (if j < i then j else i)) := rfl
@[simp] theorem max_int : evBi .max [(t, .int i), (s, .int j)] = .ok (.sh, .int (if j > i then j else i)) := rfl
@[simp] theorem int_int : evBi .int [(t, .int i)] = .ok (.sh, .int i) := rfl
@[simp] theorem int_bool : evBi .int [(t, .bool b)] = .ok (.sh, .int (if b then 1 else 0)) := rfl
@[simp] theorem list_list : evBi .list [(t, .list xs)] = .ok (t.kid.root, .list xs) := rfl
@[simp] theorem list_tuple : evBi .list [(t, .tuple xs)] = .ok (t.kid.root, .list xs) := rfl
@[simp] theorem tuple_list : evBi .tuple [(t, .list xs)] = .ok (t.kid, .tuple xs) := rfl
theorem boolL_of {γ : Type} (p : γ → Bool) : ∀ l : List γ, boolL (l.map fun x => PyData.bool (p x)) = some (l.map p)
  | [] => rfl
  | x :: r => by
    show (boolL (r.map fun x => PyData.bool (p x))).map (p x :: ·) = _
    rw [boolL_of p r]
    rfl
theorem intL_of : ∀ l : List Int, intL (l.map PyData.int) = some l
  | [] => rfl
  | x :: r => by
    show (intL (r.map PyData.int)).map (x :: ·) = _
    rw [intL_of r]
    rfl
theorem all_map {γ : Type} (p : γ → Bool) (l : List γ) : evBi .all [(t, .list (l.map fun x => PyData.bool (p x)))] = .ok (.sh, .bool (l.all p)) := by
  show (match boolL (l.map fun x => PyData.bool (p x)) with | some bs => ok1 (.bool (bs.all id)) | none => .stuck) = _
  rw [boolL_of]
  simp [ok1, List.all_map]
theorem any_map {γ : Type} (p : γ → Bool) (l : List γ) : evBi .any [(t, .list (l.map fun x => PyData.bool (p x)))] = .ok (.sh, .bool (l.any p)) := by
  show (match boolL (l.map fun x => PyData.bool (p x)) with | some bs => ok1 (.bool (bs.any id)) | none => .stuck) = _
  rw [boolL_of]
  simp [ok1, List.any_map]
theorem sum_map (l : List Int) : evBi .sum [(t, il l)] = .ok (.sh, .int l.sum) := by
  show (match intL (l.map PyData.int) with | some ns => ok1 (.int ns.sum) | none => .stuck) = _
  rw [intL_of]
  rfl
@[simp] theorem isT_ib : isT .int (.bool b) = some true := rfl
@[simp] theorem isT_ii : isT .int (.int i) = some true := rfl
@[simp] theorem isT_bb : isT .bool (.bool b) = some true := rfl
@[simp] theorem isT_bi : isT .bool (.int i) = some false := rfl
@[simp] theorem shOnly_sh : shOnly (.sh, d) = .ok d := by cases d <;> rfl
@[simp] theorem shOnly_ow : shOnly (.ow, d) = .ok d := by cases d <;> rfl
@[simp] theorem shOnly_int : shOnly (t, .int i) = .ok (.int i) := rfl
@[simp] theorem shOnly_bool : shOnly (t, .bool b) = .ok (.bool b) := rfl
@[simp] theorem bt_nm {n : Nat} : bindT (.nm n) (.sh, d) env = some (env.set n (.sh d)) := rfl
@[simp] theorem bt_two {n m : Nat} : bindT (.tp [n, m]) (.sh, .tuple [d, e]) env = some ((env.set n (.sh d)).set m (.sh e)) := rfl
@[simp] theorem bt_three {n m l : Nat} {g : D} : bindT (.tp [n, m, l]) (.sh, .tuple [d, e, g]) env = some (((env.set n (.sh d)).set m (.sh e)).set l (.sh g)) := rfl
@[simp] theorem frz_nil : frz [] env = env := rfl
theorem frz_cons {n : Nat} {l : List Nat} : frz (n :: l) env = match env[n]? with | some (.ow d) => frz l (env.set n (.sh d)) | some (.od d) => frz l (env.set n (.sh d)) | _ => frz l env := rfl
@[simp] theorem cT_int {o : Tag} : callTag t o (.int i) = .sh := by cases t <;> cases o <;> rfl
@[simp] theorem cT_bool {o : Tag} : callTag t o (.bool b) = .sh := by cases t <;> cases o <;> rfl
@[simp] theorem cT_ow : callTag .sh .ow (.list xs) = .ow := rfl
@[simp] theorem cT_sh : callTag .sh .sh d = .sh := by cases d <;> rfl
@[simp] theorem cT_trl : callTag .sh .tr (.list xs) = .tr := rfl
@[simp] theorem cT_trt : callTag .sh .tr (.tuple xs) = .tr := rfl
@[simp] theorem cT_none {o : Tag} : callTag t o .none = .sh := by cases t <;> cases o <;> rfl
@[simp] theorem cT_pkt {o : Tag} : callTag .pk o (.tuple xs) = .pk := by cases o <;> rfl
@[simp] theorem cT_pkl {o : Tag} : callTag .pk o (.list xs) = .pk := by cases o <;> rfl
@[simp] theorem cst_int {n : Int} : constD (.int n) = some (.int n) := rfl
@[simp] theorem cst_bool : constD (.bool b) = some (.bool b) := rfl
@[simp] theorem cst_none : constD .none = some .none := rfl
@[simp] theorem cst_str : constD (.str z) = some (.str z) := rfl
@[simp] theorem nox_ok : nox (.ok a) = .ok a := rfl
theorem cpl_map {γ : Type} {f : D → R (Option D)} (w : γ → D) (h : γ → D) : ∀ l : List γ, (∀ x ∈ l, f (w x) = .ok (some (h x))) → cpl f (l.map w) = .ok (l.map h)
  | [], _ => rfl
  | x :: r, q => by
    rw [List.map_cons]
    unfold cpl
    rw [q x List.mem_cons_self, cpl_map w h r fun y hy => q y (List.mem_cons_of_mem _ hy)]
    rfl
theorem cpl_filter {γ : Type} {f : D → R (Option D)} (w : γ → D) (p : γ → Bool) (h : γ → D) : ∀ l : List γ, (∀ x ∈ l, f (w x) = .ok (if p x then some (h x) else none)) → cpl f (l.map w) = .ok ((l.filter p).map h)
  | [], _ => rfl
  | x :: r, q => by
    rw [List.map_cons]
    unfold cpl
    rw [q x List.mem_cons_self, cpl_filter w p h r fun y hy => q y (List.mem_cons_of_mem _ hy), List.filter_cons]
    cases p x <;> rfl
theorem zipD_map {γ δ : Type} (w : γ → D) (v : δ → D) : ∀ (l : List γ) (m : List δ), zipD (l.map w) (m.map v) = (l.zip m).map fun p => .tuple [w p.1, v p.2]
  | [], _ => by simp [zipD]
  | _ :: _, [] => by simp [zipD]
  | a :: r, b :: s => by
    show PyData.tuple [w a, v b] :: zipD (r.map w) (s.map v) = _
    rw [zipD_map w v r s]
    rfl
/-- a for by an invariant: no turn leaves the def -/
theorem lp_inv {f : D → Env → Out} {P : Nat → Env → Prop} : ∀ {l : List D} {n : Nat} {env : Env}, P n env → (∀ i d e, l[i]? = some d → P (n + i) e → ∃ e', (f d e = .nx e' ∨ f d e = .cnt e') ∧ P (n + i + 1) e') → ∃ e, lp f l env = .nx e ∧ P (n + l.length) e
  | [], n, env, h, _ => ⟨env, rfl, h⟩
  | d :: r, n, env, h, q => by
    obtain ⟨e', h1, h2⟩ := q 0 d env rfl h
    obtain ⟨e, h3, h4⟩ := lp_inv (l := r) (n := n + 1) h2 fun i d2 e2 hi he => by
      have := q (i + 1) d2 e2 (by simpa using hi) (by rw [show n + (i + 1) = n + 1 + i by omega]; exact he)
      rw [show n + (i + 1) + 1 = n + 1 + i + 1 by omega] at this
      exact this
    refine ⟨e, ?_, by rw [List.length_cons, show n + (r.length + 1) = n + 1 + r.length by omega]; exact h4⟩
    unfold lp
    rcases h1 with h1 | h1 <;> rw [h1] <;> exact h3
end
end PV
namespace PV
open PySem L2
/-! ### steps through a body -/
def Ret (Q : Tag → D → Prop) (X : Str → Prop) : Out → Prop
  | .ret .sh d => Q .sh d
  | .ret .ow d => Q .ow d
  | .ret .tr d => Q .tr d
  | .nx _ => Q .sh .none
  | .exc c _ => X c
  | _ => False
def NoX : Str → Prop := fun _ => False
def Turn (I : Env → Prop) (P : Out → Prop) : Out → Prop
  | .nx e => I e
  | .cnt e => I e
  | .brk e => P (.nx e)
  | .ret t d => P (.ret t d)
  | .exc c e => P (.exc c e)
  | .stuck => False
/-- a statement that goes on -/
def Goes (J : Env → Prop) : Out → Prop
  | .nx e => J e
  | _ => False
/-- what is wanted of an outcome (a wrapper: nothing is reckoned before it is asked) -/
structure Sat (P : Out → Prop) (o : Out) : Prop where
  go : P o
section
variable {G : Gam} {n : Nat} {P : Out → Prop} {env : Env} {r : List Sx} {s : Sx}
@[simp] theorem ok1_ok {d : D} : ok1 d = .ok (.sh, d) := rfl
theorem ss_nil : evSs G n [] env = .nx env := rfl
theorem ss_cons : evSs G n (s :: r) env = (evS G n s env).then fun e => evSs G n r e := rfl
theorem ss_app : ∀ {a : List Sx} {env : Env}, evSs G n (a ++ r) env = (evSs G n a env).then fun e => evSs G n r e
  | [], _ => rfl
  | x :: a, env => by
    rw [List.cons_append, ss_cons, ss_cons]
    cases evS G n x env <;> first | rfl | exact ss_app
@[simp] theorem then_ss {a : List Sx} : ((evSs G n a env).then fun e => evSs G n r e) = evSs G n (a ++ r) env := ss_app.symm
theorem def_ret {Q : Tag → D → Prop} {sz k : Nat} {b : List Sx} {ds : List D} (h : ds.length = k) (q' : Sat (Ret Q NoX) (evSs G n b (ds.map Slot.sh ++ List.replicate (sz - ds.length) Slot.no))) : ∃ o d, evDef G n sz k b ds = .ok (o, d) ∧ Q o d := by
  have q := q'.go
  unfold evDef
  rw [if_neg (fun z => z h)]
  cases ho : evSs G n b (ds.map Slot.sh ++ List.replicate (sz - ds.length) Slot.no) with
  | nx e => rw [ho] at q; exact ⟨_, _, rfl, q⟩
  | ret t d =>
    rw [ho] at q
    cases t with
    | sh => exact ⟨_, _, rfl, q⟩
    | ow => exact ⟨_, _, rfl, q⟩
    | tr => exact ⟨_, _, rfl, q⟩
    | pk => exact (show False from q).elim
    | rt => exact (show False from q).elim
  | brk e => rw [ho] at q; exact (show False from q).elim
  | cnt e => rw [ho] at q; exact (show False from q).elim
  | exc c e => rw [ho] at q; exact (show False from q).elim
  | stuck => rw [ho] at q; exact (show False from q).elim
theorem def_is {o : Tag} {d : D} {sz k : Nat} {b : List Sx} {ds : List D} (h : ds.length = k) (q : Sat (Ret (fun o' d' => o' = o ∧ d' = d) NoX) (evSs G n b (ds.map Slot.sh ++ List.replicate (sz - ds.length) Slot.no))) : evDef G n sz k b ds = .ok (o, d) := by
  obtain ⟨o', d', h1, rfl, rfl⟩ := def_ret h q
  exact h1
theorem s_step {J : Env → Prop} (h' : Sat (Goes J) (evS G n s env)) (k : ∀ e, J e → Sat P (evSs G n r e)) : Sat P (evSs G n (s :: r) env) := by
  have h := h'.go
  rw [ss_cons]
  cases ho : evS G n s env with
  | nx e => rw [ho] at h; exact k e h
  | _ => rw [ho] at h; exact (show False from h).elim
theorem lp_turn {f : D → Env → Out} {I : Nat → Env → Prop} : ∀ {l : List D} {m : Nat} {env : Env}, I m env → (∀ i d e, l[i]? = some d → I (m + i) e → Turn (I (m + i + 1)) P (f d e)) → (∀ e, I (m + l.length) e → P (.nx e)) → P (lp f l env)
  | [], m, env, h, _, k => k env h
  | d :: r, m, env, h, q, k => by
    have t := q 0 d env rfl h
    have go : ∀ e, I (m + 1) e → P (lp f r e) := fun e he => lp_turn (l := r) (m := m + 1) he (fun i d2 e2 hi h2 => by
      have := q (i + 1) d2 e2 (by simpa using hi) (by rw [show m + (i + 1) = m + 1 + i by omega]; exact h2)
      rw [show m + (i + 1) + 1 = m + 1 + i + 1 by omega] at this
      exact this) fun e2 h2 => k e2 (by rw [List.length_cons, show m + (r.length + 1) = m + 1 + r.length by omega]; exact h2)
    unfold lp
    cases ho : f d env with
    | nx e => rw [ho] at t; exact go e t
    | cnt e => rw [ho] at t; exact go e t
    | brk e => rw [ho] at t; exact t
    | ret u v => rw [ho] at t; exact t
    | exc c e => rw [ho] at t; exact t
    | stuck => rw [ho] at t; exact (show False from t).elim
theorem wh_turn {c : Env → R Bool} {f : Env → Out} {I : Nat → Env → Prop} : ∀ {n m : Nat} {env : Env}, I m env → m < n → (∀ m e, I m e → (c e = .ok false ∧ P (.nx e)) ∨ (c e = .ok true ∧ Turn (fun e2 => ∃ m2, m2 < m ∧ I m2 e2) P (f e))) → P (wh c f n env)
  | 0, _, _, _, hl, _ => absurd hl (by omega)
  | n + 1, m, env, h, hl, q => by
    unfold wh
    rcases q m env h with ⟨h1, h2⟩ | ⟨h1, t⟩
    · rw [h1]
      exact h2
    · rw [h1]
      show P (match f env with | .nx e => _ | .cnt e => _ | .brk e => _ | .ret t d => _ | .exc c e => _ | .stuck => _)
      have go : ∀ e, (∃ m2, m2 < m ∧ I m2 e) → P (wh c f n e) := fun e ⟨m2, a, b⟩ => wh_turn b (by omega) q
      cases ho : f env with
      | nx e => rw [ho] at t; exact go e t
      | cnt e => rw [ho] at t; exact go e t
      | brk e => rw [ho] at t; exact t
      | ret u v => rw [ho] at t; exact t
      | exc c e => rw [ho] at t; exact t
      | stuck => rw [ho] at t; exact (show False from t).elim
/-- a for, entered -/
theorem s_for {fz : List Nat} {tg : Tg} {src : Src} {b : List Sx} {ds : List D} {t : Tag} {e0 : Env} {I : Nat → Env → Prop} (hf : frz fz env = e0) (h : evSrc G src e0 = .ok (t, ds)) (ht : t.dm = .sh) (h0 : I 0 e0)
    (turn : ∀ i d e, ds[i]? = some d → I i e → ∃ e2, bindT tg (.sh, d) e = some e2 ∧ Sat (Turn (I (i + 1)) (fun o => Sat P (o.then fun e => evSs G n r e))) (evSs G n b e2)) (fin : ∀ e, I ds.length e → Sat P (evSs G n r e)) : Sat P (evSs G n (.lop fz tg src b :: r) env) := by
  rw [ss_cons]
  show Sat P (((Out.of (frz fz env) (evSrc G src (frz fz env)) _)).then _)
  rw [hf, h]
  show Sat P ((match t.dm with | .sh => _ | _ => _ : Out).then _)
  rw [ht]
  refine lp_turn (P := fun o => Sat P (o.then fun e => evSs G n r e)) (I := I) (m := 0) h0 (fun i d e hd he => ?_) (by simpa using fin)
  rw [Nat.zero_add] at he ⊢
  obtain ⟨e2, h1, h2⟩ := turn i d e hd he
  rw [h1]
  exact h2.go
theorem s_while {c : Te} {b : List Sx} {I : Nat → Env → Prop} {m : Nat} (h0 : I m env) (hm : m < n) (turn : ∀ m e, I m e → (evT G c e = .ok false ∧ Sat P (evSs G n r e)) ∨ (evT G c e = .ok true ∧ Sat (Turn (fun e2 => ∃ m2, m2 < m ∧ I m2 e2) (fun o => Sat P (o.then fun e => evSs G n r e))) (evSs G n b e))) :
    Sat P (evSs G n (.whl c b :: r) env) := by
  rw [ss_cons]
  exact wh_turn (P := fun o => Sat P (o.then fun e => evSs G n r e)) (I := I) h0 hm fun m e h => (turn m e h).imp id fun q => ⟨q.1, q.2.go⟩
theorem s_if {c : Te} {a b : List Sx} {t : Bool} (h : evT G c env = .ok t) (h1 : t = true → Sat P (evSs G n (a ++ r) env)) (h2 : t = false → Sat P (evSs G n (b ++ r) env)) : Sat P (evSs G n (.ifs c a b :: r) env) := by
  rw [ss_cons]
  show Sat P ((Out.of env (evT G c env) _).then _)
  rw [h]
  cases t with
  | true => show Sat P ((evSs G n a env).then _); rw [then_ss]; exact h1 rfl
  | false => show Sat P ((evSs G n b env).then _); rw [then_ss]; exact h2 rfl
/-- the same, where what follows is one -/
theorem s_if1 {c : Te} {a b : List Sx} {t : Bool} {J : Env → Prop} (h : evT G c env = .ok t) (h1 : t = true → Sat (Goes J) (evSs G n a env)) (h2 : t = false → Sat (Goes J) (evSs G n b env)) (k : ∀ e, J e → Sat P (evSs G n r e)) : Sat P (evSs G n (.ifs c a b :: r) env) := by
  refine s_step (J := J) ?_ k
  show Sat (Goes J) (Out.of env (evT G c env) _)
  rw [h]
  cases t with
  | true => exact h1 rfl
  | false => exact h2 rfl
@[simp] theorem sat_nil : Sat P (evSs G n [] env) ↔ Sat P (.nx env) := Iff.rfl
@[simp] theorem sat_rs {Q : Tag → D → Prop} {X : Str → Prop} {d : D} : Sat (Ret Q X) (.ret .sh d) ↔ Q .sh d := ⟨fun h => h.go, fun h => ⟨h⟩⟩
@[simp] theorem sat_ro {Q : Tag → D → Prop} {X : Str → Prop} {d : D} : Sat (Ret Q X) (.ret .ow d) ↔ Q .ow d := ⟨fun h => h.go, fun h => ⟨h⟩⟩
@[simp] theorem sat_rt {Q : Tag → D → Prop} {X : Str → Prop} {d : D} : Sat (Ret Q X) (.ret .tr d) ↔ Q .tr d := ⟨fun h => h.go, fun h => ⟨h⟩⟩
@[simp] theorem sat_rn {Q : Tag → D → Prop} {X : Str → Prop} {e : Env} : Sat (Ret Q X) (.nx e) ↔ Q .sh .none := ⟨fun h => h.go, fun h => ⟨h⟩⟩
@[simp] theorem sat_rx {Q : Tag → D → Prop} {X : Str → Prop} {e : Env} {c : Str} : Sat (Ret Q X) (.exc c e) ↔ X c := ⟨fun h => h.go, fun h => ⟨h⟩⟩
@[simp] theorem sat_gn {J : Env → Prop} {e : Env} : Sat (Goes J) (.nx e) ↔ J e := ⟨fun h => h.go, fun h => ⟨h⟩⟩
@[simp] theorem sat_tn {I : Env → Prop} {e : Env} : Sat (Turn I P) (.nx e) ↔ I e := ⟨fun h => h.go, fun h => ⟨h⟩⟩
@[simp] theorem sat_tc {I : Env → Prop} {e : Env} : Sat (Turn I P) (.cnt e) ↔ I e := ⟨fun h => h.go, fun h => ⟨h⟩⟩
@[simp] theorem sat_tb {I : Env → Prop} {e : Env} : Sat (Turn I P) (.brk e) ↔ P (.nx e) := ⟨fun h => h.go, fun h => ⟨h⟩⟩
@[simp] theorem sat_tr {I : Env → Prop} {t : Tag} {d : D} : Sat (Turn I P) (.ret t d) ↔ P (.ret t d) := ⟨fun h => h.go, fun h => ⟨h⟩⟩
@[simp] theorem sat_tx {I : Env → Prop} {c : Str} {e : Env} : Sat (Turn I P) (.exc c e) ↔ P (.exc c e) := ⟨fun h => h.go, fun h => ⟨h⟩⟩
theorem s_asg {fz : List Nat} {i : Nat} {e : Ex} {x : TD} {e0 e1 : Env} (hf : frz fz env = e0) (h : ev G e e0 = .ok x) (hp : put e0 i x = .nx e1) (k : Sat P (evSs G n r e1)) : Sat P (evSs G n (.asg fz i e :: r) env) := by
  rw [ss_cons]
  show Sat P ((Out.of (frz fz env) (ev G e (frz fz env)) _).then _)
  rw [hf, h]
  show Sat P ((put e0 i x).then _)
  rw [hp]
  exact k
theorem two64 : (2 : Int) ^ 64 = 18446744073709551616 := by decide +kernel
theorem mul_l {s t : Tag} {i j : Int} (h1 : -18446744073709551616 < i) (h2 : i < 18446744073709551616) : evBin .mul (s, .int i) (t, .int j) = .ok (.sh, .int (i * j)) := mul_int (by unfold mulOk; rw [two64, decide_eq_true h1, decide_eq_true h2]; simp)
theorem mul_r {s t : Tag} {i j : Int} (h1 : -18446744073709551616 < j) (h2 : j < 18446744073709551616) : evBin .mul (s, .int i) (t, .int j) = .ok (.sh, .int (i * j)) := mul_int (by unfold mulOk; rw [two64, decide_eq_true h1, decide_eq_true h2]; simp)
end
end PV
namespace PV
open PySem L2
section
variable {G : Gam} {env : Env} {n : Nat}
def cprItem (G : Gam) (tg : Tg) (c : Tes) (e : Ex) (env : Env) (t : Tag) (d : D) : R (Option D) := match bindT tg (nt t d, d) env with
  | none => .stuck
  | some env2 => (evTA G c env2).bind fun t => match t with | true => (ev G e env2).bind fun x => (shOnly x).bind fun d => .ok (some d) | false => .ok none
theorem e_filter {γ : Type} {own : List (Str × Nat)} {tg : Tg} {src : Src} {c : Tes} {e : Ex} {t : Tag} {l : List γ} {w h : γ → D} {p : γ → Bool} (hs : evSrc G src env = .ok (t, l.map w)) (hl : l.length ≤ lim)
    (hi : ∀ x ∈ l, cprItem G tg c e (wipeE env (own.map (·.2))) t.kid (w x) = .ok (if p x then some (h x) else none)) (he : isPr e = false := by rfl) : ev G (.cpr own tg src c e) env = .ok (.ow, .list ((l.filter p).map h)) := by
  unfold ev
  have hI : ∀ x, itm e x = shOnly x := fun x => by unfold itm; rw [he]; rfl
  have hT : cpTag e = .ow := by unfold cpTag; rw [he]; rfl
  simp only [hI, hT]
  rw [hs]
  show (nox (cpl (fun d => cprItem G tg c e (wipeE env (own.map (·.2))) t.kid d) (l.map w))).bind (fun r => PV.guard (decide ((l.map w).length ≤ lim)) (.ok (.ow, .list r))) = _
  rw [cpl_filter w p h l hi, List.length_map, decide_eq_true hl]
  rfl
theorem e_map {γ : Type} {own : List (Str × Nat)} {tg : Tg} {src : Src} {c : Tes} {e : Ex} {t : Tag} {l : List γ} {w h : γ → D} (hs : evSrc G src env = .ok (t, l.map w)) (hl : l.length ≤ lim)
    (hi : ∀ x ∈ l, cprItem G tg c e (wipeE env (own.map (·.2))) t.kid (w x) = .ok (some (h x))) (he : isPr e = false := by rfl) : ev G (.cpr own tg src c e) env = .ok (.ow, .list (l.map h)) := by
  have := e_filter (p := fun _ => true) hs hl (by simpa using hi) he
  rwa [List.filter_eq_self.mpr fun _ _ => rfl] at this
/-- a comprehension of trees -/
def cprItemT (G : Gam) (tg : Tg) (c : Tes) (e : Ex) (env : Env) (t : Tag) (d : D) : R (Option D) := match bindT tg (nt t d, d) env with
  | none => .stuck
  | some env2 => (evTA G c env2).bind fun t => match t with | true => (ev G e env2).bind fun x => (treeOf x).bind fun d => .ok (some d) | false => .ok none
theorem e_mapT {γ : Type} {own : List (Str × Nat)} {tg : Tg} {src : Src} {c : Tes} {e : Ex} {t : Tag} {l : List γ} {w h : γ → D} (hs : evSrc G src env = .ok (t, l.map w)) (hl : l.length ≤ lim)
    (hi : ∀ x ∈ l, cprItemT G tg c e (wipeE env (own.map (·.2))) t.kid (w x) = .ok (some (h x))) (he : isPr e = true := by rfl) : ev G (.cpr own tg src c e) env = .ok (.tr, .list (l.map h)) := by
  unfold ev
  have hI : ∀ x, itm e x = treeOf x := fun x => by unfold itm; rw [he]; rfl
  have hT : cpTag e = .tr := by unfold cpTag; rw [he]; rfl
  simp only [hI, hT]
  rw [hs]
  show (nox (cpl (fun d => cprItemT G tg c e (wipeE env (own.map (·.2))) t.kid d) (l.map w))).bind (fun r => PV.guard (decide ((l.map w).length ≤ lim)) (.ok (.tr, .list r))) = _
  have hi2 : ∀ x ∈ l, cprItemT G tg c e (wipeE env (own.map (·.2))) t.kid (w x) = .ok (if (fun _ : γ => true) x then some (h x) else none) := by simpa using hi
  rw [cpl_filter w (fun _ => true) h l hi2, List.length_map, decide_eq_true hl, List.filter_eq_self.mpr fun _ _ => rfl]
  rfl
@[simp] theorem at_0 {s : Slot} {r : List Slot} : (s :: r)[0]? = some s := rfl
@[simp] theorem at_s {s : Slot} {r : List Slot} {i : Nat} : (s :: r)[i + 1]? = r[i]? := rfl
@[simp] theorem x_var {i : Nat} : ev G (.var i) env = match env[i]? with | some (.sh d) => .ok (.sh, d) | some (.ow d) => .ok (.rt, d) | some (.od d) => .ok (nt .pk d, d) | _ => .stuck := rfl
@[simp] theorem x_cst {c : Const} : ev G (.cst c) env = match constD c with | some d => .ok (.sh, d) | none => .stuck := rfl
@[simp] theorem x_bin {o : Bop} {a b : Ex} : ev G (.bin o a b) env = (ev G a env).bind fun x => (ev G b env).bind fun y => evBin o x y := rfl
@[simp] theorem x_neg {a : Ex} : ev G (.neg a) env = (ev G a env).bind fun x => evNeg x.2 := rfl
@[simp] theorem x_cmp {o : Cop} {a b : Ex} : ev G (.cmp o a b) env = (ev G a env).bind fun x => (ev G b env).bind fun y => (evCmp o x.2 y.2).bind fun r => .ok (.sh, .bool r) := rfl
@[simp] theorem x_chn {o p : Cop} {a b c : Ex} : ev G (.chn o p a b c) env = (ev G a env).bind fun x => (ev G b env).bind fun y => (evCmp o x.2 y.2).bind fun r =>
      match r with
      | true => (ev G c env).bind fun z => (evCmp p y.2 z.2).bind fun r => .ok (.sh, .bool r)
      | false => .ok (.sh, .bool false) := rfl
@[simp] theorem x_lan {es : Exs} : ev G (.lan es) env = evAnd G es env := rfl
@[simp] theorem x_lor {es : Exs} : ev G (.lor es) env = evOr G es env := rfl
@[simp] theorem x_lno {a : Ex} : ev G (.lno a) env = (ev G a env).bind fun x => (isBool x.2).bind fun b => .ok (.sh, .bool (!b)) := rfl
@[simp] theorem x_ife {c : Te} {a b : Ex} : ev G (.ife c a b) env = (evT G c env).bind fun t => match t with | true => ev G a env | false => ev G b env := rfl
@[simp] theorem x_tup {es : Exs} : ev G (.tup es) env = (evs G es env).bind fun l => PV.guard (decide (l.length ≤ lim)) (.ok (jnL l, .tuple (l.map (·.2)))) := rfl
@[simp] theorem x_lst {es : Exs} : ev G (.lst es) env = (evs G es env).bind fun l => PV.guard (decide (l.length ≤ lim)) (.ok ((jnL l).root, .list (l.map (·.2)))) := rfl
@[simp] theorem x_ix {a b : Ex} : ev G (.ix a b) env = (ev G a env).bind fun x => (ev G b env).bind fun y => evIx x y.2 := rfl
@[simp] theorem x_sli {a : Ex} {l h : Pt} : ev G (.sli a l h) env = (ev G a env).bind fun x => (evP G l env).bind fun l => (evP G h env).bind fun h => evSl x l h := rfl
@[simp] theorem x_call {f : Str} {es : Exs} : ev G (.call f es) env = match G f with | none => .stuck | some g => (evs G es env).bind fun l => (g (l.map (·.2))).bind fun r => .ok (callTag (jnL l) r.1 r.2, r.2) := rfl
@[simp] theorem x_bi {b : Bi} {es : Exs} : ev G (.bi b es) env = (evs G es env).bind fun l => evBi b l := rfl
@[simp] theorem x_isi {a : Ex} {t : Ty} : ev G (.isi a t) env = (ev G a env).bind fun x => match isT t x.2 with | some b => .ok (.sh, .bool b) | none => .stuck := rfl
@[simp] theorem x_join {a b : Ex} : ev G (.join a b) env = (ev G a env).bind fun x => (isStr x.2).bind fun s => (ev G b env).bind fun y => evJoin s y.2 := rfl
@[simp] theorem isStr_str {z : Str} : isStr (.str z) = .ok z := rfl
@[simp] theorem x_no : evP G .no env = .ok none := rfl
@[simp] theorem x_at {e : Ex} : evP G (.at e) env = (ev G e env).bind fun x => (isInt x.2).bind fun i => .ok (some i) := rfl
@[simp] theorem x_nil : evs G .nil env = .ok [] := rfl
@[simp] theorem x_cons {e : Ex} {es : Exs} : evs G (.cons e es) env = (ev G e env).bind fun x => (evs G es env).bind fun l => .ok (x :: l) := rfl
@[simp] theorem x_and1 {e : Ex} : evAnd G (.cons e .nil) env = ev G e env := rfl
@[simp] theorem x_and2 {e f : Ex} {es : Exs} : evAnd G (.cons e (.cons f es)) env = (ev G e env).bind fun x => (isBool x.2).bind fun b => match b with | true => evAnd G (.cons f es) env | false => .ok (.sh, .bool false) := rfl
@[simp] theorem x_or1 {e : Ex} : evOr G (.cons e .nil) env = ev G e env := rfl
@[simp] theorem x_or2 {e f : Ex} {es : Exs} : evOr G (.cons e (.cons f es)) env = (ev G e env).bind fun x => (isBool x.2).bind fun b => match b with | false => evOr G (.cons f es) env | true => .ok (.sh, .bool true) := rfl
@[simp] theorem x_val {e : Ex} : evT G (.val e) env = (ev G e env).bind fun x => isBool x.2 := rfl
@[simp] theorem x_tru {e : Ex} : evT G (.tru e) env = (ev G e env).bind fun x => truth x.2 := rfl
@[simp] theorem x_tand {ts : Tes} : evT G (.and ts) env = evTA G ts env := rfl
@[simp] theorem x_tor {ts : Tes} : evT G (.or ts) env = evTO G ts env := rfl
@[simp] theorem x_tnot {a : Te} : evT G (.not a) env = (evT G a env).bind fun t => .ok (!t) := rfl
@[simp] theorem x_ta0 : evTA G .nil env = .ok true := rfl
@[simp] theorem x_ta {a : Te} {ts : Tes} : evTA G (.cons a ts) env = (evT G a env).bind fun t => match t with | true => evTA G ts env | false => .ok false := rfl
@[simp] theorem x_to0 : evTO G .nil env = .ok false := rfl
@[simp] theorem x_to {a : Te} {ts : Tes} : evTO G (.cons a ts) env = (evT G a env).bind fun t => match t with | true => .ok true | false => evTO G ts env := rfl
@[simp] theorem x_slst {e : Ex} : evSrc G (.lst e) env = (ev G e env).bind fun x => match x.2 with | .list ds => .ok (x.1, ds) | _ => .stuck := rfl
@[simp] theorem x_stup {e : Ex} : evSrc G (.tup e) env = (ev G e env).bind fun x => match x.2 with | .tuple ds => .ok (x.1, ds) | _ => .stuck := rfl
@[simp] theorem x_rg1 {a : Ex} : evSrc G (.rg1 a) env = (ev G a env).bind fun x => (isInt x.2).bind fun j => if small j then .ok (.sh, ranged 0 j) else .stuck := rfl
@[simp] theorem x_rg2 {a b : Ex} : evSrc G (.rg2 a b) env = (ev G a env).bind fun x => (ev G b env).bind fun y => (isInt x.2).bind fun i => (isInt y.2).bind fun j => if small i && small j then .ok (.sh, ranged i j) else .stuck := rfl
@[simp] theorem x_enu {e : Ex} : evSrc G (.enu e) env = (ev G e env).bind fun x => match x.2 with | .list ds => .ok (x.1, enumD 0 ds) | _ => .stuck := rfl
@[simp] theorem x_zip {a b : Ex} : evSrc G (.zip a b) env = (ev G a env).bind fun x => (ev G b env).bind fun y => match x.2, y.2 with | .list ds, .list es => .ok (zt x.1 y.1, zipD ds es) | _, _ => .stuck := rfl
@[simp] theorem x_rev {e : Ex} : evSrc G (.rev e) env = (ev G e env).bind fun x => match x.2 with | .list ds => .ok (x.1, ds.reverse) | _ => .stuck := rfl
@[simp] theorem y_asg {fz : List Nat} {i : Nat} {e : Ex} : evS G n (.asg fz i e) env = Out.of (frz fz env) (ev G e (frz fz env)) fun x => put (frz fz env) i x := rfl
@[simp] theorem y_ret {fz : List Nat} {e : Ex} : evS G n (.ret fz e) env = Out.of (frz fz env) (ev G e (frz fz env)) fun x => match nt x.1 x.2 with | .sh => .ret .sh x.2 | .ow => .ret .ow x.2 | .tr => .ret .tr x.2 | _ => .stuck := rfl
@[simp] theorem y_rtv {i : Nat} : evS G n (.rtv i) env = match env[i]? with | some (.ow d) => .ret .ow d | some (.sh d) => .ret .sh d | some (.od d) => .ret .tr d | _ => .stuck := rfl
@[simp] theorem y_aug {i : Nat} {o : Bop} {e : Ex} : evS G n (.aug i o e) env = Out.of env (shD env i) fun a => Out.of env (ev G e env) fun x => Out.of env (augB o a x.2) fun r => .nx (env.set i (.sh r)) := rfl
@[simp] theorem y_app {fz : List Nat} {i : Nat} {e : Ex} : evS G n (.app fz i e) env = Out.of (frz fz env) (ownL (frz fz env) i) fun ds => Out.of (frz fz env) (ev G e (frz fz env)) fun y => Out.of (frz fz env) (shOnly y) fun r =>
      if ds.length < lim then .nx ((frz fz env).set i (.ow (.list (ds ++ [r])))) else .stuck := rfl
@[simp] theorem y_setX {fz : List Nat} {i : Nat} {x e : Ex} : evS G n (.setX fz i x e) env = Out.of (frz fz env) (ev G e (frz fz env)) fun y => Out.of (frz fz env) (shOnly y) fun r => Out.of (frz fz env) (ownL (frz fz env) i) fun ds =>
      Out.of (frz fz env) (ev G x (frz fz env)) fun k => Out.of (frz fz env) (isInt k.2) fun k => Out.of (frz fz env) (placed ds k) fun p => .nx ((frz fz env).set i (.ow (.list (ds.set p.1 r)))) := rfl
@[simp] theorem y_augX {i : Nat} {o : Bop} {x e : Ex} : evS G n (.augX i o x e) env = Out.of env (ownL env i) fun ds => Out.of env (ev G x env) fun k => Out.of env (isInt k.2) fun k => Out.of env (placed ds k) fun p =>
      Out.of env (ev G e env) fun y => Out.of env (augB o p.2 y.2) fun r => .nx (env.set i (.ow (.list (ds.set p.1 r)))) := rfl
@[simp] theorem y_asgT {fz is : List Nat} {e : Ex} : evS G n (.asgT fz is e) env = Out.of (frz fz env) (ev G e (frz fz env)) fun x => match bindT (.tp is) ((nt x.1 x.2).dm, x.2) (frz fz env) with | some e2 => .nx e2 | none => .stuck := rfl
@[simp] theorem y_exp {e : Ex} : evS G n (.exp e) env = Out.of env (ev G e env) fun _ => .nx env := rfl
@[simp] theorem y_rtn : evS G n .rtn env = .ret .sh .none := rfl
@[simp] theorem y_brk : evS G n .brk env = .brk env := rfl
@[simp] theorem y_cnt : evS G n .cnt env = .cnt env := rfl
@[simp] theorem y_tryK {x : Str} {ks : List Str} {v : Bool} {b : Sx} : evS G n (.tryK x ks v b) env = (evS G n b env).caughtK x ks v := rfl
@[simp] theorem y_pas : evS G n .pas env = .nx env := rfl
@[simp] theorem y_rai {c : Str} : evS G n (.rai c) env = .exc c env := rfl
@[simp] theorem ownL_nil {ds : List D} {r : List Slot} : ownL (.ow (.list ds) :: r) 0 = .ok ds := rfl
@[simp] theorem ownL_cons {s : Slot} {r : List Slot} {i : Nat} : ownL (s :: r) (i + 1) = ownL r i := by simp [ownL]
@[simp] theorem shD_nil {d : D} {r : List Slot} : shD (.sh d :: r) 0 = .ok d := rfl
@[simp] theorem shD_cons {s : Slot} {r : List Slot} {i : Nat} : shD (s :: r) (i + 1) = shD r i := by simp [shD]
@[simp] theorem aug_add {i j : Int} : augB .add (.int i) (.int j) = .ok (.int (i + j)) := rfl
@[simp] theorem aug_sub {i j : Int} : augB .sub (.int i) (.int j) = .ok (.int (i - j)) := rfl
@[simp] theorem small_nat {k : Int} (h1 : -4000000000000000000 ≤ k) (h2 : k ≤ 4000000000000000000) : small k = true := by
  unfold small
  rw [decide_eq_true (by omega), decide_eq_true (by omega)]
  rfl
/-- over a range -/
theorem e_rng {own : List (Str × Nat)} {tg : Tg} {c : Tes} {e a : Ex} {j : Int} {u : Tag} {h : Nat → D} (hs : ev G a env = .ok (u, .int j)) (h0 : -4000000000000000000 ≤ j) (hl : j ≤ 16000000)
    (hi : ∀ x : Nat, (x : Int) < j → cprItem G tg c e (wipeE env (own.map (·.2))) .sh (.int x) = .ok (some (h x))) (he : isPr e = false := by rfl) : ev G (.cpr own tg (.rg1 a) c e) env = .ok (.ow, .list ((List.range j.toNat).map h)) := by
  refine e_map (t := .sh) (w := fun x : Nat => .int x) ?_ (by rw [List.length_range]; show j.toNat ≤ 16000000; omega) (fun x hx => hi x (by have := List.mem_range.mp hx; omega)) he
  rw [x_rg1, hs]
  simp [small_nat h0 (by omega), ranged]
theorem il_snoc {xs : List Int} {y : Int} : PyData.list (xs.map .int ++ [.int y]) = il (xs ++ [y]) := by simp [il]
theorem il_set {xs : List Int} {j : Nat} {y : Int} : PyData.list ((xs.map .int).set j (.int y)) = il (xs.set j y) := by
  simp [il, List.map_set]
theorem il_rng {n : Nat} {f : Nat → Int} : PyData.list ((List.range n).map fun x => .int (f x)) = il ((List.range n).map f) := by simp [il]
theorem abs_rng (n : Nat) (f : Nat → Int) (P : Int → Prop) (h : ∀ x, P (f x)) : ∃ X : List Int, (List.range n).map f = X ∧ X.length = n ∧ ∀ y ∈ X, P y :=
  ⟨_, rfl, by simp, fun y hy => by obtain ⟨x, _, rfl⟩ := List.mem_map.mp hy; exact h x⟩
@[simp] theorem lim0 : (0 ≤ lim) = True := by simp [lim]
@[simp] theorem lim1 : (1 ≤ lim) = True := by simp [lim]
@[simp] theorem lim2 : (2 ≤ lim) = True := by simp [lim]
@[simp] theorem lim3 : (3 ≤ lim) = True := by simp [lim]
@[simp] theorem lim4 : (4 ≤ lim) = True := by simp [lim]
@[simp] theorem lim5 : (5 ≤ lim) = True := by simp [lim]
@[simp] theorem lim6 : (6 ≤ lim) = True := by simp [lim]
@[simp] theorem lim7 : (7 ≤ lim) = True := by simp [lim]
@[simp] theorem le_lim {n : Nat} (h : n ≤ 16000000) : (n ≤ lim) = True := eq_true h
@[simp] theorem add_self {x : Str} {g : List D → R TD} : G.add x g x = some g := if_pos rfl
theorem add_ne {x y : Str} {g : List D → R TD} (h : y ≠ x) : G.add x g y = G y := if_neg h
@[simp] theorem x_dnew : ev G .dnew env = .ok (.ow, .dict []) := rfl
@[simp] theorem x_dix {a b : Ex} : ev G (.dix a b) env = (ev G a env).bind fun x => (ev G b env).bind fun y => evDix x y.2 := rfl
@[simp] theorem x_dcpy {a : Ex} : ev G (.dcpy a) env = (ev G a env).bind fun x => evDcp x := rfl
@[simp] theorem dcp_ok {t : Tag} {kvs : List (D × D)} : evDcp (t, .dict kvs) = .ok (t.kid.root, .dict kvs) := rfl
@[simp] theorem put_owd {i : Nat} {kvs : List (D × D)} : put env i (.ow, .dict kvs) = .nx (env.set i (.ow (.dict kvs))) := rfl
@[simp] theorem nt_dict {t : Tag} {kvs : List (D × D)} : nt t (.dict kvs) = t := rfl
@[simp] theorem y_setD {fz : List Nat} {i : Nat} {x e : Ex} : evS G n (.setD fz i x e) env = Out.of (frz fz env) (ev G e (frz fz env)) fun y => Out.of (frz fz env) (shOnly y) fun r => Out.of (frz fz env) (ownD (frz fz env) i) fun ds =>
      Out.of (frz fz env) (ev G x (frz fz env)) fun k => match dkey k.2 with
        | some kk => if ds.length < lim then .nx ((frz fz env).set i (.ow (.dict (dPutK ds kk r)))) else .stuck
        | none => .stuck := rfl
@[simp] theorem ownD_nil {ds : List (D × D)} {r : List Slot} : ownD (.ow (.dict ds) :: r) 0 = .ok ds := rfl
@[simp] theorem ownD_cons {s : Slot} {r : List Slot} {i : Nat} : ownD (s :: r) (i + 1) = ownD r i := by simp [ownD]
@[simp] theorem dkey_str {z : Str} : dkey (.str z) = some (Sum.inr z) := rfl
/-! ### trees -/
@[simp] theorem x_prT {es : Exs} : ev G (.prT es) env = (evs G es env).bind fun l => prD l := rfl
@[simp] theorem x_callK {f k : Str} {es : Exs} {v : Ex} {g : List D → R TD} (hg : G (kwn f k) = some g) : ev G (.callK f k es v) env = (evs G es env).bind fun l => (ev G v env).bind fun y => (g ((l ++ [y]).map (·.2))).bind fun r => .ok (callTag (jnL (l ++ [y])) r.1 r.2, r.2) := by
  show (match G (kwn f k) with | none => R.stuck | some g => _) = _
  rw [hg]
@[simp] theorem x_srk {a : Ex} {f : Str} {g : List D → R TD} (hg : G f = some g) : ev G (.srk f a) env = (ev G a env).bind fun x => evSrk G f x := by
  show (match G f with | none => R.stuck | some _ => _) = _
  rw [hg]
@[simp] theorem x_tmp {i : Nat} {a : Ex} : ev G (.tmp i a) env = (ev G a (frzI i env)).bind fun x => if scal x.2 = true then .ok (.sh, x.2) else .stuck := rfl
@[simp] theorem x_frz {a : Ex} : ev G (.frz a) env = (ev G a env).bind fun x => match (nt x.1 x.2).dm with | .sh => .ok (.sh, x.2) | _ => .stuck := rfl
@[simp] theorem put_tr {n : Nat} {xs : List D} : put env n (.tr, .list xs) = .nx (env.set n (.od (.list xs))) := rfl
@[simp] theorem put_trt {n : Nat} {xs : List D} : put env n (.tr, .tuple xs) = .nx (env.set n (.od (.tuple xs))) := rfl
@[simp] theorem nt_trl {xs : List D} : nt .tr (.list xs) = .tr := rfl
@[simp] theorem nt_trt {xs : List D} : nt .tr (.tuple xs) = .tr := rfl
@[simp] theorem sD_int : scalD (t, .int i) = .ok (.int i) := rfl
@[simp] theorem sD_none : scalD (t, .none) = .ok .none := rfl
@[simp] theorem tO_tr : treeOf (.tr, d) = .ok d := rfl
@[simp] theorem tO_ints {ns : List Int} : treeOf (.ow, .list (ns.map .int)) = .ok (.list (ns.map .int)) := by
  show (if (ns.map PyData.int).all scal = true then _ else _) = _
  exact if_pos (by rw [List.all_eq_true]; intro x hx; obtain ⟨y, _, rfl⟩ := List.mem_map.mp hx; rfl)
@[simp] theorem tO_nil : treeOf (.ow, .list []) = .ok (.list []) := rfl
@[simp] theorem prD_two {x y : TD} : prD [x, y] = (scalD x).bind fun d => (treeOf y).bind fun e => .ok (.tr, .tuple [d, e]) := rfl
theorem od_at {n : Nat} (h : env[n]? = some (.od d)) : odD env n = .ok d := by unfold odD; rw [h]
@[simp] theorem odD_nil {r : List Slot} : odD (.od d :: r) 0 = .ok d := rfl
@[simp] theorem odD_cons {s : Slot} {r : List Slot} {i : Nat} : odD (s :: r) (i + 1) = odD r i := by simp [odD]
@[simp] theorem ownT_nil {r : List Slot} : ownT (.od d :: r) 0 = .ok d := rfl
@[simp] theorem ownT_cons {s : Slot} {r : List Slot} {i : Nat} : ownT (s :: r) (i + 1) = ownT r i := by simp [ownT]
@[simp] theorem ownT_il {r : List Slot} {ns : List Int} : ownT (.ow (il ns) :: r) 0 = .ok (il ns) :=
  if_pos (by rw [List.all_eq_true]; intro x hx; obtain ⟨y, _, rfl⟩ := List.mem_map.mp hx; rfl)
@[simp] theorem tO_il {ns : List Int} : treeOf (.ow, il ns) = .ok (il ns) := tO_ints
@[simp] theorem asL_l : asL (.list xs) = .ok xs := rfl
@[simp] theorem y_asgO {fz : List Nat} {i : Nat} {e : Ex} : evS G n (.asgO fz i e) env = Out.of (frz fz env) (ev G e (frz fz env)) fun x => Out.of (frz fz env) (treeOf x) fun d => .nx ((frz fz env).set i (.od d)) := rfl
@[simp] theorem y_appO {fz : List Nat} {i : Nat} {e : Ex} : evS G n (.appO fz i e) env = Out.of (frz fz env) (odD (frz fz env) i) fun t => Out.of (frz fz env) (asL t) fun ds => Out.of (frz fz env) (ev G e (frz fz env)) fun y => Out.of (frz fz env) (treeOf y) fun r =>
      if ds.length < lim then .nx ((frz fz env).set i (.od (.list (ds ++ [r])))) else .stuck := rfl
@[simp] theorem y_rtp {a : Ex} {i : Nat} : evS G n (.rtp a i) env = Out.of env (ev G a env) fun x => Out.of env (scalD x) fun c => Out.of env (ownT env i) fun d => .ret .tr (.tuple [c, d]) := rfl
@[simp] theorem y_appP {i j : Nat} {a : Ex} : evS G n (.appP i a j) env = Out.of env (odD env i) fun t => Out.of env (asL t) fun ds => Out.of env (ev G a env) fun x => Out.of env (scalD x) fun c => Out.of env (ownT env j) fun d =>
      if i ≠ j ∧ ds.length < lim then .nx ((env.set j .no).set i (.od (.list (ds ++ [.tuple [c, d]])))) else .stuck := rfl
@[simp] theorem y_mov {i j : Nat} : evS G n (.mov i j) env = Out.of env (odD env j) fun d => if i ≠ j then .nx ((env.set j .no).set i (.od d)) else .stuck := rfl
@[simp] theorem y_movX {i j : Nat} {e : Ex} : evS G n (.movX i j e) env = Out.of env (odD env j) fun t => Out.of env (ev G e env) fun a => Out.of env (isInt a.2) fun a => Out.of env (itemsR t) fun ds => Out.of env (placed ds a) fun p => if i ≠ j then .nx ((env.set j .no).set i (.od p.2)) else .stuck := rfl
@[simp] theorem y_setXX {i : Nat} {k x e : Ex} : evS G n (.setXX i k x e) env = Out.of env (ev G e env) fun y => Out.of env (scalD y) fun c => Out.of env (odD env i) fun d => Out.of env (ev G k env) fun a => Out.of env (isInt a.2) fun a => Out.of env (rowL a d) fun p =>
      Out.of env (ev G x env) fun b => Out.of env (isInt b.2) fun b => Out.of env (rowS p b c d) fun d2 => .nx (env.set i (.od d2)) := rfl
@[simp] theorem y_appX {i : Nat} {k e : Ex} : evS G n (.appX i k e) env = Out.of env (odD env i) fun d => Out.of env (ev G k env) fun a => Out.of env (isInt a.2) fun a => Out.of env (rowL a d) fun p => Out.of env (ev G e env) fun y => Out.of env (scalD y) fun c =>
      if p.2.length < lim then .nx (env.set i (.od (putAt d p.1 (.list (p.2 ++ [c]))))) else .stuck := rfl
@[simp] theorem y_lopA {i j : Nat} {k : Int} {c : Const} : evS G n (.lopA i j k c) env = Out.of env (odD env i) fun t => Out.of env (asL t) fun ds => match constD c with
      | some c => if i ≠ j ∧ j < env.length then Out.of env (eachR (rowA k c) ds) fun es => .nx ((env.set j .no).set i (.od (.list es))) else .stuck
      | none => .stuck := rfl
@[simp] theorem y_lopS {i j : Nat} {k : Int} {x e : Ex} : evS G n (.lopS i j k x e) env = Out.of env (odD env i) fun t => Out.of env (asL t) fun ds => if i ≠ j ∧ j < env.length then
      Out.of env (nox (eachR (fun d => (ev G e ((env.set i .no).set j (.od d))).bind fun y => (scalD y).bind fun c => (rowL k d).bind fun p => (ev G x ((env.set i .no).set j (.od d))).bind fun b => (isInt b.2).bind fun b => rowS p b c d) ds)) fun es =>
        .nx ((env.set j .no).set i (.od (.list es))) else .stuck := rfl
@[simp] theorem x_glo {x : Str} {g : List D → R TD} (hg : G (cgn x) = some g) : ev G (.glo x) env = g [] := by
  unfold ev
  rw [hg]
@[simp] theorem x_callD {f : Str} {es : Exs} {g : List D → R TD} (hg : G (dfn f) = some g) : ev G (.callD f es) env = (evs G es env).bind fun l => (g (l.map (·.2))).bind fun r => .ok (callTag (jnL l) r.1 r.2, r.2) := by
  unfold ev
  rw [hg]
@[simp] theorem x_srd {a : Ex} : ev G (.srd a) env = (ev G a env).bind fun x => evSrd x := rfl
@[simp] theorem x_lrv {a : Ex} : ev G (.lrv a) env = (ev G a env).bind fun x => evRev x := rfl
@[simp] theorem x_trI {a : Ex} : ev G (.trI a) env = (ev G a env).bind fun x => (treeOf x).bind fun d => .ok (.tr, d) := rfl
@[simp] theorem x_lsT {a : Ex} : ev G (.lsT a) env = (ev G a env).bind fun x => (treeOf x).bind fun d => .ok (.tr, .list [d]) := rfl
@[simp] theorem x_rgd {a b : Ex} : evSrc G (.rgd a b) env = (ev G a env).bind fun x => (ev G b env).bind fun y => (isInt x.2).bind fun i => (isInt y.2).bind fun j => if small i && small j then .ok (.sh, rangedD i j) else .stuck := rfl
@[simp] theorem tO_dnew : treeOf (.ow, .dict []) = .ok (.dict []) := rfl
@[simp] theorem asD_d {kvs : List (D × D)} : asD (.dict kvs) = .ok kvs := rfl
@[simp] theorem dkey_int {i : Int} : dkey (.int i) = some (Sum.inl i) := rfl
@[simp] theorem y_sda {i : Nat} {k e : Ex} : evS G n (.sda i k e) env = Out.of env (odD env i) fun d => Out.of env (asD d) fun kvs => Out.of env (ev G k env) fun a => match dkey a.2 with
      | none => .stuck
      | some kk => Out.of env (sdRow kvs kk) fun ws => Out.of env (nox (ev G e (env.set i .no))) fun y => Out.of env (scalD y) fun c =>
        if kvs.length < lim ∧ ws.length < lim then .nx (env.set i (.od (.dict (dPutK kvs kk (.list (ws ++ [c])))))) else .stuck := rfl
@[simp] theorem y_rtc {x : Str} {j i : Nat} {a : Ex} : evS G n (.rtc x j i a) env = Out.of env (odD env i) fun t => Out.of env (asL t) fun ds => Out.of env (nox (ev G a (env.set j .no))) fun y => Out.of env (scalD y) fun c =>
      if sortOk ds = true ∧ i ≠ j ∧ j < env.length ∧ ds.length ≤ lim then .ret .tr (.list ((sortV ds ds).map fun d => .tuple [c, d])) else .stuck := rfl
theorem y_rts {f : Str} {i : Nat} : evS G n (.rts f i) env = match G f with
    | none => .stuck
    | some g => Out.of env (odD env i) fun t => Out.of env (asL t) fun ds => match keysOf g ds with
      | some ks => if sortOk ks = true then .ret .tr (.list (sortV ds ks)) else .stuck
      | none => .stuck := rfl
@[simp] theorem y_apc {e c : Ex} : evS G n (.apc e c) env = Out.of env (ev G e env) fun x => match x with
    | (.ow, .list ds) => Out.of env (nox (ev G c env)) fun y => Out.of env (scalD y) fun _ => if ds.length < lim then .nx env else .stuck
    | _ => .stuck := rfl
@[simp] theorem y_appT {i j : Nat} : evS G n (.appT i j) env = Out.of env (odD env i) fun t => Out.of env (asL t) fun ds => Out.of env (ownT env j) fun d => if i ≠ j ∧ ds.length < lim then .nx ((env.set j .no).set i (.od (.list (ds ++ [d])))) else .stuck := rfl
@[simp] theorem y_lopP {fz : List Nat} {i j : Nat} {e x : Ex} {c : Int} : evS G n (.lopP fz i j e x c) env = Out.of (frz fz env) (ev G e (frz fz env)) fun s => Out.of (frz fz env) (treeOf s) fun t => Out.of (frz fz env) (asL t) fun ds => Out.of (frz fz env) (odD (frz fz env) i) fun u => Out.of (frz fz env) (asL u) fun fs =>
      if i ≠ j ∧ j < (frz fz env).length ∧ fs.length + ds.length < lim then
        Out.of (frz fz env) (nox (eachR (fun d => (ev G x (((frz fz env).set i .no).set j .no)).bind fun b => (isInt b.2).bind fun b => bump b c d) ds)) fun es => .nx (((frz fz env).set j .no).set i (.od (.list (fs ++ es)))) else .stuck := rfl
@[simp] theorem y_ins {fz : List Nat} {i : Nat} {k e : Ex} : evS G n (.ins fz i k e) env = Out.of (frz fz env) (ownL (frz fz env) i) fun ds => Out.of (frz fz env) (ev G k (frz fz env)) fun a => Out.of (frz fz env) (isInt a.2) fun a => Out.of (frz fz env) (ev G e (frz fz env)) fun y => Out.of (frz fz env) (shOnly y) fun r =>
      if 0 ≤ a ∧ a ≤ 1000000 ∧ ds.length < lim then .nx ((frz fz env).set i (.ow (.list (ds.take a.toNat ++ [r] ++ ds.drop a.toNat)))) else .stuck := rfl
@[simp] theorem y_chg {i : Nat} {x e : Ex} {g : List D → R TD} (hg : G "!changed" = some g) : evS G n (.chg i x e) env = Out.of env (ownL env i) fun ds => Out.of env (ev G x env) fun a => Out.of env (isInt a.2) fun a => Out.of env (ev G e env) fun b => Out.of env (isInt b.2) fun b =>
      Out.of env (chgV ds a b) fun es => .nx (env.set i (.ow (.list es))) := by
  show (match G "!changed" with | none => Out.stuck | some _ => _) = _
  rw [hg]
theorem ownT_od {n : Nat} (h : env[n]? = some (.od d)) : ownT env n = .ok d := by unfold ownT; rw [h]
theorem ownT_ints {n : Nat} {ns : List Int} (h : env[n]? = some (.ow (.list (ns.map .int)))) : ownT env n = .ok (.list (ns.map .int)) := by
  unfold ownT
  rw [h]
  exact if_pos (by rw [List.all_eq_true]; intro x hx; obtain ⟨y, _, rfl⟩ := List.mem_map.mp hx; rfl)
theorem eachR_map {γ : Type} {f : D → R D} {w h : γ → D} : ∀ {l : List γ}, (∀ x ∈ l, f (w x) = .ok (h x)) → eachR f (l.map w) = .ok (l.map h)
  | [], _ => rfl
  | a :: r, k => by
    rw [List.map_cons, List.map_cons]
    unfold eachR
    rw [k a List.mem_cons_self, eachR_map fun x hx => k x (List.mem_cons_of_mem _ hx)]
    rfl
@[simp] theorem nox_k {α : Type} {a : α} : nox (.ok a) = .ok a := rfl
end
end PV

/-! PvRep: how long a repr is, of data without texts. -/
namespace PV
open PySem L2
mutual
def rep : D → Bool
  | .none => true
  | .bool _ => true
  | .int i => decide (i.natAbs.log2 < 1920)
  | .list xs => repAll xs
  | .tuple xs => repAll xs
  | _ => false
def repAll : List D → Bool
  | [] => true
  | x :: r => rep x && repAll r
end
mutual
def bnd : D → Nat
  | .list xs => bndAll xs + 2
  | .tuple xs => bndAll xs + 3
  | _ => 1921
def bndAll : List D → Nat
  | [] => 0
  | x :: r => bnd x + 2 + bndAll r
end
theorem textFrom_le : ∀ (ts : List Str) (k : Nat) (acc : Str), (textFrom k acc ts).length ≤ acc.length + piled ts
  | [], k, acc => Nat.le_add_right _ _
  | t :: r, k, acc => by
    have ih := textFrom_le r (k + 1) (acc ++ (if k > 0 then ", " else "" : String) ++ t)
    have e : (acc ++ (if k > 0 then ", " else "" : String) ++ t).length ≤ acc.length + 2 + t.length := by
      rw [strLen_append, strLen_append]
      split
      · exact Nat.le_of_eq rfl
      · have : ((("" : String) : Str)).length = 0 := rfl
        omega
    rw [piled_cons]
    show (textFrom (k + 1) _ r).length ≤ _
    omega
theorem listText_le (ts : List Str) : (listText ts).length ≤ piled ts + 2 := by
  have h := textFrom_le ts 0 "["
  unfold listText
  rw [strLen_append]
  have e1 : (("]" : String) : Str).length = 1 := rfl
  have e2 : (("[" : String) : Str).length = 1 := rfl
  omega
theorem tupleText_le (ts : List Str) : (tupleText ts).length ≤ piled ts + 3 := by
  unfold tupleText
  rw [strLen_append, strLen_append]
  have e1 : (("(" : String) : Str).length = 1 := rfl
  have e3 : ((if (ts.length == 1) = true then ",)" else ")" : String) : Str).length ≤ 2 := by
    split
    · exact Nat.le_of_eq rfl
    · exact Nat.le_succ_of_le (Nat.le_of_eq rfl)
  have e2 : (Str.join ", " ts).length ≤ piled ts := by
    cases ts with
    | nil => exact Nat.zero_le _
    | cons t r =>
      have := join_length_add (t :: r) (by simp)
      omega
  omega
mutual
theorem shown_le : ∀ d : D, rep d = true → (PyData.shown d).length ≤ bnd d ∧ d.showable = true ∧ d.canLay0 = true
  | .none, _ => by
    refine ⟨?_, by simp [PyData.showable], by simp [PyData.canLay0]⟩
    simp only [PyData.shown, bnd]
    exact (by decide : 4 ≤ 1921)
  | .bool b, _ => by
    refine ⟨?_, by simp [PyData.showable], by simp [PyData.canLay0]⟩
    simp only [PyData.shown, bnd]
    cases b
    · exact (by decide : 5 ≤ 1921)
    · exact (by decide : 4 ≤ 1921)
  | .int i, h => by
    have h' : i.natAbs.log2 < 1920 := by simpa [rep] using h
    refine ⟨?_, by simpa [PyData.showable] using h', by simp [PyData.canLay0]⟩
    simp only [PyData.shown, bnd]
    exact PyProof.Rows.int_text_len_1921 h'
  | .list xs, h => by
    obtain ⟨h1, h2, h3⟩ := shownAll_le xs (by simpa [rep] using h)
    refine ⟨?_, by simpa [PyData.showable] using h2, by simpa [PyData.canLay0] using h3⟩
    simp only [PyData.shown, bnd]
    exact Nat.le_trans (listText_le _) (by omega)
  | .tuple xs, h => by
    obtain ⟨h1, h2, h3⟩ := shownAll_le xs (by simpa [rep] using h)
    refine ⟨?_, by simpa [PyData.showable] using h2, by simpa [PyData.canLay0] using h3⟩
    simp only [PyData.shown, bnd]
    exact Nat.le_trans (tupleText_le _) (by omega)
  | .str _, h => by simp [rep] at h
  | .dict _, h => by simp [rep] at h
theorem shownAll_le : ∀ xs : List D, repAll xs = true → piled (PyData.shownAll xs) ≤ bndAll xs ∧ PyData.showableAll xs = true ∧ PyData.canLayAll0 xs = true
  | [], _ => ⟨by simp [PyData.shownAll, piled, bndAll], by simp [PyData.showableAll], by simp [PyData.canLayAll0]⟩
  | x :: r, h => by
    simp only [repAll, Bool.and_eq_true] at h
    obtain ⟨a1, a2, a3⟩ := shown_le x h.1
    obtain ⟨b1, b2, b3⟩ := shownAll_le r h.2
    refine ⟨?_, by simp [PyData.showableAll, a2, b2], by simp [PyData.canLayAll0, a3, b3]⟩
    rw [show PyData.shownAll (x :: r) = PyData.shown x :: PyData.shownAll r from by simp [PyData.shownAll], piled_cons]
    simp only [bndAll]
    omega
end
theorem reprOk_of {d : D} (h : rep d = true) (hb : bnd d ≤ 16000000) (hd : d.depth ≤ 60) : reprOk d = true := by
  obtain ⟨h1, h2, h3⟩ := shown_le d h
  unfold reprOk
  rw [h2, h3, decide_eq_true (Nat.le_trans h1 hb), decide_eq_true hd]
  rfl
theorem repr_list {t : Tag} {xs : List D} (h : reprOk (.list xs) = true) : evBi .repr [(t, .list xs)] = .ok (.sh, .str (PyData.shown (.list xs))) := by
  show PV.guard (reprOk (.list xs)) _ = _
  rw [h]
  rfl
theorem repr_tuple {t : Tag} {xs : List D} (h : reprOk (.tuple xs) = true) : evBi .repr [(t, .tuple xs)] = .ok (.sh, .str (PyData.shown (.tuple xs))) := by
  show PV.guard (reprOk (.tuple xs)) _ = _
  rw [h]
  rfl
theorem small_log {i : Int} (h1 : -1000000000000000000000000 < i) (h2 : i < 1000000000000000000000000) : i.natAbs.log2 < 1920 := by
  by_cases h0 : i.natAbs = 0
  · rw [h0]
    decide
  · have h3 : i.natAbs < 2 ^ 80 := by omega
    have h4 : i.natAbs.log2 < 80 := (Nat.log2_lt h0).mpr h3
    omega
theorem rep_ints : ∀ {xs : List Int}, (∀ x ∈ xs, -1000000000000000000000000 < x ∧ x < 1000000000000000000000000) → repAll (xs.map .int) = true
  | [], _ => by simp [repAll]
  | x :: r, h => by
    have hx := h x List.mem_cons_self
    have := rep_ints fun y hy => h y (List.mem_cons_of_mem _ hy)
    simp only [List.map_cons, repAll, rep, this, Bool.and_true]
    exact decide_eq_true (small_log hx.1 hx.2)
theorem bnd_ints : ∀ xs : List Int, bndAll (xs.map .int) = xs.length * 1923
  | [] => by simp [bndAll]
  | x :: r => by
    simp only [List.map_cons, bndAll, bnd, bnd_ints r, List.length_cons]
    omega
theorem depth_ints : ∀ xs : List Int, PyData.depthAll (xs.map .int) = 0
  | [] => by simp [PyData.depthAll]
  | x :: r => by simp [PyData.depthAll, PyData.depth, depth_ints r]
@[simp] theorem eq_strs {x y : Str} : evCmp .eq (.str x) (.str y) = .ok (decide (x = y)) := rfl
@[simp] theorem ne_strs {x y : Str} : evCmp .ne (.str x) (.str y) = .ok (!decide (x = y)) := rfl
@[simp] theorem ne_bool {x y : Bool} : evCmp .ne (.bool x) (.bool y) = .ok (x != y) := by
  cases x <;> cases y <;> rfl
@[simp] theorem eq_bool {x y : Bool} : evCmp .eq (.bool x) (.bool y) = .ok (x == y) := by
  cases x <;> cases y <;> rfl
end PV

/-! PvStr: short texts of plain signs. -/
namespace PV
open PySem L2
abbrev sl (xs : List Str) : D := .list (xs.map .str)
/-- a text of at most n signs -/
def Fine (n : Nat) (s : Str) : Prop := PyData.strOk s = true ∧ s.length ≤ n
theorem Fine.le {n m : Nat} {s : Str} (h : Fine n s) (l : n ≤ m) : Fine m s := ⟨h.1, Nat.le_trans h.2 l⟩
theorem Fine.add {n m : Nat} {a b : Str} (h : Fine n a) (k : Fine m b) : Fine (n + m) (a ++ b) := by
  refine ⟨?_, ?_⟩
  · show ((a.cps ++ b.cps).all (· < 0x110000)) = true
    have h1 : (a.cps.all (· < 0x110000)) = true := h.1
    have h2 : (b.cps.all (· < 0x110000)) = true := k.1
    rw [Array.all_append, h1, h2]
    rfl
  · show (a.cps ++ b.cps).size ≤ n + m
    have h1 : a.cps.size ≤ n := h.2
    have h2 : b.cps.size ≤ m := k.2
    rw [Array.size_append]
    omega
theorem Fine.of {n : Nat} (s : String) (h : s.length ≤ n) : Fine n (Str.ofString s) := by
  refine ⟨?_, ?_⟩
  · rw [Str.ofString_eq_toList]
    show ((s.toList.map Char.toNat).toArray.all (· < 0x110000)) = true
    rw [List.all_toArray, List.all_map, List.all_eq_true]
    intro c _
    have := c.valid
    show decide (c.toNat < 0x110000) = true
    rcases this with h | ⟨_, h⟩
    · exact decide_eq_true (Nat.lt_trans h (by decide))
    · exact decide_eq_true h
  · rw [ofString_length]
    exact h
/-- one sign -/
def chr (z : Str) (n : Nat) : Str := ⟨#[z.cps.getD n 0]⟩
theorem Fine.chr {m n : Nat} {z : Str} (h : Fine m z) : Fine 1 (chr z n) := by
  refine ⟨?_, Nat.le_refl _⟩
  show (#[z.cps.getD n 0].all (· < 0x110000)) = true
  have h1 : (z.cps.all (· < 0x110000)) = true := h.1
  rw [Array.all_eq_true] at h1
  have : z.cps.getD n 0 < 0x110000 := by
    rw [Array.getD_eq_getD_getElem?]
    by_cases c : n < z.cps.size
    · rw [Array.getElem?_eq_getElem c]
      simpa using h1 n c
    · rw [Array.getElem?_eq_none (by omega)]
      decide
  simpa using this
theorem ixs {t : Tag} {z : Str} {i : Int} (hl : z.length ≤ 16000000) (h : 0 ≤ i) (h2 : i < z.length) : evIx (t, .str z) (.int i) = .ok (.sh, .str (chr z i.toNat)) := by
  show PV.guard (decide (z.length ≤ lim)) (match L2.atI z.cps.toList i with | some c => ok1 (.str ⟨#[c]⟩) | none => .stuck) = _
  have hn : i.toNat < z.cps.size := by
    have : i < z.cps.size := h2
    omega
  rw [decide_eq_true (show z.length ≤ lim from hl), atI_at (n := i.toNat) (x := z.cps[i.toNat]) (by omega) (by rw [Array.getElem?_toList]; exact Array.getElem?_eq_getElem hn)]
  show R.ok (Tag.sh, PyData.str ⟨#[z.cps[i.toNat]]⟩) = _
  unfold chr
  rw [Array.getD_eq_getD_getElem?, Array.getElem?_eq_getElem hn]
  rfl
theorem cat_str {s t : Tag} {a b : Str} (h : a.length + b.length ≤ 16000000) : evBin .add (s, .str a) (t, .str b) = .ok (.sh, .str (a ++ b)) := by
  show PV.guard (decide (a.length + b.length ≤ lim)) _ = _
  rw [decide_eq_true (show a.length + b.length ≤ lim from h)]
  rfl
theorem Fine.cut {n : Nat} {z : Str} {lo hi : Option Int} (h : Fine n z) : Fine n (cutS z lo hi) := by
  have h1 : (z.cps.all (· < 0x110000)) = true := h.1
  have h2 : z.cps.size ≤ n := h.2
  unfold cutS
  generalize HT.sIx z.length 0 lo = a
  generalize HT.sIx z.length z.length hi - a = b
  refine ⟨?_, ?_⟩
  · show ((List.take b (List.drop a z.cps.toList)).toArray.all (· < 0x110000)) = true
    rw [List.all_toArray, List.all_eq_true]
    intro c hc
    rw [← Array.all_toList, List.all_eq_true] at h1
    exact h1 c (List.mem_of_mem_drop (List.mem_of_mem_take hc))
  · show ((List.take b (List.drop a z.cps.toList)).toArray).size ≤ n
    rw [List.size_toArray, List.length_take, List.length_drop, Array.length_toList]
    omega
theorem sl_str {t : Tag} {z : Str} {lo hi : Option Int} (h : z.length ≤ 16000000) : evSl (t, .str z) lo hi = .ok (.sh, .str (cutS z lo hi)) := by
  show PV.guard (decide (z.length ≤ lim)) _ = _
  rw [decide_eq_true (show z.length ≤ lim from h)]
  rfl
theorem strL_of : ∀ l : List Str, strL (l.map PyData.str) = some l
  | [] => rfl
  | x :: r => by
    show (strL (r.map PyData.str)).map (x :: ·) = _
    rw [strL_of r]
    rfl
/-- one-sign texts joined -/
theorem join_fine {ys : List Str} (h : ∀ y ∈ ys, Fine 1 y) (hl : ys.length ≤ 1000) : ∃ s, evJoin "" (sl ys) = .ok (.sh, .str s) ∧ Fine ys.length s := by
  have sum : (ys.map (·.length)).sum ≤ ys.length := by
    clear hl
    induction ys with
    | nil => exact Nat.le_refl _
    | cons y r ih =>
      have h1 := (h y List.mem_cons_self).2
      have h2 := ih fun z hz => h z (List.mem_cons_of_mem _ hz)
      rw [List.map_cons, List.sum_cons, List.length_cons]
      omega
  have e0 : (("" : String) : Str).length = 0 := rfl
  refine ⟨Txt.join "" ys, ?_, ?_⟩
  · show (match strL (ys.map PyData.str) with | some (ys : List Str) => PV.guard (decide ((ys.map (fun y : Str => y.length)).sum + ys.length * (("" : String) : Str).length ≤ lim)) (ok1 (.str (Txt.join "" ys))) | none => .stuck) = _
    rw [strL_of]
    show PV.guard (decide ((ys.map (fun y : Str => y.length)).sum + ys.length * (("" : String) : Str).length ≤ lim)) _ = _
    rw [e0, Nat.mul_zero, Nat.add_zero, decide_eq_true (show (ys.map (·.length)).sum ≤ lim by show _ ≤ 16000000; omega)]
    rfl
  · have ej : Txt.join "" ys = Str.join "" ys := StrLaws.glued_eq_join _ _
    refine ⟨?_, ?_⟩
    · rw [ej]
      clear hl sum ej
      induction ys with
      | nil => exact (by decide +kernel : PyData.strOk (Str.join "" []) = true)
      | cons y r ih =>
        cases r with
        | nil => exact (h y List.mem_cons_self).1
        | cons z s =>
          have := ih fun w hw => h w (List.mem_cons_of_mem _ hw)
          exact ((Fine.add (n := _) (m := _) (Fine.add (n := 1) (m := 0) (h y List.mem_cons_self) ⟨(by decide +kernel : PyData.strOk (Str.ofString "") = true), Nat.le_refl _⟩) (⟨this, Nat.le_refl _⟩ : Fine (Str.join "" (z :: s)).length _))).1
    · rw [ej]
      have := StrLaws.join_length_le "" ys
      rw [e0, Nat.mul_zero, Nat.add_zero] at this
      omega
theorem shaped_str {n : Nat} {s : Str} (h : Fine n s) : SeqAt.shaped (.str s) = true := by
  simp [SeqAt.shaped, PyData.canLay0, PyData.depth, h.1]
theorem depth_strs : ∀ xs : List Str, PyData.depthAll (xs.map .str) = 0
  | [] => by simp [PyData.depthAll]
  | x :: r => by simp [PyData.depthAll, PyData.depth, depth_strs r]
theorem lay_strs : ∀ {xs : List Str}, (∀ s ∈ xs, PyData.strOk s = true) → PyData.canLayAll0 (xs.map .str) = true
  | [], _ => by simp [PyData.canLayAll0]
  | x :: r, h => by simp [PyData.canLayAll0, PyData.canLay0, h x List.mem_cons_self, lay_strs fun y hy => h y (List.mem_cons_of_mem _ hy)]
theorem shaped_strs {xs : List Str} (h : ∀ s ∈ xs, PyData.strOk s = true) : SeqAt.shaped (sl xs) = true := by
  simp [SeqAt.shaped, PyData.canLay0, PyData.depth, depth_strs, lay_strs h]
theorem in_strs {n : Nat} {s : Str} {xs : List Str} (h : Fine n s) (hx : ∀ s ∈ xs, PyData.strOk s = true) : evCmp .inn (.str s) (sl xs) = .ok (xs.any fun t => decide (t = s)) := by
  show gB (both (.str s) (sl xs)) ((xs.map PyData.str).any fun z => PyData.eqv z (.str s)) = _
  unfold both
  rw [shaped_str h, shaped_strs hx, List.any_map]
  have : ((fun z => PyData.eqv z (.str s)) ∘ PyData.str) = fun t => decide (t = s) := by
    funext t
    show PyData.eqv (.str t) (.str s) = _
    unfold PyData.eqv
    first | rfl | (by_cases e : t = s <;> simp [e])
  rw [this]
  rfl
theorem str_int {t : Tag} {i : Int} (h1 : -1000000000000000000000000 < i) (h2 : i < 1000000000000000000000000) : ∃ s, evBi .str [(t, .int i)] = .ok (.sh, .str s) ∧ Fine 1921 s := by
  refine ⟨Str.ofString (toString i), ?_, ?_⟩
  · show PV.guard (decide (i.natAbs.log2 < 1920)) _ = _
    rw [decide_eq_true (small_log h1 h2)]
    rfl
  · refine Fine.of _ ?_
    have := PyProof.Rows.int_text_len_1921 (small_log h1 h2)
    rwa [ofString_length] at this
@[simp] theorem put_str {t : Tag} {env : Env} {n : Nat} {z : Str} : put env n (t, .str z) = .nx (env.set n (.sh (.str z))) := rfl
@[simp] theorem shOnly_str {t : Tag} {z : Str} : shOnly (t, .str z) = .ok (.str z) := rfl
theorem sl_snoc {xs : List Str} {y : Str} : PyData.list (xs.map .str ++ [.str y]) = sl (xs ++ [y]) := by simp [sl]
theorem rep_list {s : Tag} {xs : List D} {k : Int} (h0 : 0 ≤ k) (hk : k ≤ 16000000) (h : xs.length * k.toNat ≤ 16000000) : evBin .mul (.ow, .list xs) (s, .int k) = .ok (.ow, .list (List.replicate k.toNat xs).flatten) := by
  show PV.guard (isRt .ow && decide (0 ≤ k) && decide (k ≤ (lim : Int)) && decide (xs.length * k.toNat ≤ lim)) _ = _
  rw [decide_eq_true h0, decide_eq_true (show k ≤ (lim : Int) from hk), decide_eq_true (show xs.length * k.toNat ≤ lim from h)]
  rfl
@[simp] theorem bt_four {n m l j : Nat} {a b c d : D} {env : Env} : bindT (.tp [n, m, l, j]) (.sh, .tuple [a, b, c, d]) env = some ((((env.set n (.sh a)).set m (.sh b)).set l (.sh c)).set j (.sh d)) := rfl
@[simp] theorem bt_six {n m l j k o : Nat} {a b c d e f : D} {env : Env} : bindT (.tp [n, m, l, j, k, o]) (.sh, .tuple [a, b, c, d, e, f]) env = some ((((((env.set n (.sh a)).set m (.sh b)).set l (.sh c)).set j (.sh d)).set k (.sh e)).set o (.sh f)) := rfl
end PV
namespace PV
open PySem L2
def gs (l : List Str) (n : Nat) : Str := l.getD n ""
theorem gs_some {l : List Str} {n : Nat} (h : n < l.length) : l[n]? = some (gs l n) := by
  unfold gs
  rw [List.getD_eq_getElem?_getD, List.getElem?_eq_getElem h]
  rfl
theorem gs_mem {l : List Str} {n : Nat} (h : n < l.length) : gs l n ∈ l := List.mem_of_getElem? (gs_some h)
theorem ixz {t : Tag} {ns : List Str} {i : Int} (h : 0 ≤ i) (h2 : i < ns.length) : evIx (t, sl ns) (.int i) = .ok (.sh, .str (gs ns i.toNat)) := by
  have hl : i.toNat < ns.length := by omega
  rw [ixl_at (n := i.toNat) (d := .str (gs ns i.toNat)) (by omega) (by rw [List.getElem?_map, gs_some hl]; rfl), nt_str]
theorem sl_rng {n : Nat} {f : Nat → Str} : PyData.list ((List.range n).map fun x => .str (f x)) = sl ((List.range n).map f) := by simp [sl]
end PV

/-! PvLay: a def that gives back a list of trees that it also reads itself (layers): the trees are frozen while it runs, and told as new all through at its end. -/
namespace PV
open PySem PySem.Spec PyProof.Rows L2

def N0 : Hp := fun _ => none
/-- a tree, frozen; what is known of its places stays known -/
theorem own_frz {K : PySem.W.Frag} {F H F' H' : Hp} {d : D} {v : V} {fp : List Addr} (e : Ext F H F' H') (o : Own K F' H' d v fp) (n : ∀ a ∈ fp, H a = none) : Ext F H (frzAt F' H' fp) H' ∧ Is K (frzAt F' H' fp) d v ∧ Own K N0 H' d v fp := by
  refine ⟨⟨e.f.trans (frzAt_same e.s), e.h, frzAt_sub e.s, fun b z => ?_⟩, o.frozen, o.keep fun a ha => ⟨rfl, rfl⟩⟩
  by_cases c : b ∈ fp
  · exact .inr (n b c)
  · rw [frzAt_out c] at z
    exact e.n b z
theorem own_stay {K : PySem.W.Frag} {F H F' H' : Hp} {d : D} {v : V} {fp : List Addr} (e : Ext F H F' H') (o : Own K N0 H d v fp) : Own K N0 H' d v fp := o.keep fun a ha => ⟨rfl, e.stay (o.at a ha).2⟩
theorem ownL_stay {K : PySem.W.Frag} {F H F' H' : Hp} {d : List D} {v : List V} {fp : List Addr} (e : Ext F H F' H') (o : OwnL K N0 H d v fp) : OwnL K N0 H' d v fp := o.keep fun a ha => ⟨rfl, e.stay (o.at a ha).2⟩
def shS' : Slot → Bool | .sh _ => true | .no => true | _ => false
def shEnv' (e : Env) : Bool := e.all shS'
theorem shEnv_set {e : Env} {i : Nat} {d : D} (h : shEnv' e = true) : shEnv' (e.set i (.sh d)) = true := by
  unfold shEnv' at h ⊢
  rw [List.all_eq_true] at h ⊢
  intro s hs
  rcases List.mem_or_eq_of_mem_set hs with z | z
  · exact h s z
  · rw [z]; rfl
/-- the state of a def that fills a list of trees (slot 4), of which only it holds the list -/
structure LInv (K : PySem.W.Frag) (F0 H0 F H : Hp) (σ : L2.St) (e : Env) (ds : List D) (p : Addr) (vs : List V) (fps : List Addr) : Prop where
  rel : Rel K F H σ e
  ext : Ext F0 H0 F H
  slot : σ[4]? = some (some (.ref p))
  own : H p = some (.lst vs)
  fno : F p = none
  new : H0 p = none
  items : OwnL K N0 H ds vs fps
  out : p ∉ fps
  news : ∀ a ∈ fps, H0 a = none
section
variable {K : PySem.W.Frag} {F0 H0 F H F' H' : Hp} {σ : L2.St} {e : Env} {ds : List D} {p : Addr} {vs : List V} {fps : List Addr}
theorem LInv.go (h : LInv K F0 H0 F H σ e ds p vs fps) (x : Ext F H F' H') : LInv K F0 H0 F' H' σ e ds p vs fps := by
  have hp : H p ≠ none := by rw [h.own]; intro z; cases z
  exact ⟨h.rel.ext x, h.ext.trans x, h.slot, (x.stay hp).trans h.own, x.gone h.fno hp, h.new, ownL_stay x h.items, h.out, h.news⟩
theorem LInv.set (h : LInv K F0 H0 F H σ e ds p vs fps) {i : Nat} {v : V} {d : D} (q : Is K F d v) (hi : i ≠ 4) : LInv K F0 H0 F H (σ.set i (some v)) (e.set i (.sh d)) ds p vs fps :=
  ⟨h.rel.set q, h.ext, by rw [List.getElem?_set_ne hi]; exact h.slot, h.own, h.fno, h.new, h.items, h.out, h.news⟩
/-- one tree more in the list -/
theorem LInv.app (h : LInv K F0 H0 F H σ e ds p vs fps) {v : V} {d : D} {fp : List Addr} (o : Own K N0 H d v fp) (hp : p ∉ fp) (hd : ∀ a ∈ fps, a ∉ fp) (n : ∀ a ∈ fp, H0 a = none) (sh : shEnv' e = true) : LInv K F0 H0 F (upd H p (.lst (vs ++ [v]))) σ e (ds ++ [d]) p (vs ++ [v]) (fps ++ fp) := by
  have ne : ∀ a, a ∈ fps ∨ a ∈ fp → a ≠ p := fun a ha z => by
    rw [z] at ha
    rcases ha with ha | ha
    · exact h.out ha
    · exact hp ha
  have sm : Same F (upd H p (.lst (vs ++ [v]))) := fun b u q => by
    rw [upd_ne (fun z => by rw [z, h.fno] at q; cases q)]
    exact h.rel.sub b u q
  have relA : Rel K F (upd H p (.lst (vs ++ [v]))) σ e := by
    obtain ⟨sub, len, fq, h1, h2, h3⟩ := h.rel
    refine ⟨sm, len, fq, fun i s hs => ?_, h2, h3⟩
    have b := h1 i s hs
    have z : shS' s = true := List.all_eq_true.mp sh s (List.mem_of_getElem? hs)
    cases s with
    | sh d => exact b
    | no => exact b
    | _ => cases z
  refine ⟨relA, h.ext.mut h.new h.fno, h.slot, upd_same, h.fno, h.new, ?_, fun z => ?_, fun a ha => ?_⟩
  · refine OwnL.app (.one (o.keep fun a ha => ⟨rfl, upd_ne (ne a (.inr ha))⟩)) (h.items.keep fun a ha => ⟨rfl, upd_ne (ne a (.inl ha))⟩) hd
  · rcases List.mem_append.mp z with z | z
    · exact h.out z
    · exact hp z
  · rcases List.mem_append.mp ha with ha | ha
    · exact h.news a ha
    · exact n a ha
/-- .. given back -/
theorem LInv.ret (h : LInv K F0 H0 F H σ e ds p vs fps) (sm : Same F0 H0) : Ext F0 H0 F0 H ∧ Res K H0 F0 H (.ref p) (.tr, .list ds) := by
  refine ⟨⟨Same.refl _, h.ext.h, sm.trans h.ext.h, fun b z => .inl z⟩, p :: fps, fun a ha => ?_, ?_⟩
  · rcases List.mem_cons.mp ha with rfl | ha
    · exact h.new
    · exact h.news a ha
  · simp only [Own]
    exact ⟨p, vs, fps, rfl, rfl, h.out, sm.free h.new, h.own, h.items.keep fun a ha => ⟨sm.free (h.news a ha), rfl⟩⟩
end
structure LayX where
  c0 : Sx
  e1 : Ex
  t : Nat
  src : Src
  c1 : Te
  e2 : Ex
  c2 : Te
  e3 : Ex
def nx0 {α : Type} : R α → R α | .ok a => .ok a | _ => .stuck
theorem nx0_ok {α : Type} {r : R α} {a : α} (h : nx0 r = .ok a) : r = .ok a := by
  cases r <;> first | exact h | cases h
def layLp (G : Gam) (L : LayX) : List D → Env → List D → R TD
  | [], _, _ => .ok (.sh, .none)
  | d :: r, e, ds => (nx0 (evT G L.c1 (e.set L.t (.sh d)))).bind fun b1 => if b1 = true then .ok (.sh, .none) else
      (nx0 (ev G L.e2 (e.set L.t (.sh d)))).bind fun x2 => (nx0 (treeOf x2)).bind fun d2 =>
      (nx0 (evT G L.c2 ((e.set L.t (.sh d)).set 7 (.sh d2)))).bind fun b2 => if b2 = true then .ok (.tr, .list ds) else
      (nx0 (ev G L.e3 ((e.set L.t (.sh d)).set 7 (.sh d2)))).bind fun x3 => (nx0 (shOnly x3)).bind fun d3 =>
      if ds.length < lim then layLp G L r ((((e.set L.t (.sh d)).set 7 (.sh d2)).set 5 (.sh d3)).set 3 (.sh d2)) (ds ++ [d2]) else .stuck
def isNo4 (e : Env) : Bool := match e[4]? with | some PV.Slot.no => true | _ => false
def evLay (G : Gam) (n sz k : Nat) (L : LayX) (ds : List D) : R TD :=
  if ds.length ≠ k then .stuck else match evS G n L.c0 (ds.map Slot.sh ++ List.replicate (sz - ds.length) Slot.no) with
  | .exc c _ => .exc c
  | .nx e => if (shEnv' e && isNo4 e && decide (8 ≤ e.length)) = true then (nx0 (ev G L.e1 e)).bind fun x1 => (nx0 (treeOf x1)).bind fun d1 =>
      (nx0 (evSrc G L.src ((e.set 3 (.sh d1)).set 5 (.sh d1)))).bind fun s => match s.1.dm with
      | .sh => layLp G L s.2 ((e.set 3 (.sh d1)).set 5 (.sh d1)) [d1]
      | _ => .stuck
    else .stuck
  | _ => .stuck
theorem evLay_len {G : Gam} {n sz k : Nat} {L : LayX} (ds : List D) (h : evLay G n sz k L ds ≠ .stuck) : ds.length = k := by
  by_cases c : ds.length = k
  · exact c
  · unfold evLay at h
    rw [if_pos c] at h
    exact absurd rfl h

/-! ### the def -/
section
variable {cref : Str → Value} {n : Nat} {G : Gam} {bs cs N : List Str}
/-- name = e, read by the value of e -/
theorem sAsgK {X : Cx} {W : Wd} {sc : Scope} {i : Nat} {e : Ex} {st : Stmt} (ft : SFit X W cref n G bs cs N sc) (h : chkS N bs cs sc (.asg [] i e) st = true) : PS X st (tAsg (tE X.K W G e) (gName i)) := by
  cases st with
  | Assign ts v pos =>
    match ts, h with
    | [tg], h =>
      cases tg with
      | Name x px =>
        simp only [chkS, Bool.and_eq_true] at h
        obtain ⟨⟨h1, hti⟩, h2⟩ := h
        have h := And.intro h1 h2
        obtain ⟨a, b, c⟩ := st_of ft.hN ft.hsc (fun x _ => ft.fn x) h.1
        have hN : X.N.Nodup := by rw [ft.hN]; exact ft.nd
        by_cases hl : ∃ a b c d, v = .ListComp a b c d
        · obtain ⟨a1, a2, a3, a4, rfl⟩ := hl
          rcases swaps_lc (a := a1) (b := a2) (c := a3) (d := a4) (p := px) (x := x) (n := pos.line) (env := X.env) with z | ⟨z, y⟩
          · exact ps_set hN a b (sE e ft.toFit h.2) z c
          · cases e with
            | cpr own tg src c e => exact sLc ft h.2 a y z
            | trI e => cases hti
            | _ => simp [chkE, frzE, isLC] at h
        · exact ps_set hN a b (sE e ft.toFit h.2) (swaps_name h.2 fun a b c d z => hl ⟨a, b, c, d, z⟩) c
      | _ => simp [chkS] at h
    | [], h => simp [chkS] at h
    | a :: _ :: _, h => cases a <;> first | (cases h; done) | (rename_i u _ _; cases u <;> cases h)
  | _ => simp [chkS] at h
/-- name = name -/
theorem sAsgV {X : Cx} {W : Wd} {sc : Scope} {i j : Nat} {x y : Str} {px py pos : Pos} (ft : SFit X W cref n G bs cs N sc) (h1 : stB N sc (fun _ => true) i x = true) (h2 : vr N sc j y = true) : PS X (.Assign [.Name x px] (.Name y py) pos) (tAsg (tVar j) (gName i)) := by
  obtain ⟨a, b, c⟩ := st_of ft.hN ft.hsc (fun x _ => ft.fn x) h1
  exact ps_set (by rw [ft.hN]; exact ft.nd) a b (vr_ok ft h2) rfl c
/-- name = [name] -/
theorem sAsg1 {X : Cx} {W : Wd} {sc : Scope} {i j : Nat} {x y : Str} {px py lp pos : Pos} (ft : SFit X W cref n G bs cs N sc) (h1 : stB N sc (fun _ => true) i x = true) (h2 : vr N sc j y = true) : PS X (.Assign [.Name x px] (.List [.Name y py] lp) pos) (tAsg (tLst (tCons (tVar j) tNil)) (gName i)) := by
  obtain ⟨a, b, c⟩ := st_of ft.hN ft.hsc (fun x _ => ft.fn x) h1
  exact ps_set (by rw [ft.hN]; exact ft.nd) a b (pe_lst (pa_cons (vr_ok ft h2) pa_nil rfl)) rfl c
/-- the look at the def -/
structure LLook (N bs cs : List Str) (sc : Scope) (body : List Stmt) (L : LayX) : Prop where
  ex : ∃ (s0 s1 t2 t4 : Stmt) (x2 y2 x3 y3 z3 x5 y5 x6 m6 y6 : Str) (p1 p2 p3 p4 q1 q2 q3 r1 r2 r3 u1 u2 u3 v1 v2 v3 w1 w2 w3 w4 w5 fp e2 e3 : Pos) (tgE itE c1 k3 : Expr) (k1 e1 : Nat),
    body = [s0, s1, .Assign [.Name x2 p1] (.List [.Name y2 p2] p3) p4, .Assign [.Name x3 q1] (.Name y3 q2) q3, .For tgE itE [.If c1 [.Return (some (.Constant .none k1 r1)) r2] [] r3, t2, .If k3 [.Return (some (.Name z3 u1)) u2] [] u3, t4, .Assign [.Name x5 v1] (.Name y5 v2) v3, .Expr (.Call (.Attribute (.Name x6 w1) m6 w2) [.Name y6 w3] [] w4) w5] [] fp, .Return (some (.Constant .none e1 e2)) e3] ∧
    chkS N bs cs sc L.c0 s0 = true ∧ chkS N bs cs sc (.asg [] 3 L.e1) s1 = true ∧ (stB N sc (fun _ => true) 4 x2 = true ∧ vr N sc 3 y2 = true) ∧ (stB N sc (fun _ => true) 5 x3 = true ∧ vr N sc 3 y3 = true) ∧ chkTg N sc (fun _ => true) (.nm L.t) tgE = true ∧ chkSrc N bs L.src sc itE tgE = true ∧
    chkT N bs L.c1 sc c1 = true ∧ chkS N bs cs sc (.asg [] 7 L.e2) t2 = true ∧ (chkT N bs L.c2 sc k3 = true ∧ vr N sc 4 z3 = true) ∧ chkS N bs cs sc (.asg [] 5 L.e3) t4 = true ∧ (stB N sc (fun _ => true) 3 x5 = true ∧ vr N sc 7 y5 = true) ∧ (m6 = "append" ∧ (w2.endLine == w4.line) = true ∧ vr N sc 4 x6 = true ∧ vr N sc 3 y6 = true) ∧ ("range" : Str) ∈ bs ∧ L.t ≠ 4
/-- what is wanted of the end -/
def Fin (K : PySem.W.Frag) (cref : Str → Value) (F0 H0 : Hp) (Q : VK) (E : XK) : R TD → Prop
  | .ok (o, d) => ∀ v F' H', Ext F0 H0 F' H' → Res K H0 F' H' v (o, d) → Q v H'
  | .exc c => ∀ F' H', Ext F0 H0 F' H' → E (cref c) none H'
  | .stuck => False
theorem fin_bind {K : PySem.W.Frag} {F0 H0 : Hp} {Q : VK} {E : XK} {α : Type} {r : R α} {f : α → R TD} (h : Fin K cref F0 H0 Q E ((nx0 r).bind f)) : ∃ a, r = .ok a ∧ Fin K cref F0 H0 Q E (f a) := by
  cases r with
  | ok a => exact ⟨a, rfl, h⟩
  | _ => exact h.elim
theorem fin_if {K : PySem.W.Frag} {F0 H0 : Hp} {Q : VK} {E : XK} {b : Bool} {r t : R TD} (h : Fin K cref F0 H0 Q E (if b = true then r else t)) : (b = true ∧ Fin K cref F0 H0 Q E r) ∨ (b = false ∧ Fin K cref F0 H0 Q E t) := by
  cases b with
  | true => exact .inl ⟨rfl, h⟩
  | false => exact .inr ⟨rfl, h⟩
section
variable {K : PySem.W.Frag} {W : Wd} {F0 H0 F H F' H' : Hp} {σ : L2.St} {e : Env} {ds : List D} {p : Addr} {vs : List V} {fps : List Addr} {Q : VK} {E : XK}
/-- a test -/
theorem tT_go {c : Te} {b : Bool} {R' : Bool → Hp → Prop} (h : LInv K F0 H0 F H σ e ds p vs fps) (hb : evT G c e = .ok b) (k : ∀ F' H', LInv K F0 H0 F' H' σ e ds p vs fps → Ext F H F' H' → R' b H') : tT K W G c σ H R' := by
  refine ⟨F, e, h.rel, ?_⟩
  rw [hb]
  exact fun F' H' x => k F' H' (h.go x) x
/-- a turn's body, from its slots on -/
theorem lay_turn {L : LayX} {it : List D → Env → List D → R TD} {rest : List D} {rt : VK} {nx : L2.St → Hp → Prop} {k1 k2 : Nat}
    (sm : Same F0 H0) (h : LInv K F0 H0 F H σ e ds p vs fps) (sh : shEnv' e = true) (hl : 8 ≤ e.length)
    (fin : Fin K cref F0 H0 Q E ((nx0 (evT G L.c1 e)).bind fun b1 => if b1 = true then .ok (.sh, .none) else
      (nx0 (ev G L.e2 e)).bind fun x2 => (nx0 (treeOf x2)).bind fun d2 =>
      (nx0 (evT G L.c2 (e.set 7 (.sh d2)))).bind fun b2 => if b2 = true then .ok (.tr, .list ds) else
      (nx0 (ev G L.e3 (e.set 7 (.sh d2)))).bind fun x3 => (nx0 (shOnly x3)).bind fun d3 =>
      if ds.length < lim then it rest (((e.set 7 (.sh d2)).set 5 (.sh d3)).set 3 (.sh d2)) (ds ++ [d2]) else .stuck))
    (hrt : rt = Q) (hnx : ∀ e' ds' σ' F' H' p' vs' fps', LInv K F0 H0 F' H' σ' e' ds' p' vs' fps' → shEnv' e' = true → e'.length = e.length → Same F F' → Fin K cref F0 H0 Q E (it rest e' ds') → nx σ' H')
    (hc : ∀ d2 d3, (((e.set 7 (.sh d2)).set 5 (.sh d3)).set 3 (.sh d2)).length = e.length := by intro d2 d3; simp) :
    tSeq (tIfS (tT K W G L.c1) (tSeq (tRet (tC .non)) tNext) tNext) (tSeq (tAsg (tE K W G L.e2) (gName 7)) (tSeq (tIfS (tT K W G L.c2) (tSeq (tRet (tVar 4)) tNext) tNext) (tSeq (tAsg (tE K W G L.e3) (gName 5)) (tSeq (tAsg (tVar 7) (gName 3)) (tSeq (tDrop (tBM K "list" rAppend (tVar 4) (tCons (tVar 3) tNil))) tNext))))) { nx := nx, rt := rt, ct := nx } σ H := by
  subst hrt
  have lσ : σ.length = e.length := h.rel.len.symm
  obtain ⟨b1, hb1, fin⟩ := fin_bind fin
  refine tT_go h hb1 fun F1 H1 h1 s1 => ?_
  rcases fin_if fin with ⟨rfl, fin⟩ | ⟨rfl, fin⟩
  · refine iteT ?_
    exact fin .non F1 H1 h1.ext (show Is K F1 .none .non by simp only [Is])
  refine iteF ?_
  obtain ⟨x2, hx2, fin⟩ := fin_bind fin
  obtain ⟨d2, hd2, fin⟩ := fin_bind fin
  refine ⟨F1, e, h1.rel, ?_⟩
  rw [hx2]
  intro F2 H2 e2 v2 rv2
  obtain ⟨fp, nf, o2⟩ := treeOf_own rv2 e2.s hd2
  obtain ⟨x2', i2, q2⟩ := own_frz e2 o2 nf
  have h2 := h1.go x2'
  have h3 := h2.set (i := 7) i2 (by decide)
  have pf : p ∉ fp := fun z => by
    have := nf p z
    rw [h1.own] at this
    cases this
  have df : ∀ a ∈ fps, a ∉ fp := fun a ha z => (h1.items.at a ha).2 (nf a z)
  have n0 : ∀ a ∈ fp, H0 a = none := fun a ha => h1.ext.h.free (nf a ha)
  obtain ⟨b2, hb2, fin⟩ := fin_bind fin
  show tIfS (tT K W G L.c2) _ _ _ (σ.set 7 (some v2)) H2
  refine tT_go h3 hb2 fun F4 H4 h4 s4 => ?_
  rcases fin_if fin with ⟨rfl, fin⟩ | ⟨rfl, fin⟩
  · refine iteT ?_
    obtain ⟨r1, r2⟩ := h4.ret sm
    exact ⟨_, h4.slot, fin _ F0 H4 r1 r2⟩
  refine iteF ?_
  obtain ⟨x3, hx3, fin⟩ := fin_bind fin
  obtain ⟨d3, hd3, fin⟩ := fin_bind fin
  refine ⟨F4, _, h4.rel, ?_⟩
  rw [hx3]
  intro F5 H5 e5 v3 rv3
  obtain ⟨g1, rfl⟩ := shOnly_ok hd3
  obtain ⟨F6, e6, s6, i6⟩ := res_dm2 e5 (rv3.nt e5.s) g1
  have h5 := (h4.go e6).set (i := 5) i6 (by decide)
  have g7 : ((σ.set 7 (some v2)).set 5 (some v3))[7]? = some (some v2) := by
    rw [List.getElem?_set_ne (by decide), List.getElem?_set_self (by omega)]
  have i7 : Is K F6 d2 v2 := (i2.mono s4.f).mono e6.f
  have h6 := h5.set (i := 3) i7 (by decide)
  have g3 : (((σ.set 7 (some v2)).set 5 (some v3)).set 3 (some v2))[3]? = some (some v2) := by
    rw [List.getElem?_set_self (by rw [List.length_set, List.length_set]; omega)]
  have q6 : Own K N0 H5 d2 v2 fp := own_stay e6 (own_stay s4 q2)
  have hz := ownL_len h6.items
  have sh6 := shEnv_set (i := 3) (d := d2) (shEnv_set (i := 5) (d := x3.2) (shEnv_set (i := 7) (d := d2) sh))
  by_cases hd : ds.length < lim
  · rw [if_pos hd] at fin
    refine ⟨v2, g7, ?_⟩
    refine ⟨_, h6.slot, .inl ⟨rfl, ⟨vs, (LL.of (K := K) h6.own).seq⟩⟩, v2, g3, p, vs, v2, rfl, rfl, h6.own, by rw [hz]; exact Nat.lt_trans hd lim_lt, ?_⟩
    exact hnx _ _ _ _ _ _ _ _ (h6.app q6 pf df n0 sh6) sh6 (hc d2 x3.2) ((s1.f.trans x2'.f).trans (s4.f.trans e6.f)) fin
  · rw [if_neg hd] at fin
    exact fin.elim
end
/-- THE RULE for the def -/
theorem lay_ok {P : Program} {w : World} {K : PySem.W.Frag} {mg : Str → Option Value} {base : Heap} {k wn : Nat} {f : Addr} {x qual : Str} {st : Stmt} {fd : FuncData} {ps : List Str} {L : LayX} (F : L2.Fun K x qual st f fd) (S : FnScope N ps (defScope st)) (gc : GC P w K mg base cref k G bs cs)
    (lk : LLook N bs cs (defScope st) (defBody st) L) : FnG P w K mg base (k + 1) f fd ps (spD K cref ps.length (evLay G wn N.length ps.length L)) := by
  refine def_run F S gc (fun vs H Q E h => h.1) fun X E ft hK => ?_
  obtain ⟨s0, s1, t2, t4, x2, y2, x3, y3, z3, x5, y5, x6, m6, y6, p1, p2, p3, p4, q1, q2, q3, r1, r2, r3, u1, u2, u3, v1, v2, v3, w1, w2, w3, w4, w5, fp, e2, e3, tgE, itE, c1, k3, k1, e1, hbody, h0, h1, h2, h3, h4, h5, h6, h7, h8, h9, h10, ⟨rfl, h11, h12, h13⟩, hr, ht⟩ := lk.ex
  rw [hbody]
  have hc : X.calm = true := ft.calm hr
  have pm := pe_bm (X := X) (apos := w2) (cpos := w4) PySem.F.plainAttrs_list PySem.F.slot_list_append PySem.F.type_list_append mt_append (vr_ok ft (px := w1) h12) (pa_cons (vr_ok ft (px := w3) h13) pa_nil rfl) rfl rfl h11 rfl rfl
  have body := pss_cons (ps_if (pos := r3) (sT L.c1 ft.toFit h6) (pss_cons (ps_ret (pos := r2) (pe_non (j := k1) (pos := r1))) pss_nil) pss_nil) (pss_cons (sAsgK ft h7) (pss_cons (ps_if (pos := u3) (sT L.c2 ft.toFit h8.1) (pss_cons (ps_ret (pos := u2) (vr_ok ft (px := u1) h8.2)) pss_nil) pss_nil) (pss_cons (sAsgK ft h9) (pss_cons (sAsgV (px := v1) (py := v2) (pos := v3) ft h10.1 h10.2) (pss_cons (ps_expr (pos := w5) pm rfl) pss_nil)))))
  refine ⟨_, pss_cons (sS wn L.c0 ft h0) (pss_cons (sAsgK ft h1) (pss_cons (sAsg1 ft h2.1 h2.2) (pss_cons (sAsgV ft h3.1 h3.2) (pss_cons (ps_for ft.pass hc (sSrc L.src ft.toFit h5) (pg_of (cok := fun _ => true) ft.hN ft.nd ft.hsc (fun x _ => ft.fn x) hc h4) body (nofold (src_noSet h5))) (pss_cons (ps_ret pe_non) pss_nil))))), fun vs H Q h => ?_⟩
  obtain ⟨hl, F0, ds, sm, is, hm⟩ := h
  have hm : Fin K cref F0 H Q E (evLay G wn N.length ps.length L ds) := hm
  have dl : ds.length = ps.length := is.len.symm.trans hl
  unfold evLay at hm
  rw [if_neg (fun z => z dl)] at hm
  have r0 := rel_start (N := N) (sz := N.length) sm is rfl
  rw [hK]
  show tS K _ G wn L.c0 _ _ _
  refine ⟨F0, H, F0, _, r0, ?_⟩
  generalize ds.map Slot.sh ++ List.replicate (N.length - ds.length) Slot.no = env at hm r0
  cases ho : evS G wn L.c0 env with
  | brk e => rw [ho] at hm; exact hm.elim
  | cnt e => rw [ho] at hm; exact hm.elim
  | stuck => rw [ho] at hm; exact hm.elim
  | ret t d => rw [ho] at hm; exact hm.elim
  | exc c e =>
    rw [ho] at hm
    exact fun σ F' H' q => hm F' H' q.ext
  | nx e =>
  rw [ho] at hm
  intro σ1 F1 H1 q1'
  rcases fin_if hm with ⟨hck, hm⟩ | ⟨_, hm⟩
  case inr => exact hm.elim
  simp only [Bool.and_eq_true, decide_eq_true_eq] at hck
  obtain ⟨⟨sh, no4⟩, hlen⟩ := hck
  have no4 : e[4]? = some PV.Slot.no := by
    unfold isNo4 at no4
    split at no4
    · assumption
    · cases no4
  have lσ : σ1.length = e.length := q1'.rel.len.symm
  obtain ⟨x1, hx1, hm⟩ := fin_bind hm
  obtain ⟨d1, hd1, hm⟩ := fin_bind hm
  obtain ⟨sr, hsr, hm⟩ := fin_bind hm
  refine ⟨F1, e, q1'.rel, ?_⟩
  rw [hx1]
  intro F2 H2 e2' v rv
  obtain ⟨fq, nf, o1⟩ := treeOf_own rv e2'.s hd1
  obtain ⟨x2', i2, o2⟩ := own_frz e2' o1 nf
  have n0 : ∀ a ∈ fq, H a = none := fun a ha => q1'.ext.h.free (nf a ha)
  have g3 : (σ1.set 3 (some v))[3]? = some (some v) := List.getElem?_set_self (by omega)
  refine ⟨v, g3, (show 1 ≤ sizeLine by rw [sizeLine_eq]; decide), fun p np => ?_⟩
  have xn : Ext (frzAt F2 H2 fq) H2 (frzAt F2 H2 fq) (upd H2 p (.lst [v])) := Ext.new0 x2'.s np
  have hF2p : frzAt F2 H2 fq p = none := x2'.s.free np
  have r3' : Rel K (frzAt F2 H2 fq) (upd H2 p (.lst [v])) ((σ1.set 3 (some v)).set 4 (some (.ref p))) (e.set 3 (.sh d1)) := by
    have r := ((q1'.rel.ext x2').set (i := 3) i2).ext xn
    have r := r.any (i := 4) (v := some (.ref p))
    have hz : (e.set 3 (PV.Slot.sh d1))[4]? = some PV.Slot.no := by rw [List.getElem?_set_ne (by decide)]; exact no4
    rw [set_eq_self hz] at r
    exact r
  have L0 : LInv K F0 H (frzAt F2 H2 fq) (upd H2 p (.lst [v])) ((σ1.set 3 (some v)).set 4 (some (.ref p))) (e.set 3 (.sh d1)) [d1] p [v] fq := by
    refine ⟨r3', (q1'.ext.trans x2').trans xn, List.getElem?_set_self (by rw [List.length_set]; omega), upd_same, hF2p, q1'.ext.h.free (x2'.h.free np), .one (own_stay xn o2), fun z => ?_, n0⟩
    have := (o2.at p z).2
    exact this np
  have g3b : ((σ1.set 3 (some v)).set 4 (some (.ref p)))[3]? = some (some v) := by rw [List.getElem?_set_ne (by decide)]; exact g3
  refine ⟨v, g3b, ?_⟩
  have L1 := L0.set (i := 5) i2 (by decide)
  have sh1 := shEnv_set (i := 5) (d := d1) (shEnv_set (i := 3) (d := d1) sh)
  have ln1 : 8 ≤ ((e.set 3 (.sh d1)).set 5 (.sh d1)).length := by rw [List.length_set, List.length_set]; exact hlen
  generalize (e.set 3 (.sh d1)).set 5 (.sh d1) = e5 at L1 sh1 ln1 hsr hm
  refine ⟨_, e5, L1.rel, ?_⟩
  rw [hsr]
  intro F3 H3 x3' J hJ hD
  cases hdm : sr.1.dm with
  | sh =>
    rw [hdm] at hm
    obtain ⟨F4, x4, it⟩ := hD hdm
    refine ⟨fun i m σ H' => m = sr.2.length - i ∧ i ≤ sr.2.length ∧ ∃ F e ds p vs fps, LInv K F0 H F H' σ e ds p vs fps ∧ shEnv' e = true ∧ 8 ≤ e.length ∧ Same F4 F ∧ Fin K cref F0 H Q E (layLp G L (sr.2.drop i) e ds),
      ⟨sr.2.length, rfl, Nat.zero_le _, F4, e5, [d1], p, [v], fq, L1.go x4, sh1, ln1, Same.refl _, by rw [List.drop_zero]; exact hm⟩, ?_⟩
    rintro i m σ H' ⟨rfl, hi, F, e, ds, p, vs, fps, li, she, le, s4, fin⟩
    by_cases hlt : i < sr.2.length
    · refine .inr ⟨it.go H' i (s4.trans li.rel.sub) hlt, _, fun σ' H' z => ⟨sr.2.length - (i + 1), by omega, z⟩, fun x H'' y => ?_⟩
      rw [List.drop_eq_getElem_cons hlt] at fin
      have hd : sr.2[i]? = some sr.2[i] := List.getElem?_eq_getElem hlt
      generalize sr.2[i] = d at fin hd
      obtain ⟨F5, w1', w2'⟩ := it.yld F H' i x H'' d (s4.trans li.rel.sub) li.rel.sub hd (.inl s4) y
      have li2 := (li.go w1').set (i := L.t) w2' ht
      unfold layLp at fin
      exact lay_turn (it := layLp G L) (rest := sr.2.drop (i + 1)) (k1 := 0) (k2 := 0) sm li2 (shEnv_set she) (by rw [List.length_set]; exact le) fin rfl fun e' ds' σ' F' H' p' vs' fps' l' sh' len' s' fin' =>
        ⟨rfl, by omega, F', e', ds', p', vs', fps', l', sh', by rw [len', List.length_set]; exact le, (s4.trans w1'.f).trans s', fin'⟩
    · have e0 : i = sr.2.length := by omega
      subst e0
      rw [List.drop_length] at fin
      refine .inl ⟨it.stop H' (s4.trans li.rel.sub), ?_⟩
      exact fin .non F H' li.ext (show Is K F .none .non by simp only [Is])
  | _ => rw [hdm] at hm; exact hm.elim
end
end PV

/-! PvDec: a def that asks for a list of trees, reads its last and gives back a tuple with that tree in it (decide). -/
namespace PV
open PySem PySem.Spec PyProof.Rows L2

/-- a state in which an own tree is held as shared -/
structure DInv (K : PySem.W.Frag) (F0 H0 F H : Hp) (σ : L2.St) (e : Env) (d : D) (v : V) (fp : List Addr) : Prop where
  rel : Rel K F H σ e
  ext : Ext F0 H0 F H
  own : Own K N0 H d v fp
  frz : ∀ a ∈ fp, F a = H a
  news : ∀ a ∈ fp, H0 a = none
section
variable {K : PySem.W.Frag} {F0 H0 F H F' H' : Hp} {σ : L2.St} {e : Env} {d : D} {v : V} {fp : List Addr}
theorem frz_go {fp : List Addr} (x : Ext F H F' H') (o : ∀ a ∈ fp, H a ≠ none) (z : ∀ a ∈ fp, F a = H a) : ∀ a ∈ fp, F' a = H' a := fun a ha => by
  have n := o a ha
  cases h : H a with
  | none => exact absurd h n
  | some u => rw [x.f a u (by rw [z a ha, h]), x.stay n, h]
theorem DInv.go (h : DInv K F0 H0 F H σ e d v fp) (x : Ext F H F' H') : DInv K F0 H0 F' H' σ e d v fp :=
  ⟨h.rel.ext x, h.ext.trans x, own_stay x h.own, frz_go x (fun a ha => (h.own.at a ha).2) h.frz, h.news⟩
theorem DInv.set (h : DInv K F0 H0 F H σ e d v fp) {i : Nat} {w : V} {c : D} (q : Is K F c w) : DInv K F0 H0 F H (σ.set i (some w)) (e.set i (.sh c)) d v fp :=
  ⟨h.rel.set q, h.ext, h.own, h.frz, h.news⟩
theorem tT_goD {W : Wd} {G : Gam} {c : Te} {b : Bool} {R' : Bool → Hp → Prop} (h : DInv K F0 H0 F H σ e d v fp) (hb : evT G c e = .ok b) (k : ∀ F' H', DInv K F0 H0 F' H' σ e d v fp → Ext F H F' H' → R' b H') : tT K W G c σ H R' := by
  refine ⟨F, e, h.rel, ?_⟩
  rw [hb]
  exact fun F' H' x => k F' H' (h.go x) x
/-- a new tuple of trees given back -/
theorem DInv.tup (h : DInv K F0 H0 F H σ e d v fp) (sm : Same F0 H0) {ds : List D} {vs : List V} {q : Addr} {fs : List Addr} (o : OwnL K N0 H ds vs fs) (n : ∀ a ∈ fs, H0 a = none) (np : H q = none) :
    Ext F0 H0 F0 (upd H q (.tup vs)) ∧ Res K H0 F0 (upd H q (.tup vs)) (.ref q) (.tr, .tuple ds) := by
  have hq0 : H0 q = none := h.ext.h.free np
  have ne : ∀ a ∈ fs, a ≠ q := fun a ha z => (o.at a ha).2 (by rw [z]; exact np)
  have sa : Same H0 (upd H q (.tup vs)) := fun b u z => by
    rw [upd_ne (fun w => by rw [w, hq0] at z; cases z)]
    exact h.ext.h b u z
  refine ⟨⟨Same.refl _, sa, sm.trans sa, fun b z => .inl z⟩, q :: fs, fun a ha => ?_, ?_⟩
  · rcases List.mem_cons.mp ha with rfl | ha
    · exact hq0
    · exact n a ha
  · simp only [Own]
    exact ⟨q, vs, fs, rfl, rfl, fun z => ne q z rfl, sm.free hq0, upd_same, o.keep fun a ha => ⟨sm.free (n a ha), upd_ne (ne a ha)⟩⟩
end
structure DecX where
  e1 : Ex
  c1 : Te
  u : Str
  e2 : Ex
  e4 : Ex
  c2 : Te
  nv : Str
  e5 : Ex
  po : Str
def evDecB (G : Gam) (L : DecX) (env : Env) (d1 : D) : R TD :=
  (nx0 (evT G L.c1 (env.set 3 (.sh d1)))).bind fun b1 => if b1 = true then .ok (.tr, .tuple [.str L.u]) else
  (nx0 (ev G L.e2 (env.set 3 (.sh d1)))).bind fun y => (nx0 (isInt y.2)).bind fun k => (nx0 (itemsR d1)).bind fun ls => (nx0 (placed ls k)).bind fun p =>
  (nx0 (ev G L.e4 ((env.set 3 (.sh d1)).set 4 (.sh p.2)))).bind fun x4 => (nx0 (scalD x4)).bind fun d4 =>
  (nx0 (evT G L.c2 (((env.set 3 (.sh d1)).set 4 (.sh p.2)).set 5 (.sh d4)))).bind fun b2 => if b2 = true then .ok (.tr, .tuple [.str L.nv, p.2]) else
  (nx0 (ev G L.e5 (((env.set 3 (.sh d1)).set 4 (.sh p.2)).set 5 (.sh d4)))).bind fun x5 => (nx0 (treeOf x5)).bind fun d5 =>
  .ok (.tr, .tuple [.str L.po, d4, d5, p.2])
def evDec (G : Gam) (sz k : Nat) (L : DecX) (ds : List D) : R TD :=
  if ds.length ≠ k then .stuck else if (decide (7 ≤ (ds.map Slot.sh ++ List.replicate (sz - ds.length) Slot.no).length)) = true then
    (ev G L.e1 (ds.map Slot.sh ++ List.replicate (sz - ds.length) Slot.no)).bind fun x1 => (nx0 (treeOf x1)).bind fun d1 => evDecB G L (ds.map Slot.sh ++ List.replicate (sz - ds.length) Slot.no) d1
  else .stuck
theorem evDec_len {G : Gam} {sz k : Nat} {L : DecX} (ds : List D) (h : evDec G sz k L ds ≠ .stuck) : ds.length = k := by
  by_cases c : ds.length = k
  · exact c
  · unfold evDec at h
    rw [if_pos c] at h
    exact absurd rfl h
section
variable {cref : Str → Value} {n : Nat} {G : Gam} {bs cs N : List Str}
/-- name = name[e] -/
theorem sAsgI {X : Cx} {W : Wd} {sc : Scope} {i j : Nat} {e : Ex} {x y : Str} {s : Expr} {px py ps pos : Pos} (ft : SFit X W cref n G bs cs N sc) (h1 : stB N sc (fun _ => true) i x = true) (h2 : vr N sc j y = true) (h3 : noSl s = true) (h4 : chkE N bs e sc s = true) :
    PS X (.Assign [.Name x px] (.Subscript (.Name y py) s ps) pos) (tAsg (tOp (rIx X.K) (tVar j) (tE X.K W G e)) (gName i)) := by
  obtain ⟨a, b, c⟩ := st_of ft.hN ft.hsc (fun x _ => ft.fn x) h1
  exact ps_set (by rw [ft.hN]; exact ft.nd) a b (pe_ix ix_seq (vr_ok ft h2) (sE e ft.toFit h4) (plainIx_of h3)) rfl c
structure DLook (N bs cs : List Str) (sc : Scope) (body : List Stmt) (L : DecX) : Prop where
  ex : ∃ (s0 s3 s5 : Stmt) (t1 t4 i2 : Expr) (x2 y2 y4 a6 b6 c6 : Str) (k1 k4 k6 k2 k5 k7 : Nat) (p1 p2 p3 p4 q1 q2 q3 q4 r1 r2 r3 r4 r5 u1 u2 u3 u4 u5 u6 : Pos),
    body = [s0, .If t1 [.Return (some (.Tuple [.Constant (.str L.u) k1 p1] k2 p2)) p3] [] p4, .Assign [.Name x2 q1] (.Subscript (.Name y2 q2) i2 q3) q4, s3, .If t4 [.Return (some (.Tuple [.Constant (.str L.nv) k4 r1, .Name y4 r2] k5 r3)) r4] [] r5, s5, .Return (some (.Tuple [.Constant (.str L.po) k6 u1, .Name a6 u2, .Name b6 u3, .Name c6 u4] k7 u5)) u6] ∧
    chkS N bs cs sc (.asg [] 3 L.e1) s0 = true ∧ chkT N bs L.c1 sc t1 = true ∧ (stB N sc (fun _ => true) 4 x2 = true ∧ vr N sc 3 y2 = true ∧ noSl i2 = true ∧ chkE N bs L.e2 sc i2 = true) ∧ chkS N bs cs sc (.asg [] 5 L.e4) s3 = true ∧ (chkT N bs L.c2 sc t4 = true ∧ vr N sc 4 y4 = true) ∧ chkS N bs cs sc (.asg [] 6 L.e5) s5 = true ∧ (vr N sc 5 a6 = true ∧ vr N sc 6 b6 = true ∧ vr N sc 4 c6 = true)
/-- THE RULE for the def -/
theorem dec_ok {P : Program} {w : World} {K : PySem.W.Frag} {mg : Str → Option Value} {base : Heap} {k : Nat} {f : Addr} {x qual : Str} {st : Stmt} {fd : FuncData} {ps : List Str} {L : DecX} (F : L2.Fun K x qual st f fd) (S : FnScope N ps (defScope st)) (gc : GC P w K mg base cref k G bs cs)
    (lk : DLook N bs cs (defScope st) (defBody st) L) : FnG P w K mg base (k + 1) f fd ps (spD K cref ps.length (evDec G N.length ps.length L)) := by
  refine def_run F S gc (fun vs H Q E h => h.1) fun X E ft hK => ?_
  obtain ⟨s0, s3, s5, t1, t4, i2, x2, y2, y4, a6, b6, c6, k1, k4, k6, k2, k5, k7, p1, p2, p3, p4, q1, q2, q3, q4, r1, r2, r3, r4, r5, u1, u2, u3, u4, u5, u6, hbody, h0, h1, h2, h3, h4, h5, h6⟩ := lk.ex
  rw [hbody]
  refine ⟨_, pss_cons (sAsgK ft h0) (pss_cons (ps_if (sT L.c1 ft.toFit h1) (pss_cons (ps_ret (pe_tup (pa_cons pe_str pa_nil rfl))) pss_nil) pss_nil) (pss_cons (sAsgI ft h2.1 h2.2.1 h2.2.2.1 h2.2.2.2) (pss_cons (sAsgK ft h3) (pss_cons (ps_if (sT L.c2 ft.toFit h4.1) (pss_cons (ps_ret (pe_tup (pa_cons pe_str (pa_cons (vr_ok ft h4.2) pa_nil rfl) rfl))) pss_nil) pss_nil)
    (pss_cons (sAsgK ft h5) (pss_cons (ps_ret (pe_tup (pa_cons pe_str (pa_cons (vr_ok ft h6.1) (pa_cons (vr_ok ft h6.2.1) (pa_cons (vr_ok ft h6.2.2) pa_nil rfl) rfl) rfl) rfl))) pss_nil)))))), fun vs H Q h => ?_⟩
  obtain ⟨hl, F0, ds, sm, is, hm⟩ := h
  have hm : Fin K cref F0 H Q E (evDec G N.length ps.length L ds) := hm
  have dl : ds.length = ps.length := is.len.symm.trans hl
  unfold evDec at hm
  rw [if_neg (fun z => z dl)] at hm
  have r0 := rel_start (N := N) (sz := N.length) sm is rfl
  rw [hK]
  generalize ds.map Slot.sh ++ List.replicate (N.length - ds.length) Slot.no = e at hm r0
  generalize L2.start N vs = σ at r0
  rcases fin_if hm with ⟨hck, hm⟩ | ⟨_, hm⟩
  case inr => exact hm.elim
  have hlen : 7 ≤ e.length := by simpa using hck
  have r0 : Rel K F0 H σ e := r0.rel
  have lσ : σ.length = e.length := r0.len.symm
  refine ⟨F0, e, r0, ?_⟩
  cases hx1 : ev G L.e1 e with
  | stuck => rw [hx1] at hm; exact hm.elim
  | exc c =>
    rw [hx1] at hm
    exact fun F' H' q => hm F' H' q
  | ok x1 =>
  rw [hx1] at hm
  have hm : Fin K cref F0 H Q E ((nx0 (treeOf x1)).bind fun d1 => evDecB G L e d1) := hm
  obtain ⟨d1, hd1, hm⟩ := fin_bind hm
  unfold evDecB at hm
  intro F2 H2 e2 v1 rv
  obtain ⟨fq, nf, o1⟩ := treeOf_own rv e2.s hd1
  obtain ⟨x2', i2', o2⟩ := own_frz e2 o1 nf
  have D1 : DInv K F0 H (frzAt F2 H2 fq) H2 (σ.set 3 (some v1)) (e.set 3 (.sh d1)) d1 v1 fq :=
    ⟨(r0.ext x2').set i2', x2', o2, fun a ha => frzAt_in ha, nf⟩
  generalize frzAt F2 H2 fq = F3 at D1
  have g3 : (σ.set 3 (some v1))[3]? = some (some v1) := List.getElem?_set_self (by omega)
  have l1 : (σ.set 3 (some v1)).length = e.length := by rw [List.length_set]; exact lσ
  obtain ⟨b1, hb1, hm⟩ := fin_bind hm
  dsimp only [gName, tSeq, tIfS]
  refine tT_goD D1 hb1 fun F4 H4 D2 s4 => ?_
  rcases fin_if hm with ⟨rfl, hm⟩ | ⟨rfl, hm⟩
  · refine iteT ?_
    refine ⟨(show 1 ≤ sizeLine by rw [sizeLine_eq]; decide), fun q np => ?_⟩
    obtain ⟨z1, z2⟩ := D2.tup sm (ds := [.str L.u]) (vs := [.str L.u]) (fs := []) (.one (by simp only [Own]; exact ⟨trivial, trivial⟩)) (fun a z => by cases z) np
    exact hm _ F0 _ z1 z2
  refine iteF ?_
  obtain ⟨y, hy, hm⟩ := fin_bind hm
  obtain ⟨k, hk, hm⟩ := fin_bind hm
  obtain ⟨ls, hls, hm⟩ := fin_bind hm
  obtain ⟨⟨m, b⟩, hp, hm⟩ := fin_bind hm
  have hls := itemsS_ok hls
  refine ⟨v1, g3, F4, _, D2.rel, ?_⟩
  rw [hy]
  intro F5 H5 e5 v5 rv5
  have ik : y.2 = .int k := by
    cases hy2 : y.2 with
    | int j => rw [hy2] at hk; cases hk; rfl
    | _ => rw [hy2] at hk; cases hk
  have iv := rv5.is e5.s
  rw [ik] at iv
  cases is_int iv
  have D3 := D2.go e5
  obtain ⟨pa, ws, w', f, hv1, g1, g2, gl, g4, g5, _⟩ := D3.own.part hls (placed_ok hp).2
  subst hv1
  have ea : atI ws k = some w' := atI_of gl hp g2
  have hat : ∀ Q', Q' w' H5 → rIx K (.ref pa) (.int k) H5 Q' := fun Q' q => by
    rw [← hK]
    exact atI_ok g1 ea q
  refine hat _ ?_
  have isb : Is K F5 b w' := g4.is fun a ha => D3.frz a (g5 a ha)
  have D4 := D3.set (i := 4) isb
  have g4' : ((σ.set 3 (some (.ref pa))).set 4 (some w'))[4]? = some (some w') := List.getElem?_set_self (by rw [l1]; omega)
  obtain ⟨x4, hx4, hm⟩ := fin_bind hm
  obtain ⟨d4, hd4, hm⟩ := fin_bind hm
  refine ⟨F5, _, D4.rel, ?_⟩
  rw [hx4]
  intro F6 H6 e6 v6 rv6
  have sd4 : scal d4 = true ∧ d4 = x4.2 := by
    unfold scalD at hd4
    split at hd4
    · rename_i c; cases hd4; exact ⟨c, rfl⟩
    · cases hd4
  have D5 := D4.go e6
  obtain ⟨fc, nc, oc⟩ : ∃ fp, (∀ a ∈ fp, H5 a = none) ∧ Own K F6 H6 d4 v6 fp := ⟨[], (fun a z => by cases z), own_scal (by rw [sd4.2]; exact rv6.is e6.s) sd4.1⟩
  have fc0 := oc.scal sd4.1
  subst fc0
  have oc' : ∀ {FF HH : Hp}, Own K FF HH d4 v6 [] := fun {FF HH} => oc.keep fun a z => by cases z
  have i6 : Is K F6 d4 v6 := oc.is fun a z => by cases z
  have D6 := D5.set (i := 5) i6
  obtain ⟨b2, hb2, hm⟩ := fin_bind hm
  have g45 : (((σ.set 3 (some (.ref pa))).set 4 (some w')).set 5 (some v6))[4]? = some (some w') := by rw [List.getElem?_set_ne (by decide)]; exact g4'
  dsimp only [gName, tSeq, tIfS]
  refine tT_goD D6 hb2 fun F7 H7 D7 s7 => ?_
  have ob : Own K N0 H7 b w' f := own_stay s7 (own_stay e6 g4)
  rcases fin_if hm with ⟨rfl, hm⟩ | ⟨rfl, hm⟩
  · refine iteT ?_
    refine ⟨w', g45, (show 2 ≤ sizeLine by rw [sizeLine_eq]; decide), fun q np => ?_⟩
    have ol : OwnL K N0 H7 [.str L.nv, b] [.str L.nv, w'] f := by
      have := OwnL.app (.one ob) (.one (show Own K N0 H7 (.str L.nv) (.str L.nv) [] by simp only [Own]; exact ⟨trivial, trivial⟩)) (fun a z => by cases z)
      simpa using this
    obtain ⟨z1, z2⟩ := D7.tup sm ol (fun a ha => D7.news a (g5 a ha)) np
    exact hm _ F0 _ z1 z2
  refine iteF ?_
  obtain ⟨x5, hx5, hm⟩ := fin_bind hm
  obtain ⟨d5, hd5, hm⟩ := fin_bind hm
  refine ⟨F7, _, D7.rel, ?_⟩
  rw [hx5]
  intro F8 H8 e8 v8 rv8
  obtain ⟨fr, nr, o8⟩ := treeOf_own rv8 e8.s hd5
  have D8 := D7.go e8
  have l5 : (((σ.set 3 (some (.ref pa))).set 4 (some w')).set 5 (some v6)).length = e.length := by rw [List.length_set, List.length_set]; exact l1
  have s5 : ((((σ.set 3 (some (.ref pa))).set 4 (some w')).set 5 (some v6)).set 6 (some v8))[5]? = some (some v6) := by
    rw [List.getElem?_set_ne (by decide), List.getElem?_set_self (by rw [List.length_set, l1]; omega)]
  have s6 : ((((σ.set 3 (some (.ref pa))).set 4 (some w')).set 5 (some v6)).set 6 (some v8))[6]? = some (some v8) := List.getElem?_set_self (by rw [l5]; omega)
  have s4' : ((((σ.set 3 (some (.ref pa))).set 4 (some w')).set 5 (some v6)).set 6 (some v8))[4]? = some (some w') := by
    rw [List.getElem?_set_ne (by decide)]; exact g45
  refine ⟨v6, s5, v8, s6, w', s4', (show 4 ≤ sizeLine by rw [sizeLine_eq]; decide), fun q np => ?_⟩
  have ob8 : Own K N0 H8 b w' f := own_stay e8 ob
  have or8 : Own K N0 H8 d5 v8 fr := o8.keep fun a ha => ⟨rfl, rfl⟩
  have ol : OwnL K N0 H8 [.str L.po, d4, d5, b] [.str L.po, v6, v8, w'] (fr ++ f) := by
    have a1 := OwnL.app (.one ob8) (.one or8) (fun a ha z => (ob.at a z).2 (nr a ha))
    have a2 := OwnL.app a1 (.one (oc' (FF := N0) (HH := H8))) (fun a z => by cases z)
    have a3 := OwnL.app a2 (.one (show Own K N0 H8 (.str L.po) (.str L.po) [] by simp only [Own]; exact ⟨trivial, trivial⟩)) (fun a z => by cases z)
    simpa using a3
  obtain ⟨z1, z2⟩ := D8.tup sm ol (fun a ha => by
    rcases List.mem_append.mp ha with ha | ha
    · exact D7.ext.h.free (nr a ha)
    · exact D7.news a (g5 a ha)) np
  exact hm _ F0 _ z1 z2
end
end PV

namespace K48
open PySem L2 PV
def bs : List Str := ["!try", "abs", "all", "any", "enumerate", "int", "isinstance", "len", "list", "max", "range", "repr", "sorted", "sum", "tuple", "zip"]
def cs : List Str := ["NotPossible", "OutOfRange"]
def ks : List Str := cs
def at_ (i : Nat) : Stmt := PySem.Challenge.pw_legion_k48_answers_decided.main.body.getD i (.Pass ⟨0, 0, 0, 0⟩)
def G_c_MOST_ELEMENTS : Gam := Gam.none.add (cgn "MOST_ELEMENTS") fun _ => .ok (.sh, .int 2000)
/-! ### covers -/
abbrev s_covers : Stmt := at_ 5
def N_covers : List Str := ["first", "second", "one", "other"]
def p_covers : List Str := ["first", "second"]
def b_covers : List Sx := [.ifs (.val (.cmp .ne (.ix (.var 0) (.cst (.int 0))) (.ix (.var 1) (.cst (.int 0))))) [.ret [] (.cst (.bool false))] [], .ret [] (.bi .all (.cons (.cpr 
  [("one", 2), ("other", 3)] (.tp [2, 3]) (.zip (.ix (.var 0) (.cst (.int 1))) (.ix (.var 1) (.cst (.int 1)))) .nil (.cmp .ge (.var 2) (.var 3))) .nil))]
def g_covers : List D → R TD := evDef G_c_MOST_ELEMENTS 10000 4 2 b_covers
theorem h_covers : chkSs N_covers bs cs (defScope s_covers) b_covers (defBody s_covers) = true := by decide +kernel
theorem c_covers : FnScope N_covers p_covers (defScope s_covers) := ⟨rfl, rfl, rfl, by decide +kernel, rfl, by decide +kernel, by decide +kernel⟩
def G_covers : Gam := G_c_MOST_ELEMENTS.add "covers" g_covers
/-! ### is_above -/
abbrev s_is_above : Stmt := at_ 6
def N_is_above : List Str := ["situation", "basis", "element"]
def p_is_above : List Str := ["situation", "basis"]
def b_is_above : List Sx := [.ret [] (.bi .any (.cons (.cpr [("element", 2)] (.nm 2) (.lst (.var 1)) .nil (.call "covers" (.cons (.var 0) (.cons (.var 2) .nil)))) .nil))]
def g_is_above : List D → R TD := evDef G_covers 10000 3 2 b_is_above
theorem h_is_above : chkSs N_is_above bs cs (defScope s_is_above) b_is_above (defBody s_is_above) = true := by decide +kernel
theorem c_is_above : FnScope N_is_above p_is_above (defScope s_is_above) := ⟨rfl, rfl, rfl, by decide +kernel, rfl, by decide +kernel, by decide +kernel⟩
@[simp] theorem lk_is_above_covers : G_covers "covers" = some g_covers := rfl
def G_is_above : Gam := G_covers.add "is_above" g_is_above
/-! ### place_in_order -/
abbrev s_place_in_order : Stmt := at_ 7
def N_place_in_order : List Str := ["situation"]
def p_place_in_order : List Str := ["situation"]
def b_place_in_order : List Sx := [.ret [] (.tup (.cons (.ix (.var 0) (.cst (.int 0))) (.cons (.bi .tuple (.cons (.ix (.var 0) (.cst (.int 1))) .nil)) .nil)))]
def g_place_in_order : List D → R TD := evDef G_is_above 10000 1 1 b_place_in_order
theorem h_place_in_order : chkSs N_place_in_order bs cs (defScope s_place_in_order) b_place_in_order (defBody s_place_in_order) = true := by decide +kernel
theorem c_place_in_order : FnScope N_place_in_order p_place_in_order (defScope s_place_in_order) := ⟨rfl, rfl, rfl, by decide +kernel, rfl, by decide +kernel, by decide +kernel⟩
def G_place_in_order : Gam := G_is_above.add "place_in_order" g_place_in_order
/-! ### weight -/
abbrev s_weight : Stmt := at_ 8
def N_weight : List Str := ["situation"]
def p_weight : List Str := ["situation"]
def b_weight : List Sx := [.ret [] (.bi .sum (.cons (.ix (.var 0) (.cst (.int 1))) .nil))]
def g_weight : List D → R TD := evDef G_place_in_order 10000 1 1 b_weight
theorem h_weight : chkSs N_weight bs cs (defScope s_weight) b_weight (defBody s_weight) = true := by decide +kernel
theorem c_weight : FnScope N_weight p_weight (defScope s_weight) := ⟨rfl, rfl, rfl, by decide +kernel, rfl, by decide +kernel, by decide +kernel⟩
def G_weight : Gam := G_place_in_order.add "weight" g_weight
/-! ### least_ones -/
abbrev s_least_ones : Stmt := at_ 9
def N_least_ones : List Str := ["situations", "chosen", "situation"]
def p_least_ones : List Str := ["situations"]
def b_least_ones : List Sx := [.asgO [] 1 (.lst .nil), .lop [] (.nm 2) (.lst (.srk "weight" (.var 0))) [.ifs (.not (.tru (.call "is_above" (.cons (.var 2) (.cons (.var 1) .nil))))) 
  [.appO [] 1 (.prT (.cons (.ix (.var 2) (.cst (.int 0))) (.cons (.bi .list (.cons (.ix (.var 2) (.cst (.int 1))) .nil)) .nil)))] []], .rts "place_in_order" 1]
def g_least_ones : List D → R TD := evDef G_weight 10000 3 1 b_least_ones
theorem h_least_ones : chkSs N_least_ones bs cs (defScope s_least_ones) b_least_ones (defBody s_least_ones) = true := by decide +kernel
theorem c_least_ones : FnScope N_least_ones p_least_ones (defScope s_least_ones) := ⟨rfl, rfl, rfl, by decide +kernel, rfl, by decide +kernel, by decide +kernel⟩
@[simp] theorem lk_least_ones_is_above : G_weight "is_above" = some g_is_above := rfl
@[simp] theorem lk_least_ones_place_in_order : G_weight "place_in_order" = some g_place_in_order := rfl
@[simp] theorem lk_least_ones_weight : G_weight "weight" = some g_weight := rfl
def G_least_ones : Gam := G_weight.add "least_ones" g_least_ones
/-! ### needed_before -/
abbrev s_needed_before : Stmt := at_ 12
def N_needed_before : List Str := ["move", "counts", "need", "count"]
def p_needed_before : List Str := ["move", "counts"]
def b_needed_before : List Sx := [.asg [] 2 (.bi .list (.cons (.var 1) .nil)), .augX 2 .sub (.ix (.var 0) (.cst (.int 3))) (.cst (.int 1)), .ifs (.val (.cmp .isn (.ix (.var 0) 
  (.cst (.int 4))) (.cst .none))) [.augX 2 .sub (.ix (.var 0) (.cst (.int 4))) (.cst (.int 1))] [], .ret [] (.cpr [("count", 3)] (.nm 3) (.lst (.var 2)) .nil (.bi .max (.cons (.var 
  3) (.cons (.cst (.int 0)) .nil))))]
def g_needed_before : List D → R TD := evDef G_least_ones 10000 4 2 b_needed_before
theorem h_needed_before : chkSs N_needed_before bs cs (defScope s_needed_before) b_needed_before (defBody s_needed_before) = true := by decide +kernel
theorem c_needed_before : FnScope N_needed_before p_needed_before (defScope s_needed_before) := ⟨rfl, rfl, rfl, by decide +kernel, rfl, by decide +kernel, by decide +kernel⟩
def G_needed_before : Gam := G_least_ones.add "needed_before" g_needed_before
/-! ### sources_of -/
abbrev s_sources_of : Stmt := at_ 13
def N_sources_of : List Str := ["move", "sources", "first", "second"]
def p_sources_of : List Str := ["move"]
def b_sources_of : List Sx := [.asgO [] 1 .dnew, .lop [] (.tp [2, 3]) (.lst (.ix (.var 0) (.cst (.int 5)))) [.sda 1 (.var 3) (.var 2)], .rtv 1]
def g_sources_of : List D → R TD := evDef G_needed_before 10000 4 1 b_sources_of
theorem h_sources_of : chkSs N_sources_of bs cs (defScope s_sources_of) b_sources_of (defBody s_sources_of) = true := by decide +kernel
theorem c_sources_of : FnScope N_sources_of p_sources_of (defScope s_sources_of) := ⟨rfl, rfl, rfl, by decide +kernel, rfl, by decide +kernel, by decide +kernel⟩
def G_sources_of : Gam := G_needed_before.add "sources_of" g_sources_of
/-! ### divisions -/
abbrev s_divisions : Stmt := at_ 14
def N_divisions : List Str := ["total", "parts", "ways", "first", "rest"]
def p_divisions : List Str := ["total", "parts"]
def b_divisions : List Sx := [.ifs (.val (.cmp .eq (.var 1) (.cst (.int 1)))) [.ret [0] (.lst (.cons (.lst (.cons (.var 0) .nil)) .nil))] [], .asg [] 2 (.lst .nil), .lop [] (.nm 3) 
  (.rg1 (.bin .add (.var 0) (.cst (.int 1)))) [.lop [] (.nm 4) (.lst (.call "divisions" (.cons (.bin .sub (.var 0) (.var 3)) (.cons (.bin .sub (.var 1) (.cst (.int 1))) .nil)))) 
  [.app [3] 2 (.bin .add (.lst (.cons (.var 3) .nil)) (.var 4))]], .rtv 2]
def g_divisions : List D → R TD := gRec G_sources_of "divisions" 10000 5 2 b_divisions 12
theorem h_divisions : chkSs N_divisions bs cs (defScope s_divisions) b_divisions (defBody s_divisions) = true := by decide +kernel
theorem c_divisions : FnScope N_divisions p_divisions (defScope s_divisions) := ⟨rfl, rfl, rfl, by decide +kernel, rfl, by decide +kernel, by decide +kernel⟩
def G_divisions : Gam := G_sources_of.add "divisions" g_divisions
/-! ### spread -/
abbrev s_spread : Stmt := at_ 15
def N_spread : List Str := ["need", "sources", "results", "second", "places", "extended", "counts", "division", "copy", "place", "count"]
def p_spread : List Str := ["need", "sources"]
def b_spread : List Sx := [.asgO [] 2 (.lsT (.bi .list (.cons (.var 0) .nil))), .lop [] (.nm 3) (.lst (.srd (.var 1))) [.asg [3] 4 (.bin .add (.lst (.cons (.var 3) .nil)) (.dix 
  (.var 1) (.var 3))), .asgO [] 5 (.lst .nil), .lop [2] (.nm 6) (.lst (.var 2)) [.lop [] (.nm 7) (.lst (.call "divisions" (.cons (.ix (.var 0) (.var 3)) (.cons (.bi .len (.cons 
  (.var 4) .nil)) .nil)))) [.asg [] 8 (.bi .list (.cons (.var 6) .nil)), .lop [4, 7] (.tp [9, 10]) (.zip (.var 4) (.var 7)) [.setX [10] 8 (.var 9) (.var 10)], .appT 5 8]], .mov 2 
  5], .rtv 2]
def g_spread : List D → R TD := evDef G_divisions 10000 11 2 b_spread
theorem h_spread : chkSs N_spread bs cs (defScope s_spread) b_spread (defBody s_spread) = true := by decide +kernel
theorem c_spread : FnScope N_spread p_spread (defScope s_spread) := ⟨rfl, rfl, rfl, by decide +kernel, rfl, by decide +kernel, by decide +kernel⟩
@[simp] theorem lk_spread_divisions : G_divisions "divisions" = some g_divisions := rfl
def G_spread : Gam := G_divisions.add "spread" g_spread
/-! ### check_move_back -/
abbrev s_check_move_back : Stmt := at_ 16
def N_check_move_back : List Str := ["machine", "move"]
def p_check_move_back : List Str := ["machine", "move"]
def b_check_move_back : List Sx := [.ifs (.not (.val (.chn .le .lt (.cst (.int 0)) (.var 1) (.bi .len (.cons (.ix (.var 0) (.cst (.int 4))) .nil))))) [.rai "OutOfRange"] []]
def g_check_move_back : List D → R TD := evDef G_spread 10000 2 2 b_check_move_back
theorem h_check_move_back : chkSs N_check_move_back bs cs (defScope s_check_move_back) b_check_move_back (defBody s_check_move_back) = true := by decide +kernel
theorem c_check_move_back : FnScope N_check_move_back p_check_move_back (defScope s_check_move_back) := ⟨rfl, rfl, rfl, by decide +kernel, rfl, by decide +kernel, by decide +kernel⟩
def G_check_move_back : Gam := G_spread.add "check_move_back" g_check_move_back
/-! ### predecessors -/
abbrev s_predecessors : Stmt := at_ 18
def N_predecessors : List Str := ["machine", "move", "situation", "taken", "need", "found", "counts", "first", "_"]
def p_predecessors : List Str := ["machine", "move", "situation"]
def b_predecessors : List Sx := [.exp (.call "check_move_back" (.cons (.var 0) (.cons (.var 1) .nil))), .asg [] 3 (.ix (.ix (.var 0) (.cst (.int 4))) (.var 1)), .ifs (.val (.cmp 
  .ne (.ix (.var 2) (.cst (.int 0))) (.ix (.var 3) (.cst (.int 2))))) [.ret [] (.lst .nil)] [], .asg [3] 4 (.call "needed_before" (.cons (.var 3) (.cons (.ix (.var 2) (.cst (.int 
  1))) .nil))), .ifs (.tru (.bi .any (.cons (.cpr [("first", 7), ("_", 8)] (.tp [7, 8]) (.lst (.ix (.var 3) (.cst (.int 5)))) .nil (.cmp .gt (.ix (.var 4) (.var 7)) (.cst (.int 
  0)))) .nil))) [.ret [] (.lst .nil)] [], .asgO [] 5 (.lst .nil), .lopP [3, 4] 5 6 (.call "spread" (.cons (.var 4) (.cons (.call "sources_of" (.cons (.var 3) .nil)) .nil))) (.ix 
  (.var 3) (.cst (.int 1))) 1, .ret [5] (.cpr [("counts", 6)] (.nm 6) (.lst (.bi .sorted (.cons (.var 5) .nil))) .nil (.tup (.cons (.ix (.var 3) (.cst (.int 0))) (.cons (.var 6) 
  .nil))))]
def g_predecessors : List D → R TD := evDef G_check_move_back 10000 9 3 b_predecessors
theorem h_predecessors : chkSs N_predecessors bs cs (defScope s_predecessors) b_predecessors (defBody s_predecessors) = true := by decide +kernel
theorem c_predecessors : FnScope N_predecessors p_predecessors (defScope s_predecessors) := ⟨rfl, rfl, rfl, by decide +kernel, rfl, by decide +kernel, by decide +kernel⟩
@[simp] theorem lk_predecessors_check_move_back : G_check_move_back "check_move_back" = some g_check_move_back := rfl
@[simp] theorem lk_predecessors_needed_before : G_check_move_back "needed_before" = some g_needed_before := rfl
@[simp] theorem lk_predecessors_sources_of : G_check_move_back "sources_of" = some g_sources_of := rfl
@[simp] theorem lk_predecessors_spread : G_check_move_back "spread" = some g_spread := rfl
def G_predecessors : Gam := G_check_move_back.add "predecessors" g_predecessors
/-! ### all_predecessors -/
abbrev s_all_predecessors : Stmt := at_ 19
def N_all_predecessors : List Str := ["machine", "situations", "found", "situation", "move", "taken"]
def p_all_predecessors : List Str := ["machine", "situations"]
def b_all_predecessors : List Sx := [.asg [] 2 (.lst .nil), .lop [1] (.nm 3) (.lst (.var 1)) [.lop [] (.tp [4, 5]) (.enu (.ix (.var 0) (.cst (.int 4)))) [.ifs (.val (.cmp .eq (.ix 
  (.var 5) (.cst (.int 2))) (.ix (.var 3) (.cst (.int 0))))) [.asg [0, 3, 4] 2 (.bin .add (.var 2) (.call "predecessors" (.cons (.var 0) (.cons (.var 4) (.cons (.var 3) .nil)))))] 
  []]], .rtv 2]
def g_all_predecessors : List D → R TD := evDef G_predecessors 10000 6 2 b_all_predecessors
theorem h_all_predecessors : chkSs N_all_predecessors bs cs (defScope s_all_predecessors) b_all_predecessors (defBody s_all_predecessors) = true := by decide +kernel
theorem c_all_predecessors : FnScope N_all_predecessors p_all_predecessors (defScope s_all_predecessors) := ⟨rfl, rfl, rfl, by decide +kernel, rfl, by decide +kernel, by decide +kernel⟩
@[simp] theorem lk_all_predecessors_predecessors : G_predecessors "predecessors" = some g_predecessors := rfl
def G_all_predecessors : Gam := G_predecessors.add "all_predecessors" g_all_predecessors
/-! ### next_layer -/
abbrev s_next_layer : Stmt := at_ 20
def N_next_layer : List Str := ["machine", "layer", "fresh", "new", "element"]
def p_next_layer : List Str := ["machine", "layer", "fresh"]
def b_next_layer : List Sx := [.asg [0, 2] 3 (.cpr [("element", 4)] (.nm 4) (.lst (.call "all_predecessors" (.cons (.var 0) (.cons (.var 2) .nil)))) (.cons (.not (.tru (.call 
  "is_above" (.cons (.var 4) (.cons (.var 1) .nil))))) .nil) (.var 4)), .ret [] (.call "least_ones" (.cons (.bin .add (.var 1) (.var 3)) .nil))]
def g_next_layer : List D → R TD := evDef G_all_predecessors 10000 5 3 b_next_layer
theorem h_next_layer : chkSs N_next_layer bs cs (defScope s_next_layer) b_next_layer (defBody s_next_layer) = true := by decide +kernel
theorem c_next_layer : FnScope N_next_layer p_next_layer (defScope s_next_layer) := ⟨rfl, rfl, rfl, by decide +kernel, rfl, by decide +kernel, by decide +kernel⟩
@[simp] theorem lk_next_layer_all_predecessors : G_all_predecessors "all_predecessors" = some g_all_predecessors := rfl
@[simp] theorem lk_next_layer_is_above : G_all_predecessors "is_above" = some g_is_above := rfl
@[simp] theorem lk_next_layer_least_ones : G_all_predecessors "least_ones" = some g_least_ones := rfl
def G_next_layer : Gam := G_all_predecessors.add "next_layer" g_next_layer
/-! ### layers -/
abbrev s_layers : Stmt := at_ 21
def N_layers : List Str := ["machine", "bad", "fuel", "layer", "found", "fresh", "_", "following", "element"]
def p_layers : List Str := ["machine", "bad", "fuel"]
def x_layers : LayX := ⟨(.ifs (.val (.cmp .lt (.var 2) (.cst (.int 0)))) [.rai "OutOfRange"] []), (.call "least_ones" (.cons (.var 1) .nil)), (6), (.rg1 (.var 2)), (.val (.cmp .gt (.bi .len (.cons (.var 3) .nil)) (.glo "MOST_ELEMENTS"))), (.call "next_layer" (.cons (.var 0) (.cons (.var 3) (.cons (.var 5) .nil)))), (.val (.cmp .eq (.var 7) (.var 3))), (.cpr [("element", 8)] (.nm 8) (.lst (.var 7)) (.cons (.val (.cmp .nin (.var 8) (.var 3))) .nil) (.var 8))⟩
def g_layers : List D → R TD := evLay G_next_layer 10000 9 3 x_layers
theorem h_layers : LLook N_layers bs cs (defScope s_layers) (defBody s_layers) x_layers := ⟨⟨_, _, _, _, _, _, _, _, _, _, _, _, _, _, _, _, _, _, _, _, _, _, _, _, _, _, _, _, _, _, _, _, _, _, _, _, _, _, _, _, _, _, _, _, rfl, by decide +kernel, by decide +kernel, by decide +kernel, by decide +kernel, by decide +kernel, by decide +kernel, by decide +kernel, by decide +kernel, by decide +kernel, by decide +kernel, by decide +kernel, by decide +kernel, by decide +kernel, by decide +kernel⟩⟩
theorem c_layers : FnScope N_layers p_layers (defScope s_layers) := ⟨rfl, rfl, rfl, by decide +kernel, rfl, by decide +kernel, by decide +kernel⟩
@[simp] theorem lk_layers_least_ones : G_next_layer "least_ones" = some g_least_ones := rfl
@[simp] theorem lk_layers_next_layer : G_next_layer "next_layer" = some g_next_layer := rfl
@[simp] theorem lkC_layers_MOST_ELEMENTS : G_next_layer (cgn "MOST_ELEMENTS") = some (fun _ => .ok (.sh, .int 2000)) := by first | rfl | decide +kernel
def G_layers : Gam := G_next_layer.add (kwn "layers" "fuel") g_layers
/-! ### crew_for -/
abbrev s_crew_for : Stmt := at_ 23
def N_crew_for : List Str := ["machine", "element", "state", "counts", "crew", "place", "count"]
def p_crew_for : List Str := ["machine", "element"]
def b_crew_for : List Sx := [.asgT [] [2, 3] (.ix (.var 0) (.cst (.int 2))), .asg [] 4 (.ix (.var 0) (.cst (.int 3))), .ifs (.val (.cmp .ne (.ix (.var 1) (.cst (.int 0))) (.var 
  2))) [.ret [] (.cst .none)] [], .lop [] (.tp [5, 6]) (.enu (.ix (.var 1) (.cst (.int 1)))) [.ifs (.and (.cons (.val (.cmp .ne (.var 5) (.var 4))) (.cons (.val (.cmp .gt (.var 6) 
  (.ix (.var 3) (.var 5)))) .nil))) [.ret [] (.cst .none)] []], .ret [] (.bi .max (.cons (.bin .sub (.ix (.ix (.var 1) (.cst (.int 1))) (.var 4)) (.ix (.var 3) (.var 4))) (.cons 
  (.cst (.int 0)) .nil)))]
def g_crew_for : List D → R TD := evDef G_layers 10000 7 2 b_crew_for
theorem h_crew_for : chkSs N_crew_for bs cs (defScope s_crew_for) b_crew_for (defBody s_crew_for) = true := by decide +kernel
theorem c_crew_for : FnScope N_crew_for p_crew_for (defScope s_crew_for) := ⟨rfl, rfl, rfl, by decide +kernel, rfl, by decide +kernel, by decide +kernel⟩
def G_crew_for : Gam := G_layers.add "crew_for" g_crew_for
/-! ### least_crew -/
abbrev s_least_crew : Stmt := at_ 24
def N_least_crew : List Str := ["machine", "chosen", "least", "element", "crew"]
def p_least_crew : List Str := ["machine", "chosen"]
def b_least_crew : List Sx := [.asg [] 2 (.cst .none), .lop [1] (.nm 3) (.lst (.var 1)) [.asg [0, 3] 4 (.call "crew_for" (.cons (.var 0) (.cons (.var 3) .nil))), .ifs (.and (.cons 
  (.val (.cmp .isn (.var 4) (.cst .none))) (.cons (.or (.cons (.val (.cmp .is (.var 2) (.cst .none))) (.cons (.val (.cmp .lt (.var 4) (.var 2))) .nil))) .nil))) [.asg [4] 2 (.var 
  4)] []], .rtv 2]
def g_least_crew : List D → R TD := evDef G_crew_for 10000 5 2 b_least_crew
theorem h_least_crew : chkSs N_least_crew bs cs (defScope s_least_crew) b_least_crew (defBody s_least_crew) = true := by decide +kernel
theorem c_least_crew : FnScope N_least_crew p_least_crew (defScope s_least_crew) := ⟨rfl, rfl, rfl, by decide +kernel, rfl, by decide +kernel, by decide +kernel⟩
@[simp] theorem lk_least_crew_crew_for : G_crew_for "crew_for" = some g_crew_for := rfl
def G_least_crew : Gam := G_crew_for.add "least_crew" g_least_crew
/-! ### start_with -/
abbrev s_start_with : Stmt := at_ 26
def N_start_with : List Str := ["machine", "crew", "state", "counts"]
def p_start_with : List Str := ["machine", "crew"]
def b_start_with : List Sx := [.ifs (.val (.cmp .lt (.var 1) (.cst (.int 0)))) [.rai "OutOfRange"] [], .asgT [] [2, 3] (.ix (.var 0) (.cst (.int 2))), .asg [] 3 (.bi .list (.cons 
  (.var 3) .nil)), .augX 3 .add (.ix (.var 0) (.cst (.int 3))) (.var 1), .ret [2, 3] (.tup (.cons (.var 2) (.cons (.var 3) .nil)))]
def g_start_with : List D → R TD := evDef G_least_crew 10000 4 2 b_start_with
theorem h_start_with : chkSs N_start_with bs cs (defScope s_start_with) b_start_with (defBody s_start_with) = true := by decide +kernel
theorem c_start_with : FnScope N_start_with p_start_with (defScope s_start_with) := ⟨rfl, rfl, rfl, by decide +kernel, rfl, by decide +kernel, by decide +kernel⟩
def G_start_with : Gam := G_least_crew.add "start_with" g_start_with
/-! ### rank_of -/
abbrev s_rank_of : Stmt := at_ 33
def N_rank_of : List Str := ["situation", "found", "rank", "layer"]
def p_rank_of : List Str := ["situation", "found"]
def b_rank_of : List Sx := [.lop [1] (.tp [2, 3]) (.enu (.var 1)) [.ifs (.tru (.call "is_above" (.cons (.var 0) (.cons (.var 3) .nil)))) [.rtv 2] []], .rai "NotPossible"]
def g_rank_of : List D → R TD := evDef G_start_with 10000 4 2 b_rank_of
theorem h_rank_of : chkSs N_rank_of bs cs (defScope s_rank_of) b_rank_of (defBody s_rank_of) = true := by decide +kernel
theorem c_rank_of : FnScope N_rank_of p_rank_of (defScope s_rank_of) := ⟨rfl, rfl, rfl, by decide +kernel, rfl, by decide +kernel, by decide +kernel⟩
@[simp] theorem lk_rank_of_is_above : G_start_with "is_above" = some g_is_above := rfl
def G_rank_of : Gam := G_start_with.add "rank_of" g_rank_of
/-! ### check_move_runs -/
abbrev s_check_move_runs : Stmt := at_ 27
def N_check_move_runs : List Str := ["machine", "move"]
def p_check_move_runs : List Str := ["machine", "move"]
def b_check_move_runs : List Sx := [.ifs (.not (.val (.chn .le .lt (.cst (.int 0)) (.var 1) (.bi .len (.cons (.ix (.var 0) (.cst (.int 4))) .nil))))) [.rai "OutOfRange"] []]
def g_check_move_runs : List D → R TD := evDef G_rank_of 10000 2 2 b_check_move_runs
theorem h_check_move_runs : chkSs N_check_move_runs bs cs (defScope s_check_move_runs) b_check_move_runs (defBody s_check_move_runs) = true := by decide +kernel
theorem c_check_move_runs : FnScope N_check_move_runs p_check_move_runs (defScope s_check_move_runs) := ⟨rfl, rfl, rfl, by decide +kernel, rfl, by decide +kernel, by decide +kernel⟩
def G_check_move_runs : Gam := G_rank_of.add "check_move_runs" g_check_move_runs
/-! ### is_possible -/
abbrev s_is_possible : Stmt := at_ 29
def N_is_possible : List Str := ["machine", "situation", "move", "state", "counts"]
def p_is_possible : List Str := ["machine", "situation", "move"]
def b_is_possible : List Sx := [.exp (.call "check_move_runs" (.cons (.var 0) (.cons (.var 2) .nil))), .asgT [1] [3, 4] (.var 1), .ret [] (.lan (.cons (.cmp .eq (.ix (.ix (.ix 
  (.var 0) (.cst (.int 4))) (.var 2)) (.cst (.int 0))) (.var 3)) (.cons (.cmp .gt (.ix (.var 4) (.ix (.ix (.ix (.var 0) (.cst (.int 4))) (.var 2)) (.cst (.int 1)))) (.cst (.int 
  0))) .nil)))]
def g_is_possible : List D → R TD := evDef G_check_move_runs 10000 5 3 b_is_possible
theorem h_is_possible : chkSs N_is_possible bs cs (defScope s_is_possible) b_is_possible (defBody s_is_possible) = true := by decide +kernel
theorem c_is_possible : FnScope N_is_possible p_is_possible (defScope s_is_possible) := ⟨rfl, rfl, rfl, by decide +kernel, rfl, by decide +kernel, by decide +kernel⟩
@[simp] theorem lk_is_possible_check_move_runs : G_check_move_runs "check_move_runs" = some g_check_move_runs := rfl
def G_is_possible : Gam := G_check_move_runs.add "is_possible" g_is_possible
/-! ### after -/
abbrev s_after : Stmt := at_ 30
def N_after : List Str := ["machine", "situation", "move", "_", "place", "next_state", "next_place", "started", "shifts", "counts", "source", "target"]
def p_after : List Str := ["machine", "situation", "move"]
def b_after : List Sx := [.ifs (.not (.tru (.call "is_possible" (.cons (.var 0) (.cons (.var 1) (.cons (.var 2) .nil)))))) [.rai "NotPossible"] [], .asgT [] [3, 4, 5, 6, 7, 8] (.ix 
  (.ix (.var 0) (.cst (.int 4))) (.var 2)), .asg [] 9 (.bi .list (.cons (.ix (.var 1) (.cst (.int 1))) .nil)), .augX 9 .sub (.var 4) (.cst (.int 1)), .lop [8] (.tp [10, 11]) (.lst 
  (.var 8)) [.augX 9 .add (.var 11) (.ix (.var 9) (.var 10)), .setX [] 9 (.var 10) (.cst (.int 0))], .augX 9 .add (.var 6) (.cst (.int 1)), .ifs (.val (.cmp .isn (.var 7) (.cst 
  .none))) [.augX 9 .add (.var 7) (.cst (.int 1))] [], .ret [5, 9] (.tup (.cons (.var 5) (.cons (.var 9) .nil)))]
def g_after : List D → R TD := evDef G_is_possible 10000 12 3 b_after
theorem h_after : chkSs N_after bs cs (defScope s_after) b_after (defBody s_after) = true := by decide +kernel
theorem c_after : FnScope N_after p_after (defScope s_after) := ⟨rfl, rfl, rfl, by decide +kernel, rfl, by decide +kernel, by decide +kernel⟩
@[simp] theorem lk_after_is_possible : G_is_possible "is_possible" = some g_is_possible := rfl
def G_after : Gam := G_is_possible.add "after" g_after
/-! ### possible_moves -/
abbrev s_possible_moves : Stmt := at_ 31
def N_possible_moves : List Str := ["machine", "situation", "move"]
def p_possible_moves : List Str := ["machine", "situation"]
def b_possible_moves : List Sx := [.ret [] (.cpr [("move", 2)] (.nm 2) (.rg1 (.bi .len (.cons (.ix (.var 0) (.cst (.int 4))) .nil))) (.cons (.tru (.call "is_possible" (.cons (.var 
  0) (.cons (.var 1) (.cons (.var 2) .nil))))) .nil) (.var 2))]
def g_possible_moves : List D → R TD := evDef G_after 10000 3 2 b_possible_moves
theorem h_possible_moves : chkSs N_possible_moves bs cs (defScope s_possible_moves) b_possible_moves (defBody s_possible_moves) = true := by decide +kernel
theorem c_possible_moves : FnScope N_possible_moves p_possible_moves (defScope s_possible_moves) := ⟨rfl, rfl, rfl, by decide +kernel, rfl, by decide +kernel, by decide +kernel⟩
@[simp] theorem lk_possible_moves_is_possible : G_after "is_possible" = some g_is_possible := rfl
def G_possible_moves : Gam := G_after.add "possible_moves" g_possible_moves
/-! ### next_step -/
abbrev s_next_step : Stmt := at_ 34
def N_next_step : List Str := ["machine", "situation", "layer", "move", "reached"]
def p_next_step : List Str := ["machine", "situation", "layer"]
def b_next_step : List Sx := [.lop [0, 1] (.nm 3) (.lst (.call "possible_moves" (.cons (.var 0) (.cons (.var 1) .nil)))) [.asg [0, 1, 3] 4 (.call "after" (.cons (.var 0) (.cons 
  (.var 1) (.cons (.var 3) .nil)))), .ifs (.tru (.call "is_above" (.cons (.var 4) (.cons (.var 2) .nil)))) [.ret [3, 4] (.tup (.cons (.var 3) (.cons (.var 4) .nil)))] []], .rai 
  "NotPossible"]
def g_next_step : List D → R TD := evDef G_possible_moves 10000 5 3 b_next_step
theorem h_next_step : chkSs N_next_step bs cs (defScope s_next_step) b_next_step (defBody s_next_step) = true := by decide +kernel
theorem c_next_step : FnScope N_next_step p_next_step (defScope s_next_step) := ⟨rfl, rfl, rfl, by decide +kernel, rfl, by decide +kernel, by decide +kernel⟩
@[simp] theorem lk_next_step_after : G_possible_moves "after" = some g_after := rfl
@[simp] theorem lk_next_step_is_above : G_possible_moves "is_above" = some g_is_above := rfl
@[simp] theorem lk_next_step_possible_moves : G_possible_moves "possible_moves" = some g_possible_moves := rfl
def G_next_step : Gam := G_possible_moves.add "next_step" g_next_step
/-! ### shortest_run -/
abbrev s_shortest_run : Stmt := at_ 35
def N_shortest_run : List Str := ["machine", "found", "situation", "run", "rank", "move"]
def p_shortest_run : List Str := ["machine", "found", "situation"]
def b_shortest_run : List Sx := [.asg [] 3 (.lst .nil), .lop [] (.nm 4) (.rgd (.call "rank_of" (.cons (.var 2) (.cons (.var 1) .nil))) (.cst (.int 0))) [.asgT [0, 2] [5, 2] (.call 
  "next_step" (.cons (.var 0) (.cons (.var 2) (.cons (.ix (.var 1) (.bin .sub (.var 4) (.cst (.int 1)))) .nil)))), .app [5] 3 (.var 5)], .rtv 3]
def g_shortest_run : List D → R TD := evDef G_next_step 10000 6 3 b_shortest_run
theorem h_shortest_run : chkSs N_shortest_run bs cs (defScope s_shortest_run) b_shortest_run (defBody s_shortest_run) = true := by decide +kernel
theorem c_shortest_run : FnScope N_shortest_run p_shortest_run (defScope s_shortest_run) := ⟨rfl, rfl, rfl, by decide +kernel, rfl, by decide +kernel, by decide +kernel⟩
@[simp] theorem lk_shortest_run_next_step : G_next_step "next_step" = some g_next_step := rfl
@[simp] theorem lk_shortest_run_rank_of : G_next_step "rank_of" = some g_rank_of := rfl
def G_shortest_run : Gam := G_next_step.add "shortest_run" g_shortest_run
/-! ### decide -/
abbrev s_decide : Stmt := at_ 36
def N_decide : List Str := ["machine", "bad", "fuel", "found", "basis", "crew", "run"]
def p_decide : List Str := ["machine", "bad", "fuel"]
def x_decide : DecX := ⟨(.callK "layers" "fuel" (.cons (.var 0) (.cons (.var 1) .nil)) (.var 2)), (.val (.cmp .is (.var 3) (.cst .none))), "unknown", (.neg (.cst (.int 1))), (.call "least_crew" (.cons (.var 0) (.cons (.var 4) .nil))), (.val (.cmp .is (.var 5) (.cst .none))), "never", (.call "shortest_run" (.cons (.var 0) (.cons (.var 3) (.cons (.call "start_with" (.cons (.var 0) (.cons (.var 5) .nil))) .nil)))), "possible"⟩
def g_decide : List D → R TD := evDec G_shortest_run 7 3 x_decide
theorem h_decide : DLook N_decide bs cs (defScope s_decide) (defBody s_decide) x_decide := ⟨⟨_, _, _, _, _, _, _, _, _, _, _, _, _, _, _, _, _, _, _, _, _, _, _, _, _, _, _, _, _, _, _, _, _, _, _, _, _, rfl, by decide +kernel, by decide +kernel, by decide +kernel, by decide +kernel, by decide +kernel, by decide +kernel, by decide +kernel⟩⟩
theorem c_decide : FnScope N_decide p_decide (defScope s_decide) := ⟨rfl, rfl, rfl, by decide +kernel, rfl, by decide +kernel, by decide +kernel⟩
@[simp] theorem lk_decide_layers : G_shortest_run (kwn "layers" "fuel") = some g_layers := by first | rfl | decide +kernel
@[simp] theorem lk_decide_least_crew : G_shortest_run "least_crew" = some g_least_crew := rfl
@[simp] theorem lk_decide_shortest_run : G_shortest_run "shortest_run" = some g_shortest_run := rfl
@[simp] theorem lk_decide_start_with : G_shortest_run "start_with" = some g_start_with := rfl
def G_decide : Gam := (G_shortest_run.add (kwn "decide" "fuel") g_decide).add (dfn "decide") fun ds => g_decide (ds ++ [.int 100])
/-! ### _law_cell -/
abbrev s__law_cell : Stmt := at_ 38
def N__law_cell : List Str := ["_law_script", "_law_k"]
def p__law_cell : List Str := ["_law_script", "_law_k"]
def b__law_cell : List Sx := [.ifs (.val (.cmp .lt (.var 1) (.bi .len (.cons (.var 0) .nil)))) [.ret [] (.bi .abs (.cons (.bi .int (.cons (.ix (.var 0) (.var 1)) .nil)) .nil))] [], 
  .ret [] (.cst (.int 0))]
def g__law_cell : List D → R TD := evDef G_decide 10000 2 2 b__law_cell
theorem h__law_cell : chkSs N__law_cell bs cs (defScope s__law_cell) b__law_cell (defBody s__law_cell) = true := by decide +kernel
theorem c__law_cell : FnScope N__law_cell p__law_cell (defScope s__law_cell) := ⟨rfl, rfl, rfl, by decide +kernel, rfl, by decide +kernel, by decide +kernel⟩
def G__law_cell : Gam := G_decide.add "_law_cell" g__law_cell
/-! ### _law_digits -/
abbrev s__law_digits : Stmt := at_ 39
def N__law_digits : List Str := ["_law_cell_here", "_law_base", "_law_most", "_law_digits_here", "_law_large", "_law_k"]
def p__law_digits : List Str := ["_law_cell_here", "_law_base", "_law_most"]
def b__law_digits : List Sx := [.asg [] 3 (.lst .nil), .asg [] 4 (.cmp .ge (.var 0) (.bin .pow (.cst (.int 10)) (.cst (.int 18)))), .lop [] (.nm 5) (.rg1 (.var 2)) [.ifs (.tru 
  (.var 4)) [.app [] 3 (.bin .mod (.bi .int (.cons (.var 0) .nil)) (.var 1)), .asg [] 0 (.bin .fdv (.var 0) (.var 1))] [.app [] 3 (.bin .mod (.bin .mod (.bi .int (.cons (.bin .add 
  (.bin .add (.bin .mul (.var 0) (.cst (.int 48271))) (.bin .mul (.bin .mul (.bin .add (.var 5) (.cst (.int 1))) (.bin .add (.var 5) (.cst (.int 5)))) (.cst (.int 69621)))) (.bin 
  .mul (.bin .fdv (.var 0) (.cst (.int 97))) (.var 5))) .nil)) (.cst (.int 2147483647))) (.var 1))]], .rtv 3]
def g__law_digits : List D → R TD := evDef G__law_cell 10000 6 3 b__law_digits
theorem h__law_digits : chkSs N__law_digits bs cs (defScope s__law_digits) b__law_digits (defBody s__law_digits) = true := by decide +kernel
theorem c__law_digits : FnScope N__law_digits p__law_digits (defScope s__law_digits) := ⟨rfl, rfl, rfl, by decide +kernel, rfl, by decide +kernel, by decide +kernel⟩
def G__law_digits : Gam := G__law_cell.add "_law_digits" g__law_digits
/-! ### _law_shifts -/
abbrev s__law_shifts : Stmt := at_ 40
def N__law_shifts : List Str := ["_law_draw", "_law_places", "_law_seconds", "_law_firsts", "_law_place"]
def p__law_shifts : List Str := ["_law_draw", "_law_places"]
def b__law_shifts : List Sx := [.asg [] 2 (.cpr [("_law_place", 4)] (.nm 4) (.rg1 (.var 1)) (.cons (.val (.cmp .eq (.bin .mod (.bin .fdv (.var 0) (.ix (.lst (.cons (.cst (.int 1)) 
  (.cons (.cst (.int 3)) (.cons (.cst (.int 9)) (.cons (.cst (.int 27)) (.cons (.cst (.int 81)) .nil)))))) (.var 4))) (.cst (.int 3))) (.cst (.int 1)))) .nil) (.var 4)), .ifs (.val 
  (.cmp .eq (.bi .len (.cons (.var 2) .nil)) (.cst (.int 0)))) [.ret [] (.lst .nil)] [], .asg [] 3 (.cpr [("_law_place", 4)] (.nm 4) (.rg1 (.var 1)) (.cons (.val (.cmp .eq (.bin 
  .mod (.bin .fdv (.var 0) (.ix (.lst (.cons (.cst (.int 1)) (.cons (.cst (.int 3)) (.cons (.cst (.int 9)) (.cons (.cst (.int 27)) (.cons (.cst (.int 81)) .nil)))))) (.var 4))) 
  (.cst (.int 3))) (.cst (.int 2)))) .nil) (.var 4)), .ret [] (.cpr [("_law_place", 4)] (.nm 4) (.lst (.var 3)) .nil (.tup (.cons (.var 4) (.cons (.ix (.var 2) (.bin .mod (.bin 
  .fdv (.var 0) (.bin .add (.cst (.int 83)) (.bin .mul (.cst (.int 7)) (.var 4)))) (.bi .len (.cons (.var 2) .nil)))) .nil))))]
def g__law_shifts : List D → R TD := evDef G__law_digits 10000 5 2 b__law_shifts
theorem h__law_shifts : chkSs N__law_shifts bs cs (defScope s__law_shifts) b__law_shifts (defBody s__law_shifts) = true := by decide +kernel
theorem c__law_shifts : FnScope N__law_shifts p__law_shifts (defScope s__law_shifts) := ⟨rfl, rfl, rfl, by decide +kernel, rfl, by decide +kernel, by decide +kernel⟩
def G__law_shifts : Gam := G__law_digits.add "_law_shifts" g__law_shifts
/-! ### _law_machine -/
abbrev s__law_machine : Stmt := at_ 41
def N__law_machine : List Str := ["_law_first", "_law_second", "_law_sizes", "_law_states", "_law_places", "_law_draws", "_law_moves", "_law_k", "_law_draw", "_law_other", 
  "_law_started", "_law_shifts_here", "_law_move", "_law_counts"]
def p__law_machine : List Str := ["_law_first", "_law_second"]
def b__law_machine : List Sx := [.asg [0] 2 (.call "_law_digits" (.cons (.var 0) (.cons (.cst (.int 2520)) (.cons (.cst (.int 8)) .nil)))), .asg [] 3 (.bin .add (.cst (.int 1)) 
  (.bin .mod (.ix (.var 2) (.cst (.int 0))) (.cst (.int 3)))), .asg [] 4 (.bin .add (.cst (.int 1)) (.bin .mod (.ix (.var 2) (.cst (.int 1))) (.cst (.int 4)))), .asg [1] 5 (.call 
  "_law_digits" (.cons (.var 1) (.cons (.cst (.int 27720)) (.cons (.cst (.int 30)) .nil)))), .asg [] 6 (.lst .nil), .lop [] (.nm 7) (.rg1 (.bin .add (.cst (.int 1)) (.bin .mod (.ix 
  (.var 2) (.cst (.int 2))) (.cst (.int 8))))) [.asg [] 8 (.ix (.var 5) (.bin .mul (.cst (.int 3)) (.var 7))), .asg [] 9 (.ix (.var 5) (.bin .add (.bin .mul (.cst (.int 3)) (.var 
  7)) (.cst (.int 1)))), .asg [] 10 (.cst .none), .ifs (.val (.cmp .eq (.bin .mod (.var 9) (.cst (.int 7))) (.cst (.int 3)))) [.asg [] 10 (.bin .mod (.bin .fdv (.var 9) (.cst (.int 
  7))) (.var 4))] [], .asg [] 11 (.lst .nil), .ifs (.val (.cmp .eq (.bin .mod (.var 9) (.cst (.int 5))) (.cst (.int 2)))) [.asg [4] 11 (.call "_law_shifts" (.cons (.ix (.var 5) 
  (.bin .add (.bin .mul (.cst (.int 3)) (.var 7)) (.cst (.int 2)))) (.cons (.var 4) .nil)))] [], .asg [10, 11] 12 (.tup (.cons (.bin .mod (.var 8) (.var 3)) (.cons (.bin .mod (.bin 
  .fdv (.var 8) (.cst (.int 3))) (.var 4)) (.cons (.bin .mod (.bin .fdv (.var 8) (.cst (.int 12))) (.var 3)) (.cons (.bin .mod (.bin .fdv (.var 8) (.cst (.int 36))) (.var 4)) 
  (.cons (.var 10) (.cons (.var 11) .nil))))))), .ifs (.val (.cmp .nin (.var 12) (.var 6))) [.app [12] 6 (.var 12)] []], .asg [] 13 (.bin .mul (.lst (.cons (.cst (.int 0)) .nil)) 
  (.var 4)), .setX [] 13 (.bin .mod (.ix (.var 2) (.cst (.int 3))) (.var 4)) (.bin .mod (.bin .fdv (.ix (.var 2) (.cst (.int 3))) (.cst (.int 4))) (.cst (.int 3))), .ret [3, 4, 6, 
  13] (.tup (.cons (.var 3) (.cons (.var 4) (.cons (.tup (.cons (.bin .mod (.ix (.var 2) (.cst (.int 4))) (.var 3)) (.cons (.var 13) .nil))) (.cons (.bin .mod (.ix (.var 2) (.cst 
  (.int 5))) (.var 4)) (.cons (.var 6) .nil))))))]
def g__law_machine : List D → R TD := evDef G__law_shifts 10000 14 2 b__law_machine
theorem h__law_machine : chkSs N__law_machine bs cs (defScope s__law_machine) b__law_machine (defBody s__law_machine) = true := by decide +kernel
theorem c__law_machine : FnScope N__law_machine p__law_machine (defScope s__law_machine) := ⟨rfl, rfl, rfl, by decide +kernel, rfl, by decide +kernel, by decide +kernel⟩
@[simp] theorem lk__law_machine__law_digits : G__law_shifts "_law_digits" = some g__law_digits := rfl
@[simp] theorem lk__law_machine__law_shifts : G__law_shifts "_law_shifts" = some g__law_shifts := rfl
def G__law_machine : Gam := G__law_shifts.add "_law_machine" g__law_machine
/-! ### _law_bad -/
abbrev s__law_bad : Stmt := at_ 42
def N__law_bad : List Str := ["_law_cell_here", "_law_machine_here", "_law_draws", "_law_bad_here", "_law_k", "_law_counts", "_law_draw", "_law_other", "_law_place"]
def p__law_bad : List Str := ["_law_cell_here", "_law_machine_here"]
def b__law_bad : List Sx := [.asg [0] 2 (.call "_law_digits" (.cons (.var 0) (.cons (.cst (.int 2520)) (.cons (.cst (.int 6)) .nil)))), .asg [] 3 (.lst .nil), .lop [] (.nm 4) (.rg1 
  (.bin .add (.cst (.int 1)) (.bin .mod (.ix (.var 2) (.cst (.int 0))) (.cst (.int 2))))) [.asg [] 5 (.bin .mul (.lst (.cons (.cst (.int 0)) .nil)) (.ix (.var 1) (.cst (.int 1)))), 
  .asg [] 6 (.ix (.var 2) (.bin .add (.cst (.int 1)) (.bin .mul (.cst (.int 2)) (.var 4)))), .setX [] 5 (.bin .mod (.var 6) (.ix (.var 1) (.cst (.int 1)))) (.bin .add (.cst (.int 
  1)) (.bin .mod (.bin .fdv (.var 6) (.cst (.int 4))) (.cst (.int 2)))), .asg [] 7 (.ix (.var 2) (.bin .add (.cst (.int 2)) (.bin .mul (.cst (.int 2)) (.var 4)))), .ifs (.val (.cmp 
  .eq (.bin .mod (.var 7) (.cst (.int 2))) (.cst (.int 1)))) [.asg [] 8 (.bin .mod (.bin .fdv (.var 7) (.cst (.int 2))) (.ix (.var 1) (.cst (.int 1)))), .setX [] 5 (.var 8) (.bi 
  .max (.cons (.ix (.var 5) (.var 8)) (.cons (.cst (.int 1)) .nil)))] [], .app [5] 3 (.tup (.cons (.bin .mod (.bin .fdv (.var 7) (.cst (.int 8))) (.ix (.var 1) (.cst (.int 0)))) 
  (.cons (.var 5) .nil)))], .rtv 3]
def g__law_bad : List D → R TD := evDef G__law_machine 10000 9 2 b__law_bad
theorem h__law_bad : chkSs N__law_bad bs cs (defScope s__law_bad) b__law_bad (defBody s__law_bad) = true := by decide +kernel
theorem c__law_bad : FnScope N__law_bad p__law_bad (defScope s__law_bad) := ⟨rfl, rfl, rfl, by decide +kernel, rfl, by decide +kernel, by decide +kernel⟩
@[simp] theorem lk__law_bad__law_digits : G__law_machine "_law_digits" = some g__law_digits := rfl
def G__law_bad : Gam := G__law_machine.add "_law_bad" g__law_bad
/-! ### _law_start -/
abbrev s__law_start : Stmt := at_ 43
def N__law_start : List Str := ["_law_machine_here", "_law_crew", "_law_counts"]
def p__law_start : List Str := ["_law_machine_here", "_law_crew"]
def b__law_start : List Sx := [.asg [] 2 (.bi .list (.cons (.ix (.ix (.var 0) (.cst (.int 2))) (.cst (.int 1))) .nil)), .setX [] 2 (.ix (.var 0) (.cst (.int 3))) (.bin .add (.ix 
  (.var 2) (.ix (.var 0) (.cst (.int 3)))) (.var 1)), .ret [2] (.tup (.cons (.ix (.ix (.var 0) (.cst (.int 2))) (.cst (.int 0))) (.cons (.var 2) .nil)))]
def g__law_start : List D → R TD := evDef G__law_bad 10000 3 2 b__law_start
theorem h__law_start : chkSs N__law_start bs cs (defScope s__law_start) b__law_start (defBody s__law_start) = true := by decide +kernel
theorem c__law_start : FnScope N__law_start p__law_start (defScope s__law_start) := ⟨rfl, rfl, rfl, by decide +kernel, rfl, by decide +kernel, by decide +kernel⟩
def G__law_start : Gam := G__law_bad.add "_law_start" g__law_start
/-! ### _law_due -/
abbrev s__law_due : Stmt := at_ 44
def N__law_due : List Str := ["_law_machine_here", "_law_bad_here", "_law_fuel", "_law_found", "_law_basis", "_law_crew"]
def p__law_due : List Str := ["_law_machine_here", "_law_bad_here", "_law_fuel"]
def b__law_due : List Sx := [.asg [0, 1, 2] 3 (.frz (.callK "layers" "fuel" (.cons (.var 0) (.cons (.var 1) .nil)) (.var 2))), .ifs (.val (.cmp .is (.var 3) (.cst .none))) [.ret [] 
  (.tup (.cons (.cst (.str "unknown")) .nil))] [], .asg [] 4 (.ix (.var 3) (.bin .sub (.bi .len (.cons (.var 3) .nil)) (.cst (.int 1)))), .asg [0, 4] 5 (.call "least_crew" (.cons 
  (.var 0) (.cons (.var 4) .nil))), .ifs (.val (.cmp .is (.var 5) (.cst .none))) [.ret [4] (.tup (.cons (.cst (.str "never")) (.cons (.var 4) .nil)))] [], .ret [0, 3, 4, 5] (.tup 
  (.cons (.cst (.str "possible")) (.cons (.var 5) (.cons (.call "shortest_run" (.cons (.var 0) (.cons (.var 3) (.cons (.call "_law_start" (.cons (.var 0) (.cons (.var 5) .nil))) 
  .nil)))) (.cons (.var 4) .nil)))))]
def g__law_due : List D → R TD := evDef G__law_start 10000 6 3 b__law_due
theorem h__law_due : chkSs N__law_due bs cs (defScope s__law_due) b__law_due (defBody s__law_due) = true := by decide +kernel
theorem c__law_due : FnScope N__law_due p__law_due (defScope s__law_due) := ⟨rfl, rfl, rfl, by decide +kernel, rfl, by decide +kernel, by decide +kernel⟩
@[simp] theorem lk__law_due__law_start : G__law_start "_law_start" = some g__law_start := rfl
@[simp] theorem lk__law_due_layers : G__law_start (kwn "layers" "fuel") = some g_layers := by first | rfl | decide +kernel
@[simp] theorem lk__law_due_least_crew : G__law_start "least_crew" = some g_least_crew := rfl
@[simp] theorem lk__law_due_shortest_run : G__law_start "shortest_run" = some g_shortest_run := rfl
def G__law_due : Gam := G__law_start.add "_law_due" g__law_due
/-! ### _law_refused -/
abbrev s__law_refused : Stmt := at_ 45
def N__law_refused : List Str := ["_law_machine_here", "_law_bad_here", "_law_fuel"]
def p__law_refused : List Str := ["_law_machine_here", "_law_bad_here", "_law_fuel"]
def b__law_refused : List Sx := [.tryK "OutOfRange" ks true (.exp (.callK "decide" "fuel" (.cons (.var 0) (.cons (.var 1) .nil)) (.var 2))), .ret [] (.cst (.bool false))]
def g__law_refused : List D → R TD := evDef G__law_due 10000 3 3 b__law_refused
theorem h__law_refused : chkSs N__law_refused bs cs (defScope s__law_refused) b__law_refused (defBody s__law_refused) = true := by decide +kernel
theorem c__law_refused : FnScope N__law_refused p__law_refused (defScope s__law_refused) := ⟨rfl, rfl, rfl, by decide +kernel, rfl, by decide +kernel, by decide +kernel⟩
@[simp] theorem lkD__law_refused_decide : G__law_due (dfn "decide") = some (fun ds => g_decide (ds ++ [.int 100])) := by first | rfl | decide +kernel
@[simp] theorem lk__law_refused_decide : G__law_due (kwn "decide" "fuel") = some g_decide := by first | rfl | decide +kernel
def G__law_refused : Gam := G__law_due.add "_law_refused" g__law_refused
/-! ### law -/
abbrev s_law : Stmt := at_ 46
def N_law : List Str := ["_law_script", "_law_machine_here", "_law_bad_here", "_law_first", "_law_fuel", "_law_kept", "_law_answer", "_law_due_here", "_law_basis", "_law_again", 
  "_law_row"]
def p_law : List Str := ["_law_script"]
def b_law : List Sx := [.asg [] 1 (.call "_law_machine" (.cons (.call "_law_cell" (.cons (.var 0) (.cons (.cst (.int 0)) .nil))) (.cons (.call "_law_cell" (.cons (.var 0) (.cons 
  (.cst (.int 1)) .nil))) .nil))), .asg [1] 2 (.call "_law_bad" (.cons (.call "_law_cell" (.cons (.var 0) (.cons (.cst (.int 2)) .nil))) (.cons (.var 1) .nil))), .asg [] 3 (.call 
  "_law_digits" (.cons (.call "_law_cell" (.cons (.var 0) (.cons (.cst (.int 3)) .nil))) (.cons (.cst (.int 2520)) (.cons (.cst (.int 2)) .nil)))), .ifs (.val (.cmp .eq (.bin .mod 
  (.ix (.var 3) (.cst (.int 1))) (.cst (.int 9))) (.cst (.int 0)))) [.asg [] 2 (.lst .nil)] [], .asg [] 4 (.bin .mod (.ix (.var 3) (.cst (.int 0))) (.cst (.int 7))), .asg [] 5 (.bi 
  .repr (.cons (.lst (.cons (.var 1) (.cons (.var 2) .nil))) .nil)), .asg [1, 2, 4] 6 (.callK "decide" "fuel" (.cons (.var 1) (.cons (.var 2) .nil)) (.var 4)), .asg [1, 2, 4] 7 
  (.call "_law_due" (.cons (.var 1) (.cons (.var 2) (.cons (.var 4) .nil)))), .ifs (.or (.cons (.not (.tru (.isi (.var 6) .tuple))) (.cons (.val (.cmp .ne (.var 6) (.var 7))) 
  (.cons (.val (.cmp .ne (.bi .repr (.cons (.lst (.cons (.var 1) (.cons (.var 2) .nil))) .nil)) (.var 5))) .nil)))) [.ret [] (.cst (.bool false))] [], .ifs (.val (.cmp .ne (.var 7) 
  (.tup (.cons (.cst (.str "unknown")) .nil)))) [.ifs (.val (.cmp .ne (.callD "decide" (.cons (.var 1) (.cons (.var 2) .nil))) (.var 7))) [.ret [] (.cst (.bool false))] [], .movX 8 
  6 (.bin .sub (.bi .len (.cons (.var 6) .nil)) (.cst (.int 1))), .asg [1, 2, 4] 9 (.frz (.callK "decide" "fuel" (.cons (.var 1) (.cons (.var 2) .nil)) (.var 4))), .ifs (.val (.cmp 
  .gt (.bi .len (.cons (.var 8) .nil)) (.cst (.int 0)))) [.lopA 8 10 1 (.int 5), .ifs (.val (.cmp .gt (.tmp 8 (.bi .len (.cons (.cpr [("_law_row", 10)] (.nm 10) (.lst (.var 8)) 
  (.cons (.val (.cmp .ne (.bi .len (.cons (.ix (.var 10) (.cst (.int 1))) .nil)) (.bin .add (.ix (.var 1) (.cst (.int 1))) (.cst (.int 1))))) .nil) (.var 10)) .nil))) (.cst (.int 
  0)))) [.ret [] (.cst (.bool false))] [], .appO [] 8 (.prT (.cons (.cst (.int 0)) (.cons (.lst .nil) .nil))), .ifs (.or (.cons (.val (.cmp .ne (.var 9) (.var 7))) (.cons (.val 
  (.cmp .ne (.callK "decide" "fuel" (.cons (.var 1) (.cons (.var 2) .nil)) (.var 4)) (.var 7))) .nil))) [.ret [] (.cst (.bool false))] []] []] [], .ret [] (.lan (.cons (.call 
  "_law_refused" (.cons (.var 1) (.cons (.var 2) (.cons (.bin .sub (.neg (.cst (.int 1))) (.bin .mod (.ix (.var 3) (.cst (.int 1))) (.cst (.int 9)))) .nil)))) (.cons (.cmp .eq (.bi 
  .repr (.cons (.lst (.cons (.var 1) (.cons (.var 2) .nil))) .nil)) (.var 5)) .nil)))]
def g_law : List D → R TD := evDef G__law_refused 10000 11 1 b_law
theorem h_law : chkSs N_law bs cs (defScope s_law) b_law (defBody s_law) = true := by decide +kernel
theorem c_law : FnScope N_law p_law (defScope s_law) := ⟨rfl, rfl, rfl, by decide +kernel, rfl, by decide +kernel, by decide +kernel⟩
@[simp] theorem lk_law__law_bad : G__law_refused "_law_bad" = some g__law_bad := rfl
@[simp] theorem lk_law__law_cell : G__law_refused "_law_cell" = some g__law_cell := rfl
@[simp] theorem lk_law__law_digits : G__law_refused "_law_digits" = some g__law_digits := rfl
@[simp] theorem lk_law__law_due : G__law_refused "_law_due" = some g__law_due := rfl
@[simp] theorem lk_law__law_machine : G__law_refused "_law_machine" = some g__law_machine := rfl
@[simp] theorem lk_law__law_refused : G__law_refused "_law_refused" = some g__law_refused := rfl
@[simp] theorem lkD_law_decide : G__law_refused (dfn "decide") = some (fun ds => g_decide (ds ++ [.int 100])) := by first | rfl | decide +kernel
@[simp] theorem lk_law_decide : G__law_refused (kwn "decide" "fuel") = some g_decide := by first | rfl | decide +kernel
def G_law : Gam := G__law_refused.add "law" g_law
def crf (C0 C1 : Addr) : Str → Value := fun x : Str => (if x = "NotPossible" then .ref C0 else if x = "OutOfRange" then .ref C1 else .none : Value)
/-! ### the defs stand where the text says -/
theorem all_mk {l : PySem.W.OpenLaw} {w : World} {K : PySem.W.Frag} {h : Heap} {mg : Str → Option Value} {fa f1 f2 f3 f4 f5 f6 f7 f8 f9 f10 f11 f12 f13 f14 f15 f16 f17 f18 f19 f20 f21 f22 f23 f24 f25 f26 f27 f28 f29 f30 f31 f32 f33 f34 : Addr} (X : K.In h) (Gl : h.Ns mainGlobals mg) (hfa : mg "law" = some (.ref fa))
    {od1 an1 od2 an2 od3 an3 od4 an4 od5 an5 od6 an6 od7 an7 od8 an8 od9 an9 od10 an10 od11 an11 od12 an12 od13 an13 od14 an14 od15 an15 od16 an16 od17 an17 od18 an18 od19 an19 od20 an20 od21 an21 od22 an22 od23 an23 od24 an24 od25 an25 od26 an26 od27 an27 od28 an28 od29 an29 od30 an30 od31 an31 od32 an32 od33 an33 od34 an34 : Option Addr} {sl1 sl2 sl3 sl4 sl5 sl6 sl7 sl8 sl9 sl10 sl11 sl12 sl13 sl14 sl15 sl16 sl17 sl18 sl19 sl20 sl21 sl22 sl23 sl24 sl25 sl26 sl27 sl28 sl29 sl30 sl31 sl32 sl33 sl34 : Array (Option Value)} {oc1 kV1 dc1 pm1 cd1 ct1 oc2 kV2 dc2 pm2 cd2 ct2 oc3 kV3 dc3 pm3 cd3 ct3 oc4 kV4 dc4 pm4 cd4 ct4 oc5 kV5 dc5 pm5 cd5 ct5 oc6 kV6 dc6 pm6 cd6 ct6 oc7 kV7 dc7 pm7 cd7 ct7 oc8 kV8 dc8 pm8 cd8 ct8 oc9 kV9 dc9 pm9 cd9 ct9 oc10 kV10 dc10 pm10 cd10 ct10 oc11 kV11 dc11 pm11 cd11 ct11 oc12 kV12 dc12 pm12 cd12 ct12 oc13 kV13 dc13 pm13 cd13 ct13 oc14 kV14 dc14 pm14 cd14 ct14 oc15 kV15 dc15 pm15 cd15 ct15 oc16 kV16 dc16 pm16 cd16 ct16 oc17 kV17 dc17 pm17 cd17 ct17 oc18 kV18 dc18 pm18 cd18 ct18 oc19 kV19 dc19 pm19 cd19 ct19 oc20 kV20 dc20 pm20 cd20 ct20 oc21 kV21 dc21 pm21 cd21 ct21 oc22 kV22 dc22 pm22 cd22 ct22 oc23 kV23 dc23 pm23 cd23 ct23 oc24 kV24 dc24 pm24 cd24 ct24 oc25 dc25 pm25 cd25 ct25 oc26 kV26 dc26 pm26 cd26 ct26 oc27 kV27 dc27 pm27 cd27 ct27 oc28 kV28 dc28 pm28 cd28 ct28 oc29 kV29 dc29 pm29 cd29 ct29 oc30 kV30 dc30 pm30 cd30 ct30 oc31 kV31 dc31 pm31 cd31 ct31 oc32 kV32 dc32 pm32 cd32 ct32 oc33 kV33 dc33 pm33 cd33 ct33 oc34 kV34 dc34 pm34 cd34 ct34 : Value} {ke25 : Value} {kd25 : Addr}
    (a1 : PySem.W.nsIn K mainGlobals "covers" = some (some (.ref f1))) (l1 : K.lookup f1 = some ⟨oc1, od1, .func (PySem.W.fnOf "covers" "covers" (defArgs s_covers) (defBody s_covers) (defScope s_covers) .none kV1 dc1 pm1 an1 cd1 ct1), sl1⟩) (c1 : PySem.W.codeIn K cd1 "covers" = true) (k1 : PySem.W.keepIn K (.ref f1) = true)
    (a2 : PySem.W.nsIn K mainGlobals "is_above" = some (some (.ref f2))) (l2 : K.lookup f2 = some ⟨oc2, od2, .func (PySem.W.fnOf "is_above" "is_above" (defArgs s_is_above) (defBody s_is_above) (defScope s_is_above) .none kV2 dc2 pm2 an2 cd2 ct2), sl2⟩) (c2 : PySem.W.codeIn K cd2 "is_above" = true) (k2 : PySem.W.keepIn K (.ref f2) = true)
    (a3 : PySem.W.nsIn K mainGlobals "place_in_order" = some (some (.ref f3))) (l3 : K.lookup f3 = some ⟨oc3, od3, .func (PySem.W.fnOf "place_in_order" "place_in_order" (defArgs s_place_in_order) (defBody s_place_in_order) (defScope s_place_in_order) .none kV3 dc3 pm3 an3 cd3 ct3), sl3⟩) (c3 : PySem.W.codeIn K cd3 "place_in_order" = true) (k3 : PySem.W.keepIn K (.ref f3) = true)
    (a4 : PySem.W.nsIn K mainGlobals "weight" = some (some (.ref f4))) (l4 : K.lookup f4 = some ⟨oc4, od4, .func (PySem.W.fnOf "weight" "weight" (defArgs s_weight) (defBody s_weight) (defScope s_weight) .none kV4 dc4 pm4 an4 cd4 ct4), sl4⟩) (c4 : PySem.W.codeIn K cd4 "weight" = true) (k4 : PySem.W.keepIn K (.ref f4) = true)
    (a5 : PySem.W.nsIn K mainGlobals "least_ones" = some (some (.ref f5))) (l5 : K.lookup f5 = some ⟨oc5, od5, .func (PySem.W.fnOf "least_ones" "least_ones" (defArgs s_least_ones) (defBody s_least_ones) (defScope s_least_ones) .none kV5 dc5 pm5 an5 cd5 ct5), sl5⟩) (c5 : PySem.W.codeIn K cd5 "least_ones" = true) (k5 : PySem.W.keepIn K (.ref f5) = true)
    (a6 : PySem.W.nsIn K mainGlobals "needed_before" = some (some (.ref f6))) (l6 : K.lookup f6 = some ⟨oc6, od6, .func (PySem.W.fnOf "needed_before" "needed_before" (defArgs s_needed_before) (defBody s_needed_before) (defScope s_needed_before) .none kV6 dc6 pm6 an6 cd6 ct6), sl6⟩) (c6 : PySem.W.codeIn K cd6 "needed_before" = true) (k6 : PySem.W.keepIn K (.ref f6) = true)
    (a7 : PySem.W.nsIn K mainGlobals "sources_of" = some (some (.ref f7))) (l7 : K.lookup f7 = some ⟨oc7, od7, .func (PySem.W.fnOf "sources_of" "sources_of" (defArgs s_sources_of) (defBody s_sources_of) (defScope s_sources_of) .none kV7 dc7 pm7 an7 cd7 ct7), sl7⟩) (c7 : PySem.W.codeIn K cd7 "sources_of" = true) (k7 : PySem.W.keepIn K (.ref f7) = true)
    (a8 : PySem.W.nsIn K mainGlobals "divisions" = some (some (.ref f8))) (l8 : K.lookup f8 = some ⟨oc8, od8, .func (PySem.W.fnOf "divisions" "divisions" (defArgs s_divisions) (defBody s_divisions) (defScope s_divisions) .none kV8 dc8 pm8 an8 cd8 ct8), sl8⟩) (c8 : PySem.W.codeIn K cd8 "divisions" = true) (k8 : PySem.W.keepIn K (.ref f8) = true)
    (a9 : PySem.W.nsIn K mainGlobals "spread" = some (some (.ref f9))) (l9 : K.lookup f9 = some ⟨oc9, od9, .func (PySem.W.fnOf "spread" "spread" (defArgs s_spread) (defBody s_spread) (defScope s_spread) .none kV9 dc9 pm9 an9 cd9 ct9), sl9⟩) (c9 : PySem.W.codeIn K cd9 "spread" = true) (k9 : PySem.W.keepIn K (.ref f9) = true)
    (a10 : PySem.W.nsIn K mainGlobals "check_move_back" = some (some (.ref f10))) (l10 : K.lookup f10 = some ⟨oc10, od10, .func (PySem.W.fnOf "check_move" "check_move" (defArgs s_check_move_back) (defBody s_check_move_back) (defScope s_check_move_back) .none kV10 dc10 pm10 an10 cd10 ct10), sl10⟩) (c10 : PySem.W.codeIn K cd10 "check_move" = true) (k10 : PySem.W.keepIn K (.ref f10) = true)
    (a11 : PySem.W.nsIn K mainGlobals "predecessors" = some (some (.ref f11))) (l11 : K.lookup f11 = some ⟨oc11, od11, .func (PySem.W.fnOf "predecessors" "predecessors" (defArgs s_predecessors) (defBody s_predecessors) (defScope s_predecessors) .none kV11 dc11 pm11 an11 cd11 ct11), sl11⟩) (c11 : PySem.W.codeIn K cd11 "predecessors" = true) (k11 : PySem.W.keepIn K (.ref f11) = true)
    (a12 : PySem.W.nsIn K mainGlobals "all_predecessors" = some (some (.ref f12))) (l12 : K.lookup f12 = some ⟨oc12, od12, .func (PySem.W.fnOf "all_predecessors" "all_predecessors" (defArgs s_all_predecessors) (defBody s_all_predecessors) (defScope s_all_predecessors) .none kV12 dc12 pm12 an12 cd12 ct12), sl12⟩) (c12 : PySem.W.codeIn K cd12 "all_predecessors" = true) (k12 : PySem.W.keepIn K (.ref f12) = true)
    (a13 : PySem.W.nsIn K mainGlobals "next_layer" = some (some (.ref f13))) (l13 : K.lookup f13 = some ⟨oc13, od13, .func (PySem.W.fnOf "next_layer" "next_layer" (defArgs s_next_layer) (defBody s_next_layer) (defScope s_next_layer) .none kV13 dc13 pm13 an13 cd13 ct13), sl13⟩) (c13 : PySem.W.codeIn K cd13 "next_layer" = true) (k13 : PySem.W.keepIn K (.ref f13) = true)
    (a14 : PySem.W.nsIn K mainGlobals "layers" = some (some (.ref f14))) (l14 : K.lookup f14 = some ⟨oc14, od14, .func (PySem.W.fnOf "layers" "layers" (defArgs s_layers) (defBody s_layers) (defScope s_layers) .none kV14 dc14 pm14 an14 cd14 ct14), sl14⟩) (c14 : PySem.W.codeIn K cd14 "layers" = true) (k14 : PySem.W.keepIn K (.ref f14) = true)
    (a15 : PySem.W.nsIn K mainGlobals "crew_for" = some (some (.ref f15))) (l15 : K.lookup f15 = some ⟨oc15, od15, .func (PySem.W.fnOf "crew_for" "crew_for" (defArgs s_crew_for) (defBody s_crew_for) (defScope s_crew_for) .none kV15 dc15 pm15 an15 cd15 ct15), sl15⟩) (c15 : PySem.W.codeIn K cd15 "crew_for" = true) (k15 : PySem.W.keepIn K (.ref f15) = true)
    (a16 : PySem.W.nsIn K mainGlobals "least_crew" = some (some (.ref f16))) (l16 : K.lookup f16 = some ⟨oc16, od16, .func (PySem.W.fnOf "least_crew" "least_crew" (defArgs s_least_crew) (defBody s_least_crew) (defScope s_least_crew) .none kV16 dc16 pm16 an16 cd16 ct16), sl16⟩) (c16 : PySem.W.codeIn K cd16 "least_crew" = true) (k16 : PySem.W.keepIn K (.ref f16) = true)
    (a17 : PySem.W.nsIn K mainGlobals "start_with" = some (some (.ref f17))) (l17 : K.lookup f17 = some ⟨oc17, od17, .func (PySem.W.fnOf "start_with" "start_with" (defArgs s_start_with) (defBody s_start_with) (defScope s_start_with) .none kV17 dc17 pm17 an17 cd17 ct17), sl17⟩) (c17 : PySem.W.codeIn K cd17 "start_with" = true) (k17 : PySem.W.keepIn K (.ref f17) = true)
    (a18 : PySem.W.nsIn K mainGlobals "rank_of" = some (some (.ref f18))) (l18 : K.lookup f18 = some ⟨oc18, od18, .func (PySem.W.fnOf "rank_of" "rank_of" (defArgs s_rank_of) (defBody s_rank_of) (defScope s_rank_of) .none kV18 dc18 pm18 an18 cd18 ct18), sl18⟩) (c18 : PySem.W.codeIn K cd18 "rank_of" = true) (k18 : PySem.W.keepIn K (.ref f18) = true)
    (a19 : PySem.W.nsIn K mainGlobals "check_move_runs" = some (some (.ref f19))) (l19 : K.lookup f19 = some ⟨oc19, od19, .func (PySem.W.fnOf "check_move" "check_move" (defArgs s_check_move_runs) (defBody s_check_move_runs) (defScope s_check_move_runs) .none kV19 dc19 pm19 an19 cd19 ct19), sl19⟩) (c19 : PySem.W.codeIn K cd19 "check_move" = true) (k19 : PySem.W.keepIn K (.ref f19) = true)
    (a20 : PySem.W.nsIn K mainGlobals "is_possible" = some (some (.ref f20))) (l20 : K.lookup f20 = some ⟨oc20, od20, .func (PySem.W.fnOf "is_possible" "is_possible" (defArgs s_is_possible) (defBody s_is_possible) (defScope s_is_possible) .none kV20 dc20 pm20 an20 cd20 ct20), sl20⟩) (c20 : PySem.W.codeIn K cd20 "is_possible" = true) (k20 : PySem.W.keepIn K (.ref f20) = true)
    (a21 : PySem.W.nsIn K mainGlobals "after" = some (some (.ref f21))) (l21 : K.lookup f21 = some ⟨oc21, od21, .func (PySem.W.fnOf "after" "after" (defArgs s_after) (defBody s_after) (defScope s_after) .none kV21 dc21 pm21 an21 cd21 ct21), sl21⟩) (c21 : PySem.W.codeIn K cd21 "after" = true) (k21 : PySem.W.keepIn K (.ref f21) = true)
    (a22 : PySem.W.nsIn K mainGlobals "possible_moves" = some (some (.ref f22))) (l22 : K.lookup f22 = some ⟨oc22, od22, .func (PySem.W.fnOf "possible_moves" "possible_moves" (defArgs s_possible_moves) (defBody s_possible_moves) (defScope s_possible_moves) .none kV22 dc22 pm22 an22 cd22 ct22), sl22⟩) (c22 : PySem.W.codeIn K cd22 "possible_moves" = true) (k22 : PySem.W.keepIn K (.ref f22) = true)
    (a23 : PySem.W.nsIn K mainGlobals "next_step" = some (some (.ref f23))) (l23 : K.lookup f23 = some ⟨oc23, od23, .func (PySem.W.fnOf "next_step" "next_step" (defArgs s_next_step) (defBody s_next_step) (defScope s_next_step) .none kV23 dc23 pm23 an23 cd23 ct23), sl23⟩) (c23 : PySem.W.codeIn K cd23 "next_step" = true) (k23 : PySem.W.keepIn K (.ref f23) = true)
    (a24 : PySem.W.nsIn K mainGlobals "shortest_run" = some (some (.ref f24))) (l24 : K.lookup f24 = some ⟨oc24, od24, .func (PySem.W.fnOf "shortest_run" "shortest_run" (defArgs s_shortest_run) (defBody s_shortest_run) (defScope s_shortest_run) .none kV24 dc24 pm24 an24 cd24 ct24), sl24⟩) (c24 : PySem.W.codeIn K cd24 "shortest_run" = true) (k24 : PySem.W.keepIn K (.ref f24) = true)
    (a25 : PySem.W.nsIn K mainGlobals "decide" = some (some (.ref f25))) (l25 : K.lookup f25 = some ⟨oc25, od25, .func (PySem.W.fnOf "decide" "decide" (defArgs s_decide) (defBody s_decide) (defScope s_decide) .none (.ref kd25) dc25 pm25 an25 cd25 ct25), sl25⟩) (c25 : PySem.W.codeIn K cd25 "decide" = true) (k25 : PySem.W.keepIn K (.ref f25) = true)
    (e25 : PySem.W.nsIn K kd25 "fuel" = some (some ke25)) (re25 : RelV (.int 100) ke25)
    (a26 : PySem.W.nsIn K mainGlobals "_law_cell" = some (some (.ref f26))) (l26 : K.lookup f26 = some ⟨oc26, od26, .func (PySem.W.fnOf "_law_cell" "_law_cell" (defArgs s__law_cell) (defBody s__law_cell) (defScope s__law_cell) .none kV26 dc26 pm26 an26 cd26 ct26), sl26⟩) (c26 : PySem.W.codeIn K cd26 "_law_cell" = true) (k26 : PySem.W.keepIn K (.ref f26) = true)
    (a27 : PySem.W.nsIn K mainGlobals "_law_digits" = some (some (.ref f27))) (l27 : K.lookup f27 = some ⟨oc27, od27, .func (PySem.W.fnOf "_law_digits" "_law_digits" (defArgs s__law_digits) (defBody s__law_digits) (defScope s__law_digits) .none kV27 dc27 pm27 an27 cd27 ct27), sl27⟩) (c27 : PySem.W.codeIn K cd27 "_law_digits" = true) (k27 : PySem.W.keepIn K (.ref f27) = true)
    (a28 : PySem.W.nsIn K mainGlobals "_law_shifts" = some (some (.ref f28))) (l28 : K.lookup f28 = some ⟨oc28, od28, .func (PySem.W.fnOf "_law_shifts" "_law_shifts" (defArgs s__law_shifts) (defBody s__law_shifts) (defScope s__law_shifts) .none kV28 dc28 pm28 an28 cd28 ct28), sl28⟩) (c28 : PySem.W.codeIn K cd28 "_law_shifts" = true) (k28 : PySem.W.keepIn K (.ref f28) = true)
    (a29 : PySem.W.nsIn K mainGlobals "_law_machine" = some (some (.ref f29))) (l29 : K.lookup f29 = some ⟨oc29, od29, .func (PySem.W.fnOf "_law_machine" "_law_machine" (defArgs s__law_machine) (defBody s__law_machine) (defScope s__law_machine) .none kV29 dc29 pm29 an29 cd29 ct29), sl29⟩) (c29 : PySem.W.codeIn K cd29 "_law_machine" = true) (k29 : PySem.W.keepIn K (.ref f29) = true)
    (a30 : PySem.W.nsIn K mainGlobals "_law_bad" = some (some (.ref f30))) (l30 : K.lookup f30 = some ⟨oc30, od30, .func (PySem.W.fnOf "_law_bad" "_law_bad" (defArgs s__law_bad) (defBody s__law_bad) (defScope s__law_bad) .none kV30 dc30 pm30 an30 cd30 ct30), sl30⟩) (c30 : PySem.W.codeIn K cd30 "_law_bad" = true) (k30 : PySem.W.keepIn K (.ref f30) = true)
    (a31 : PySem.W.nsIn K mainGlobals "_law_start" = some (some (.ref f31))) (l31 : K.lookup f31 = some ⟨oc31, od31, .func (PySem.W.fnOf "_law_start" "_law_start" (defArgs s__law_start) (defBody s__law_start) (defScope s__law_start) .none kV31 dc31 pm31 an31 cd31 ct31), sl31⟩) (c31 : PySem.W.codeIn K cd31 "_law_start" = true) (k31 : PySem.W.keepIn K (.ref f31) = true)
    (a32 : PySem.W.nsIn K mainGlobals "_law_due" = some (some (.ref f32))) (l32 : K.lookup f32 = some ⟨oc32, od32, .func (PySem.W.fnOf "_law_due" "_law_due" (defArgs s__law_due) (defBody s__law_due) (defScope s__law_due) .none kV32 dc32 pm32 an32 cd32 ct32), sl32⟩) (c32 : PySem.W.codeIn K cd32 "_law_due" = true) (k32 : PySem.W.keepIn K (.ref f32) = true)
    (a33 : PySem.W.nsIn K mainGlobals "_law_refused" = some (some (.ref f33))) (l33 : K.lookup f33 = some ⟨oc33, od33, .func (PySem.W.fnOf "_law_refused" "_law_refused" (defArgs s__law_refused) (defBody s__law_refused) (defScope s__law_refused) .none kV33 dc33 pm33 an33 cd33 ct33), sl33⟩) (c33 : PySem.W.codeIn K cd33 "_law_refused" = true) (k33 : PySem.W.keepIn K (.ref f33) = true)
    (a34 : PySem.W.nsIn K mainGlobals "law" = some (some (.ref f34))) (l34 : K.lookup f34 = some ⟨oc34, od34, .func (PySem.W.fnOf "law" "law" (defArgs s_law) (defBody s_law) (defScope s_law) .none kV34 dc34 pm34 an34 cd34 ct34), sl34⟩) (c34 : PySem.W.codeIn K cd34 "law" = true) (k34 : PySem.W.keepIn K (.ref f34) = true)
    {uc_MOST_ELEMENTS : Value} (qc_MOST_ELEMENTS : PySem.W.nsIn K mainGlobals "MOST_ELEMENTS" = some (some uc_MOST_ELEMENTS)) (rc_MOST_ELEMENTS : RelV (.int 2000) uc_MOST_ELEMENTS)
    (z__try : PySem.W.nsIn K mainGlobals "!try" = some none)
    (z_abs : PySem.W.nsIn K mainGlobals "abs" = some none)
    (z_all : PySem.W.nsIn K mainGlobals "all" = some none)
    (z_any : PySem.W.nsIn K mainGlobals "any" = some none)
    (z_enumerate : PySem.W.nsIn K mainGlobals "enumerate" = some none)
    (z_int : PySem.W.nsIn K mainGlobals "int" = some none)
    (z_isinstance : PySem.W.nsIn K mainGlobals "isinstance" = some none)
    (z_len : PySem.W.nsIn K mainGlobals "len" = some none)
    (z_list : PySem.W.nsIn K mainGlobals "list" = some none)
    (z_max : PySem.W.nsIn K mainGlobals "max" = some none)
    (z_range : PySem.W.nsIn K mainGlobals "range" = some none)
    (z_repr : PySem.W.nsIn K mainGlobals "repr" = some none)
    (z_sorted : PySem.W.nsIn K mainGlobals "sorted" = some none)
    (z_sum : PySem.W.nsIn K mainGlobals "sum" = some none)
    (z_tuple : PySem.W.nsIn K mainGlobals "tuple" = some none)
    (z_zip : PySem.W.nsIn K mainGlobals "zip" = some none)
    {C0 : Addr} (y0 : PySem.W.nsIn K mainGlobals "NotPossible" = some (some (.ref C0))) (x0 : PySem.W.excIn K C0 [.type "ValueError", .type "Exception", .type "BaseException", .type "object"] "ValueError.__new__" = true) (w0 : PySem.W.keepIn K (.ref C0) = true) (v0 : PySem.W.subIn K (.ref C0) (.type "BaseException") = some true) (t0 : PySem.W.typeIn K (.ref C0) = some (.type "type"))
    {C1 : Addr} (y1 : PySem.W.nsIn K mainGlobals "OutOfRange" = some (some (.ref C1))) (x1 : PySem.W.excIn K C1 [.type "ValueError", .type "Exception", .type "BaseException", .type "object"] "ValueError.__new__" = true) (w1 : PySem.W.keepIn K (.ref C1) = true) (v1 : PySem.W.subIn K (.ref C1) (.type "BaseException") = some true) (t1 : PySem.W.typeIn K (.ref C1) = some (.type "type"))
    {CL : Addr} (yL : PySem.W.nsIn K mainGlobals "LegionError" = some (some (.ref CL))) (hn0 : PySem.W.specialIn K (.builtin "object.__class__") "__get__" = some (some (.builtin "getset_descriptor.__get__"))) (ht0 : PySem.W.takesIn K (.builtin "object.__class__") = some true)
    (hg0 : PySem.W.findIn K (.ref C0) "__getattribute__" = some (some (.builtin "BaseException.__getattribute__")))
    (hk0 : PySem.W.findIn K (.ref C0) "__getattr__" = some none)
    (hs0 : PySem.W.subIn K (.ref C0) (.type "BaseException") = some true)
    (hd0 : PySem.W.hasDictIn K C0 = true)
    (ha0 : PySem.W.findIn K (.ref C0) "__class__" = some (some (.builtin "object.__class__")))
    (hm0 : PySem.W.mroIn K C0 (.type "object") = some true)
    (mm0_0 : PySem.W.kitOne K (.ref C0) (.ref C0) = some true) (ss0_0 : PySem.W.subIn K (.ref C0) (.ref C0) = some true)
    (mm0_1 : PySem.W.kitOne K (.ref C0) (.ref C1) = some false) (ss0_1 : PySem.W.subIn K (.ref C0) (.ref C1) = some false)
    (mL0 : PySem.W.kitOne K (.ref C0) (.ref CL) = some true) (mV0 : PySem.W.kitOne K (.ref C0) (.type "ValueError") = some true)
    (hg1 : PySem.W.findIn K (.ref C1) "__getattribute__" = some (some (.builtin "BaseException.__getattribute__")))
    (hk1 : PySem.W.findIn K (.ref C1) "__getattr__" = some none)
    (hs1 : PySem.W.subIn K (.ref C1) (.type "BaseException") = some true)
    (hd1 : PySem.W.hasDictIn K C1 = true)
    (ha1 : PySem.W.findIn K (.ref C1) "__class__" = some (some (.builtin "object.__class__")))
    (hm1 : PySem.W.mroIn K C1 (.type "object") = some true)
    (mm1_0 : PySem.W.kitOne K (.ref C1) (.ref C0) = some false) (ss1_0 : PySem.W.subIn K (.ref C1) (.ref C0) = some false)
    (mm1_1 : PySem.W.kitOne K (.ref C1) (.ref C1) = some true) (ss1_1 : PySem.W.subIn K (.ref C1) (.ref C1) = some true)
    (mL1 : PySem.W.kitOne K (.ref C1) (.ref CL) = some true) (mV1 : PySem.W.kitOne K (.ref C1) (.type "ValueError") = some true)
    : ∃ (fd : FuncData) (cref : Str → Value), (∀ (s : Shared) (u : Value), BindsTo s fd ⟨[u], []⟩ [("_law_script", u)]) ∧ ∀ base : Heap, K.In base → base.Ns mainGlobals mg → FnG l.prog w K mg base 45 fa fd ["_law_script"] (spD K cref 1 g_law) := by
  have e := hfa.symm.trans (PySem.W.mg_of X Gl a34)
  cases e
  have F1 := fun_mk (st := s_covers) l1 c1 k1
  have b1 := F1.binds (ps := p_covers) fun _ _ _ _ _ _ us hl => match us, hl with | [_, _], _ => rfl
  have F2 := fun_mk (st := s_is_above) l2 c2 k2
  have b2 := F2.binds (ps := p_is_above) fun _ _ _ _ _ _ us hl => match us, hl with | [_, _], _ => rfl
  have F3 := fun_mk (st := s_place_in_order) l3 c3 k3
  have b3 := F3.binds (ps := p_place_in_order) fun _ _ _ _ _ _ us hl => match us, hl with | [_], _ => rfl
  have F4 := fun_mk (st := s_weight) l4 c4 k4
  have b4 := F4.binds (ps := p_weight) fun _ _ _ _ _ _ us hl => match us, hl with | [_], _ => rfl
  have F5 := fun_mk (st := s_least_ones) l5 c5 k5
  have b5 := F5.binds (ps := p_least_ones) fun _ _ _ _ _ _ us hl => match us, hl with | [_], _ => rfl
  have F6 := fun_mk (st := s_needed_before) l6 c6 k6
  have b6 := F6.binds (ps := p_needed_before) fun _ _ _ _ _ _ us hl => match us, hl with | [_, _], _ => rfl
  have F7 := fun_mk (st := s_sources_of) l7 c7 k7
  have b7 := F7.binds (ps := p_sources_of) fun _ _ _ _ _ _ us hl => match us, hl with | [_], _ => rfl
  have F8 := fun_mk (st := s_divisions) l8 c8 k8
  have b8 := F8.binds (ps := p_divisions) fun _ _ _ _ _ _ us hl => match us, hl with | [_, _], _ => rfl
  have F9 := fun_mk (st := s_spread) l9 c9 k9
  have b9 := F9.binds (ps := p_spread) fun _ _ _ _ _ _ us hl => match us, hl with | [_, _], _ => rfl
  have F10 := fun_mk (st := s_check_move_back) l10 c10 k10
  have b10 := F10.binds (ps := p_check_move_back) fun _ _ _ _ _ _ us hl => match us, hl with | [_, _], _ => rfl
  have F11 := fun_mk (st := s_predecessors) l11 c11 k11
  have b11 := F11.binds (ps := p_predecessors) fun _ _ _ _ _ _ us hl => match us, hl with | [_, _, _], _ => rfl
  have F12 := fun_mk (st := s_all_predecessors) l12 c12 k12
  have b12 := F12.binds (ps := p_all_predecessors) fun _ _ _ _ _ _ us hl => match us, hl with | [_, _], _ => rfl
  have F13 := fun_mk (st := s_next_layer) l13 c13 k13
  have b13 := F13.binds (ps := p_next_layer) fun _ _ _ _ _ _ us hl => match us, hl with | [_, _, _], _ => rfl
  have F14 := fun_mk (st := s_layers) l14 c14 k14
  have b14 := kbn_of (ps := p_layers) (m := 2) (k := "fuel") F14 fun _ _ _ _ _ _ us ws hu hw => match us, ws, hu, hw with | [_, _], [_], _, _ => rfl
  have F15 := fun_mk (st := s_crew_for) l15 c15 k15
  have b15 := F15.binds (ps := p_crew_for) fun _ _ _ _ _ _ us hl => match us, hl with | [_, _], _ => rfl
  have F16 := fun_mk (st := s_least_crew) l16 c16 k16
  have b16 := F16.binds (ps := p_least_crew) fun _ _ _ _ _ _ us hl => match us, hl with | [_, _], _ => rfl
  have F17 := fun_mk (st := s_start_with) l17 c17 k17
  have b17 := F17.binds (ps := p_start_with) fun _ _ _ _ _ _ us hl => match us, hl with | [_, _], _ => rfl
  have F18 := fun_mk (st := s_rank_of) l18 c18 k18
  have b18 := F18.binds (ps := p_rank_of) fun _ _ _ _ _ _ us hl => match us, hl with | [_, _], _ => rfl
  have F19 := fun_mk (st := s_check_move_runs) l19 c19 k19
  have b19 := F19.binds (ps := p_check_move_runs) fun _ _ _ _ _ _ us hl => match us, hl with | [_, _], _ => rfl
  have F20 := fun_mk (st := s_is_possible) l20 c20 k20
  have b20 := F20.binds (ps := p_is_possible) fun _ _ _ _ _ _ us hl => match us, hl with | [_, _, _], _ => rfl
  have F21 := fun_mk (st := s_after) l21 c21 k21
  have b21 := F21.binds (ps := p_after) fun _ _ _ _ _ _ us hl => match us, hl with | [_, _, _], _ => rfl
  have F22 := fun_mk (st := s_possible_moves) l22 c22 k22
  have b22 := F22.binds (ps := p_possible_moves) fun _ _ _ _ _ _ us hl => match us, hl with | [_, _], _ => rfl
  have F23 := fun_mk (st := s_next_step) l23 c23 k23
  have b23 := F23.binds (ps := p_next_step) fun _ _ _ _ _ _ us hl => match us, hl with | [_, _, _], _ => rfl
  have F24 := fun_mk (st := s_shortest_run) l24 c24 k24
  have b24 := F24.binds (ps := p_shortest_run) fun _ _ _ _ _ _ us hl => match us, hl with | [_, _, _], _ => rfl
  have F25 := fun_mk (st := s_decide) l25 c25 k25
  have b25 := kbn_of (ps := p_decide) (m := 2) (k := "fuel") F25 fun _ _ _ _ _ _ us ws hu hw => match us, ws, hu, hw with | [_, _], [_], _, _ => rfl
  have F26 := fun_mk (st := s__law_cell) l26 c26 k26
  have b26 := F26.binds (ps := p__law_cell) fun _ _ _ _ _ _ us hl => match us, hl with | [_, _], _ => rfl
  have F27 := fun_mk (st := s__law_digits) l27 c27 k27
  have b27 := F27.binds (ps := p__law_digits) fun _ _ _ _ _ _ us hl => match us, hl with | [_, _, _], _ => rfl
  have F28 := fun_mk (st := s__law_shifts) l28 c28 k28
  have b28 := F28.binds (ps := p__law_shifts) fun _ _ _ _ _ _ us hl => match us, hl with | [_, _], _ => rfl
  have F29 := fun_mk (st := s__law_machine) l29 c29 k29
  have b29 := F29.binds (ps := p__law_machine) fun _ _ _ _ _ _ us hl => match us, hl with | [_, _], _ => rfl
  have F30 := fun_mk (st := s__law_bad) l30 c30 k30
  have b30 := F30.binds (ps := p__law_bad) fun _ _ _ _ _ _ us hl => match us, hl with | [_, _], _ => rfl
  have F31 := fun_mk (st := s__law_start) l31 c31 k31
  have b31 := F31.binds (ps := p__law_start) fun _ _ _ _ _ _ us hl => match us, hl with | [_, _], _ => rfl
  have F32 := fun_mk (st := s__law_due) l32 c32 k32
  have b32 := F32.binds (ps := p__law_due) fun _ _ _ _ _ _ us hl => match us, hl with | [_, _, _], _ => rfl
  have F33 := fun_mk (st := s__law_refused) l33 c33 k33
  have b33 := F33.binds (ps := p__law_refused) fun _ _ _ _ _ _ us hl => match us, hl with | [_, _, _], _ => rfl
  have F34 := fun_mk (st := s_law) l34 c34 k34
  have b34 := F34.binds (ps := p_law) fun _ _ _ _ _ _ us hl => match us, hl with | [_], _ => rfl
  refine ⟨PySem.W.fnOf "law" "law" (defArgs s_law) (defBody s_law) (defScope s_law) .none kV34 dc34 pm34 an34 cd34 ct34, (crf C0 C1), fun s v => .of_eq rfl, fun base _ _ => ?_⟩
  have gc0 : GC l.prog w K mg base ((crf C0 C1)) 0 Gam.none bs cs := .nil (by
    intro x hx
    simp only [bs, List.mem_cons, List.not_mem_nil, or_false] at hx
    rcases hx with rfl | rfl | rfl | rfl | rfl | rfl | rfl | rfl | rfl | rfl | rfl | rfl | rfl | rfl | rfl | rfl
    · exact PySem.W.mg_none_of X Gl z__try
    · exact PySem.W.mg_none_of X Gl z_abs
    · exact PySem.W.mg_none_of X Gl z_all
    · exact PySem.W.mg_none_of X Gl z_any
    · exact PySem.W.mg_none_of X Gl z_enumerate
    · exact PySem.W.mg_none_of X Gl z_int
    · exact PySem.W.mg_none_of X Gl z_isinstance
    · exact PySem.W.mg_none_of X Gl z_len
    · exact PySem.W.mg_none_of X Gl z_list
    · exact PySem.W.mg_none_of X Gl z_max
    · exact PySem.W.mg_none_of X Gl z_range
    · exact PySem.W.mg_none_of X Gl z_repr
    · exact PySem.W.mg_none_of X Gl z_sorted
    · exact PySem.W.mg_none_of X Gl z_sum
    · exact PySem.W.mg_none_of X Gl z_tuple
    · exact PySem.W.mg_none_of X Gl z_zip
    ) (by
    intro x hx
    simp only [cs, List.mem_cons, List.not_mem_nil, or_false] at hx
    rcases hx with rfl | rfl
    · exact ⟨C0, PySem.W.mg_of X Gl y0, if_pos rfl, x0, w0, v0, t0⟩
    · exact ⟨C1, PySem.W.mg_of X Gl y1, (if_neg (by decide +kernel)).trans (if_pos rfl), x1, w1, v1, t1⟩
    )
    (by
    intro _ x hx
    simp only [cs, List.mem_cons, List.not_mem_nil, or_false] at hx
    rcases hx with rfl | rfl
    · refine ⟨C0, if_pos rfl, ⟨hg0, hk0, hs0, hd0, ha0, hn0, ht0, hm0⟩, fun x hx => ?_⟩
      simp only [cs, List.mem_cons, List.not_mem_nil, or_false] at hx
      rcases hx with (rfl | rfl) | rfl | rfl
      · exact ⟨.ref C0, mm0_0.trans (by decide +kernel), fun z => absurd z (by decide), fun _ => ⟨C0, rfl, PySem.W.mg_of X Gl y0⟩, fun _ => ⟨by decide, (PySem.W.exm_ref hs0 hd0 t0 ss0_0).trans (by decide +kernel)⟩⟩
      · exact ⟨.ref C1, mm0_1.trans (by decide +kernel), fun z => absurd z (by decide), fun _ => ⟨C1, rfl, PySem.W.mg_of X Gl y1⟩, fun _ => ⟨by decide, (PySem.W.exm_ref hs1 hd1 t1 ss0_1).trans (by decide +kernel)⟩⟩
      · exact ⟨.ref CL, mL0.trans (by decide +kernel), fun z => absurd z (by decide), fun _ => ⟨CL, rfl, PySem.W.mg_of X Gl yL⟩, fun z => absurd z (by decide +kernel)⟩
      · exact ⟨.type "ValueError", mV0.trans (by decide +kernel), fun _ => rfl, fun z => absurd rfl z, fun z => absurd z (by decide +kernel)⟩
    · refine ⟨C1, (if_neg (by decide +kernel)).trans (if_pos rfl), ⟨hg1, hk1, hs1, hd1, ha1, hn0, ht0, hm1⟩, fun x hx => ?_⟩
      simp only [cs, List.mem_cons, List.not_mem_nil, or_false] at hx
      rcases hx with (rfl | rfl) | rfl | rfl
      · exact ⟨.ref C0, mm1_0.trans (by decide +kernel), fun z => absurd z (by decide), fun _ => ⟨C0, rfl, PySem.W.mg_of X Gl y0⟩, fun _ => ⟨by decide, (PySem.W.exm_ref hs0 hd0 t0 ss1_0).trans (by decide +kernel)⟩⟩
      · exact ⟨.ref C1, mm1_1.trans (by decide +kernel), fun z => absurd z (by decide), fun _ => ⟨C1, rfl, PySem.W.mg_of X Gl y1⟩, fun _ => ⟨by decide, (PySem.W.exm_ref hs1 hd1 t1 ss1_1).trans (by decide +kernel)⟩⟩
      · exact ⟨.ref CL, mL1.trans (by decide +kernel), fun z => absurd z (by decide), fun _ => ⟨CL, rfl, PySem.W.mg_of X Gl yL⟩, fun z => absurd z (by decide +kernel)⟩
      · exact ⟨.type "ValueError", mV1.trans (by decide +kernel), fun _ => rfl, fun z => absurd rfl z, fun z => absurd z (by decide +kernel)⟩
    )
  have gc0 : GC l.prog w K mg base (crf C0 C1) 0 G_c_MOST_ELEMENTS bs cs := gc0.addC (x := "MOST_ELEMENTS") (d := .int 2000) (PySem.W.mg_of X Gl qc_MOST_ELEMENTS) rc_MOST_ELEMENTS fun _ => by simp only [Is]
  have R1 : FnG l.prog w K mg base 1 f1 _ p_covers (spD K (crf C0 C1) p_covers.length g_covers) := def_ok (P := l.prog) (w := w) (wn := 10000) F1 c_covers gc0 h_covers
  have gc1 : GC l.prog w K mg base (crf C0 C1) 1 G_covers bs cs := (gc0.mono (Nat.le_succ 0)).add (PySem.W.mg_of X Gl a1) k1 b1 R1 fun ds h => evDef_len ds h
  have R2 : FnG l.prog w K mg base 2 f2 _ p_is_above (spD K (crf C0 C1) p_is_above.length g_is_above) := def_ok (P := l.prog) (w := w) (wn := 10000) F2 c_is_above gc1 h_is_above
  have gc2 : GC l.prog w K mg base (crf C0 C1) 2 G_is_above bs cs := (gc1.mono (Nat.le_succ 1)).add (PySem.W.mg_of X Gl a2) k2 b2 R2 fun ds h => evDef_len ds h
  have R3 : FnG l.prog w K mg base 3 f3 _ p_place_in_order (spD K (crf C0 C1) p_place_in_order.length g_place_in_order) := def_ok (P := l.prog) (w := w) (wn := 10000) F3 c_place_in_order gc2 h_place_in_order
  have gc3 : GC l.prog w K mg base (crf C0 C1) 3 G_place_in_order bs cs := (gc2.mono (Nat.le_succ 2)).add (PySem.W.mg_of X Gl a3) k3 b3 R3 fun ds h => evDef_len ds h
  have R4 : FnG l.prog w K mg base 4 f4 _ p_weight (spD K (crf C0 C1) p_weight.length g_weight) := def_ok (P := l.prog) (w := w) (wn := 10000) F4 c_weight gc3 h_weight
  have gc4 : GC l.prog w K mg base (crf C0 C1) 4 G_weight bs cs := (gc3.mono (Nat.le_succ 3)).add (PySem.W.mg_of X Gl a4) k4 b4 R4 fun ds h => evDef_len ds h
  have R5 : FnG l.prog w K mg base 5 f5 _ p_least_ones (spD K (crf C0 C1) p_least_ones.length g_least_ones) := def_ok (P := l.prog) (w := w) (wn := 10000) F5 c_least_ones gc4 h_least_ones
  have gc5 : GC l.prog w K mg base (crf C0 C1) 5 G_least_ones bs cs := (gc4.mono (Nat.le_succ 4)).add (PySem.W.mg_of X Gl a5) k5 b5 R5 fun ds h => evDef_len ds h
  have R6 : FnG l.prog w K mg base 6 f6 _ p_needed_before (spD K (crf C0 C1) p_needed_before.length g_needed_before) := def_ok (P := l.prog) (w := w) (wn := 10000) F6 c_needed_before gc5 h_needed_before
  have gc6 : GC l.prog w K mg base (crf C0 C1) 6 G_needed_before bs cs := (gc5.mono (Nat.le_succ 5)).add (PySem.W.mg_of X Gl a6) k6 b6 R6 fun ds h => evDef_len ds h
  have R7 : FnG l.prog w K mg base 7 f7 _ p_sources_of (spD K (crf C0 C1) p_sources_of.length g_sources_of) := def_ok (P := l.prog) (w := w) (wn := 10000) F7 c_sources_of gc6 h_sources_of
  have gc7 : GC l.prog w K mg base (crf C0 C1) 7 G_sources_of bs cs := (gc6.mono (Nat.le_succ 6)).add (PySem.W.mg_of X Gl a7) k7 b7 R7 fun ds h => evDef_len ds h
  have R8 : FnG l.prog w K mg base 19 f8 _ p_divisions (spD K (crf C0 C1) p_divisions.length g_divisions) := rec_ok (P := l.prog) (w := w) (wn := 10000) F8 c_divisions gc7 h_divisions (PySem.W.mg_of X Gl a8) k8 b8 (by decide +kernel) 12
  have gc8 : GC l.prog w K mg base (crf C0 C1) 19 G_divisions bs cs := (gc7.mono (Nat.le_add_right 7 12)).add (PySem.W.mg_of X Gl a8) k8 b8 R8 fun ds h => gRec_len ds h
  have R9 : FnG l.prog w K mg base 20 f9 _ p_spread (spD K (crf C0 C1) p_spread.length g_spread) := def_ok (P := l.prog) (w := w) (wn := 10000) F9 c_spread gc8 h_spread
  have gc9 : GC l.prog w K mg base (crf C0 C1) 20 G_spread bs cs := (gc8.mono (Nat.le_succ 19)).add (PySem.W.mg_of X Gl a9) k9 b9 R9 fun ds h => evDef_len ds h
  have R10 : FnG l.prog w K mg base 21 f10 _ p_check_move_back (spD K (crf C0 C1) p_check_move_back.length g_check_move_back) := def_ok (P := l.prog) (w := w) (wn := 10000) F10 c_check_move_back gc9 h_check_move_back
  have gc10 : GC l.prog w K mg base (crf C0 C1) 21 G_check_move_back bs cs := (gc9.mono (Nat.le_succ 20)).add (PySem.W.mg_of X Gl a10) k10 b10 R10 fun ds h => evDef_len ds h
  have R11 : FnG l.prog w K mg base 22 f11 _ p_predecessors (spD K (crf C0 C1) p_predecessors.length g_predecessors) := def_ok (P := l.prog) (w := w) (wn := 10000) F11 c_predecessors gc10 h_predecessors
  have gc11 : GC l.prog w K mg base (crf C0 C1) 22 G_predecessors bs cs := (gc10.mono (Nat.le_succ 21)).add (PySem.W.mg_of X Gl a11) k11 b11 R11 fun ds h => evDef_len ds h
  have R12 : FnG l.prog w K mg base 23 f12 _ p_all_predecessors (spD K (crf C0 C1) p_all_predecessors.length g_all_predecessors) := def_ok (P := l.prog) (w := w) (wn := 10000) F12 c_all_predecessors gc11 h_all_predecessors
  have gc12 : GC l.prog w K mg base (crf C0 C1) 23 G_all_predecessors bs cs := (gc11.mono (Nat.le_succ 22)).add (PySem.W.mg_of X Gl a12) k12 b12 R12 fun ds h => evDef_len ds h
  have R13 : FnG l.prog w K mg base 24 f13 _ p_next_layer (spD K (crf C0 C1) p_next_layer.length g_next_layer) := def_ok (P := l.prog) (w := w) (wn := 10000) F13 c_next_layer gc12 h_next_layer
  have gc13 : GC l.prog w K mg base (crf C0 C1) 24 G_next_layer bs cs := (gc12.mono (Nat.le_succ 23)).add (PySem.W.mg_of X Gl a13) k13 b13 R13 fun ds h => evDef_len ds h
  have R14 : FnG l.prog w K mg base 25 f14 _ p_layers (spD K (crf C0 C1) p_layers.length g_layers) := lay_ok (P := l.prog) (w := w) (wn := 10000) F14 c_layers gc13 h_layers
  have gc14 : GC l.prog w K mg base (crf C0 C1) 25 G_layers bs cs := (gc13.mono (Nat.le_succ 24)).addK (PySem.W.mg_of X Gl a14) k14 b14 R14 (fun ds h => evLay_len ds h) rfl
  have R15 : FnG l.prog w K mg base 26 f15 _ p_crew_for (spD K (crf C0 C1) p_crew_for.length g_crew_for) := def_ok (P := l.prog) (w := w) (wn := 10000) F15 c_crew_for gc14 h_crew_for
  have gc15 : GC l.prog w K mg base (crf C0 C1) 26 G_crew_for bs cs := (gc14.mono (Nat.le_succ 25)).add (PySem.W.mg_of X Gl a15) k15 b15 R15 fun ds h => evDef_len ds h
  have R16 : FnG l.prog w K mg base 27 f16 _ p_least_crew (spD K (crf C0 C1) p_least_crew.length g_least_crew) := def_ok (P := l.prog) (w := w) (wn := 10000) F16 c_least_crew gc15 h_least_crew
  have gc16 : GC l.prog w K mg base (crf C0 C1) 27 G_least_crew bs cs := (gc15.mono (Nat.le_succ 26)).add (PySem.W.mg_of X Gl a16) k16 b16 R16 fun ds h => evDef_len ds h
  have R17 : FnG l.prog w K mg base 28 f17 _ p_start_with (spD K (crf C0 C1) p_start_with.length g_start_with) := def_ok (P := l.prog) (w := w) (wn := 10000) F17 c_start_with gc16 h_start_with
  have gc17 : GC l.prog w K mg base (crf C0 C1) 28 G_start_with bs cs := (gc16.mono (Nat.le_succ 27)).add (PySem.W.mg_of X Gl a17) k17 b17 R17 fun ds h => evDef_len ds h
  have R18 : FnG l.prog w K mg base 29 f18 _ p_rank_of (spD K (crf C0 C1) p_rank_of.length g_rank_of) := def_ok (P := l.prog) (w := w) (wn := 10000) F18 c_rank_of gc17 h_rank_of
  have gc18 : GC l.prog w K mg base (crf C0 C1) 29 G_rank_of bs cs := (gc17.mono (Nat.le_succ 28)).add (PySem.W.mg_of X Gl a18) k18 b18 R18 fun ds h => evDef_len ds h
  have R19 : FnG l.prog w K mg base 30 f19 _ p_check_move_runs (spD K (crf C0 C1) p_check_move_runs.length g_check_move_runs) := def_ok (P := l.prog) (w := w) (wn := 10000) F19 c_check_move_runs gc18 h_check_move_runs
  have gc19 : GC l.prog w K mg base (crf C0 C1) 30 G_check_move_runs bs cs := (gc18.mono (Nat.le_succ 29)).add (PySem.W.mg_of X Gl a19) k19 b19 R19 fun ds h => evDef_len ds h
  have R20 : FnG l.prog w K mg base 31 f20 _ p_is_possible (spD K (crf C0 C1) p_is_possible.length g_is_possible) := def_ok (P := l.prog) (w := w) (wn := 10000) F20 c_is_possible gc19 h_is_possible
  have gc20 : GC l.prog w K mg base (crf C0 C1) 31 G_is_possible bs cs := (gc19.mono (Nat.le_succ 30)).add (PySem.W.mg_of X Gl a20) k20 b20 R20 fun ds h => evDef_len ds h
  have R21 : FnG l.prog w K mg base 32 f21 _ p_after (spD K (crf C0 C1) p_after.length g_after) := def_ok (P := l.prog) (w := w) (wn := 10000) F21 c_after gc20 h_after
  have gc21 : GC l.prog w K mg base (crf C0 C1) 32 G_after bs cs := (gc20.mono (Nat.le_succ 31)).add (PySem.W.mg_of X Gl a21) k21 b21 R21 fun ds h => evDef_len ds h
  have R22 : FnG l.prog w K mg base 33 f22 _ p_possible_moves (spD K (crf C0 C1) p_possible_moves.length g_possible_moves) := def_ok (P := l.prog) (w := w) (wn := 10000) F22 c_possible_moves gc21 h_possible_moves
  have gc22 : GC l.prog w K mg base (crf C0 C1) 33 G_possible_moves bs cs := (gc21.mono (Nat.le_succ 32)).add (PySem.W.mg_of X Gl a22) k22 b22 R22 fun ds h => evDef_len ds h
  have R23 : FnG l.prog w K mg base 34 f23 _ p_next_step (spD K (crf C0 C1) p_next_step.length g_next_step) := def_ok (P := l.prog) (w := w) (wn := 10000) F23 c_next_step gc22 h_next_step
  have gc23 : GC l.prog w K mg base (crf C0 C1) 34 G_next_step bs cs := (gc22.mono (Nat.le_succ 33)).add (PySem.W.mg_of X Gl a23) k23 b23 R23 fun ds h => evDef_len ds h
  have R24 : FnG l.prog w K mg base 35 f24 _ p_shortest_run (spD K (crf C0 C1) p_shortest_run.length g_shortest_run) := def_ok (P := l.prog) (w := w) (wn := 10000) F24 c_shortest_run gc23 h_shortest_run
  have gc24 : GC l.prog w K mg base (crf C0 C1) 35 G_shortest_run bs cs := (gc23.mono (Nat.le_succ 34)).add (PySem.W.mg_of X Gl a24) k24 b24 R24 fun ds h => evDef_len ds h
  have R25 : FnG l.prog w K mg base 36 f25 _ p_decide (spD K (crf C0 C1) p_decide.length g_decide) := dec_ok (P := l.prog) (w := w) F25 c_decide gc24 h_decide
  have gc25 := (gc24.mono (Nat.le_succ 35)).addK (PySem.W.mg_of X Gl a25) k25 b25 R25 (fun ds h => evDec_len ds h) rfl
  have FD25 : FunD K "decide" "decide" (defArgs s_decide) (defBody s_decide) (defScope s_decide) [] [("fuel", .int 100)] f25 _ := ⟨⟨oc25, od25, .none, .ref kd25, dc25, pm25, an25, cd25, ct25, sl25, rfl, l25, c25, .inl ⟨rfl, rfl⟩, .inr ⟨kd25, rfl, fun q hq => by rw [List.mem_singleton.mp hq]; exact ⟨ke25, e25, re25⟩⟩⟩, k25⟩
  obtain ⟨dus25, dv25, db25⟩ := FunD.binds0 (ps := p_decide) FD25 2 (by simp) rfl fun _ _ _ _ _ _ us ks hu hk => match us, ks, hu, hk with | [_, _], [_], _, _ => ⟨_, _, _, _, _, _, rfl, rfl, rfl⟩
  have gc25 : GC l.prog w K mg base (crf C0 C1) 36 G_decide bs cs := gc25.addD (dds := [.int 100]) (PySem.W.mg_of X Gl a25) k25 db25 dv25 (fun _ => .one int_is) R25 fun ds h => evDec_len ds h
  have R26 : FnG l.prog w K mg base 37 f26 _ p__law_cell (spD K (crf C0 C1) p__law_cell.length g__law_cell) := def_ok (P := l.prog) (w := w) (wn := 10000) F26 c__law_cell gc25 h__law_cell
  have gc26 : GC l.prog w K mg base (crf C0 C1) 37 G__law_cell bs cs := (gc25.mono (Nat.le_succ 36)).add (PySem.W.mg_of X Gl a26) k26 b26 R26 fun ds h => evDef_len ds h
  have R27 : FnG l.prog w K mg base 38 f27 _ p__law_digits (spD K (crf C0 C1) p__law_digits.length g__law_digits) := def_ok (P := l.prog) (w := w) (wn := 10000) F27 c__law_digits gc26 h__law_digits
  have gc27 : GC l.prog w K mg base (crf C0 C1) 38 G__law_digits bs cs := (gc26.mono (Nat.le_succ 37)).add (PySem.W.mg_of X Gl a27) k27 b27 R27 fun ds h => evDef_len ds h
  have R28 : FnG l.prog w K mg base 39 f28 _ p__law_shifts (spD K (crf C0 C1) p__law_shifts.length g__law_shifts) := def_ok (P := l.prog) (w := w) (wn := 10000) F28 c__law_shifts gc27 h__law_shifts
  have gc28 : GC l.prog w K mg base (crf C0 C1) 39 G__law_shifts bs cs := (gc27.mono (Nat.le_succ 38)).add (PySem.W.mg_of X Gl a28) k28 b28 R28 fun ds h => evDef_len ds h
  have R29 : FnG l.prog w K mg base 40 f29 _ p__law_machine (spD K (crf C0 C1) p__law_machine.length g__law_machine) := def_ok (P := l.prog) (w := w) (wn := 10000) F29 c__law_machine gc28 h__law_machine
  have gc29 : GC l.prog w K mg base (crf C0 C1) 40 G__law_machine bs cs := (gc28.mono (Nat.le_succ 39)).add (PySem.W.mg_of X Gl a29) k29 b29 R29 fun ds h => evDef_len ds h
  have R30 : FnG l.prog w K mg base 41 f30 _ p__law_bad (spD K (crf C0 C1) p__law_bad.length g__law_bad) := def_ok (P := l.prog) (w := w) (wn := 10000) F30 c__law_bad gc29 h__law_bad
  have gc30 : GC l.prog w K mg base (crf C0 C1) 41 G__law_bad bs cs := (gc29.mono (Nat.le_succ 40)).add (PySem.W.mg_of X Gl a30) k30 b30 R30 fun ds h => evDef_len ds h
  have R31 : FnG l.prog w K mg base 42 f31 _ p__law_start (spD K (crf C0 C1) p__law_start.length g__law_start) := def_ok (P := l.prog) (w := w) (wn := 10000) F31 c__law_start gc30 h__law_start
  have gc31 : GC l.prog w K mg base (crf C0 C1) 42 G__law_start bs cs := (gc30.mono (Nat.le_succ 41)).add (PySem.W.mg_of X Gl a31) k31 b31 R31 fun ds h => evDef_len ds h
  have R32 : FnG l.prog w K mg base 43 f32 _ p__law_due (spD K (crf C0 C1) p__law_due.length g__law_due) := def_ok (P := l.prog) (w := w) (wn := 10000) F32 c__law_due gc31 h__law_due
  have gc32 : GC l.prog w K mg base (crf C0 C1) 43 G__law_due bs cs := (gc31.mono (Nat.le_succ 42)).add (PySem.W.mg_of X Gl a32) k32 b32 R32 fun ds h => evDef_len ds h
  have R33 : FnG l.prog w K mg base 44 f33 _ p__law_refused (spD K (crf C0 C1) p__law_refused.length g__law_refused) := def_ok (P := l.prog) (w := w) (wn := 10000) F33 c__law_refused gc32 h__law_refused
  have gc33 : GC l.prog w K mg base (crf C0 C1) 44 G__law_refused bs cs := (gc32.mono (Nat.le_succ 43)).add (PySem.W.mg_of X Gl a33) k33 b33 R33 fun ds h => evDef_len ds h
  have R34 : FnG l.prog w K mg base 45 _ _ p_law (spD K (crf C0 C1) p_law.length g_law) := def_ok (P := l.prog) (w := w) (wn := 10000) F34 c_law gc33 h_law
  exact R34
end K48
namespace K48
open PySem L2 PV
def cell (ns : List Int) (k : Int) : Int := if k < ns.length then ((gi ns k.toNat).natAbs : Int) else 0
theorem cell_ok (ns : List Int) (k : Int) (h : 0 ≤ k) : g__law_cell [il ns, .int k] = .ok (.sh, .int (cell ns k)) := by
  refine def_is rfl (s_if (t := decide (k < ns.length)) (by simp) (fun c => ?_) fun c => ?_)
  · have c : k < ns.length := of_decide_eq_true c
    simp [ss_cons, ss_nil, ixi h c, cell, c]
    omega
  · have c : ¬ k < ns.length := of_decide_eq_false c
    simp [ss_cons, ss_nil, cell, c]
def dInv (c b m : Int) (i : Nat) (e : PV.Env) : Prop := ∃ (c' : Int) (L : List Int) (z : Slot), e = [.sh (.int c'), .sh (.int b), .sh (.int m), .ow (il L), .sh (.bool (decide (1000000000000000000 ≤ c))), z] ∧ 0 ≤ c' ∧ L.length = i ∧ ∀ x ∈ L, 0 ≤ x ∧ x < b
theorem digits_ok (c b m : Int) (h : 0 ≤ c) (h1 : 0 < b) (h2 : b < 1073741824) (h3 : m ≤ 1000000) (h4 : 0 ≤ m): ∃ L : List Int, L.length = m.toNat ∧ (∀ x ∈ L, 0 ≤ x ∧ x < b) ∧ g__law_digits [.int c, .int b, .int m] = .ok (.ow, il L) := by
  suffices hh : ∃ o d, g__law_digits [.int c, .int b, .int m] = .ok (o, d) ∧ o = .ow ∧ ∃ L : List Int, d = il L ∧ L.length = m.toNat ∧ (∀ x ∈ L, 0 ≤ x ∧ x < b) by
    obtain ⟨_, _, e, rfl, L, rfl, q1, q2⟩ := hh
    exact ⟨L, q1, q2, e⟩
  refine def_ret rfl ?_
  unfold b__law_digits
  rw [ss_cons]; simp
  rw [ss_cons]; simp -implicitDefEqProofs (disch := decide) [pow_int]
  refine s_for (t := .sh) (ds := ranged 0 m) (I := dInv c b m)
    (by rfl) (by simp -implicitDefEqProofs (disch := omega) [small_nat]) rfl ⟨c, [], .no, rfl, h, rfl, by simp⟩ ?_ ?_
  · rintro i d e hd ⟨c', L, z, rfl, k1, k2, k3⟩
    have hi : i < m.toNat := by have := (List.getElem?_eq_some_iff.mp hd).1; rwa [ranged_len, Int.sub_zero] at this
    rw [ranged_get (by omega)] at hd
    obtain rfl := Option.some.inj hd
    have hL : L.length < lim := by rw [k2]; show i < 16000000; omega
    have bb : ∀ y : Int, 0 ≤ y % b ∧ y % b < b := fun y => ⟨Int.emod_nonneg y (by omega), Int.emod_lt_of_pos y h1⟩
    have ext : ∀ y : Int, ∀ x ∈ L ++ [y % b], 0 ≤ x ∧ x < b := fun y x hx => by
      rcases List.mem_append.mp hx with hx | hx
      · exact k3 x hx
      · rw [List.mem_singleton.mp hx]; exact bb y
    refine ⟨_, by simp; rfl, s_if (t := decide (1000000000000000000 ≤ c)) (by simp) (fun _ => ?_) fun _ => ?_⟩
    · simp -implicitDefEqProofs
      rw [ss_cons]; simp -implicitDefEqProofs (disch := omega) [mod_int, hL]
      rw [ss_cons]; simp -implicitDefEqProofs (disch := omega) [fdv_int]
      refine ⟨c' / b, L ++ [c' % b], _, by rw [il_snoc], Int.ediv_nonneg k1 (by omega), by simp [k2], ext _⟩
    · simp -implicitDefEqProofs
      rw [ss_cons]; simp -implicitDefEqProofs (disch := omega) [mod_int, fdv_int, mul_l, mul_r, hL]
      refine ⟨c', L ++ [_], _, by rw [il_snoc], k1, by simp [k2], ext _⟩
  · rintro e ⟨c', L, z, rfl, k1, k2, k3⟩
    rw [ss_cons]
    simp [Ret]
    exact ⟨L, rfl, by rw [k2, ranged_len, Int.sub_zero], k3⟩
theorem cell_nn (ns : List Int) (k : Int) : 0 ≤ cell ns k := by
  unfold cell
  split <;> omega

/-! rows: pairs of a state and counts -/
abbrev Row := Int × List Int
def rwD (r : Row) : D := .tuple [.int r.1, il r.2]
def rwsD (l : List Row) : D := .list (l.map rwD)
theorem il_def (xs : List Int) : il xs = PyData.list (xs.map .int) := rfl
theorem rws_snoc (l : List Row) (s : Int) (xs : List Int) : PyData.list (l.map rwD ++ [.tuple [.int s, il xs]]) = rwsD (l ++ [(s, xs)]) := by simp [rwsD, rwD]
def cutI (L : List Int) (a b : Nat) : List Int := (L.drop a).take (b - a)
theorem cutI_len {L : List Int} {a b : Nat} (h : b ≤ L.length) : (cutI L a b).length = b - a := by
  unfold cutI
  rw [List.length_take, List.length_drop]
  omega
theorem cutI_bd {L : List Int} {a b : Nat} {P : Int → Prop} (h : ∀ x ∈ L, P x) : ∀ x ∈ cutI L a b, P x := fun x hx => h x (List.mem_of_mem_drop (List.mem_of_mem_take hx))
theorem gi_cut {L : List Int} {a b j : Nat} (h : j < b - a) : gi (cutI L a b) j = gi L (a + j) := by
  unfold gi cutI
  rw [List.getD_eq_getElem?_getD, List.getD_eq_getElem?_getD, List.getElem?_take, if_pos h, List.getElem?_drop]
theorem sli_i {t : Tag} {L : List Int} {a b : Int} (h1 : 0 ≤ a) (h2 : a ≤ b) (h3 : b ≤ L.length) : evSl (t, il L) (some a) (some b) = .ok (t.kid.root, il (cutI L a.toNat b.toNat)) := by
  show R.ok (t.kid.root, PyData.list (cutD (L.map .int) (some a) (some b))) = _
  unfold cutD
  have e1 : HT.sIx (L.map PyData.int).length 0 (some a) = a.toNat := by
    show (if a < 0 then _ else min a.toNat _) = _
    rw [if_neg (by omega), List.length_map]
    omega
  have e2 : HT.sIx (L.map PyData.int).length (L.map PyData.int).length (some b) = b.toNat := by
    show (if b < 0 then _ else min b.toNat _) = _
    rw [if_neg (by omega), List.length_map]
    omega
  rw [e1, e2, ← List.map_drop, ← List.map_take]
  rfl
theorem rep_rows : ∀ {l : List Row}, (∀ r ∈ l, -1000000000000000000000000 < r.1 ∧ r.1 < 1000000000000000000000000 ∧ ∀ x ∈ r.2, -1000000000000000000000000 < x ∧ x < 1000000000000000000000000) → repAll (l.map rwD) = true
  | [], _ => by simp [repAll]
  | r :: l, h => by
    have hx := h r List.mem_cons_self
    have := rep_rows fun y hy => h y (List.mem_cons_of_mem _ hy)
    simp only [List.map_cons, repAll, rwD, rep, this, il_def, rep_ints hx.2.2, Bool.and_true, decide_eq_true (small_log hx.1 hx.2.1)]
theorem bnd_rows {m : Nat} : ∀ {l : List Row}, (∀ r ∈ l, r.2.length ≤ m) → bndAll (l.map rwD) ≤ l.length * (m * 1923 + 4000)
  | [], _ => by simp [bndAll]
  | r :: l, h => by
    have hx := h r List.mem_cons_self
    have := bnd_rows fun y hy => h y (List.mem_cons_of_mem _ hy)
    simp only [List.map_cons, bndAll, rwD, bnd, bnd_ints, il_def, List.length_cons]
    rw [Nat.add_mul]
    have := Nat.mul_le_mul_right 1923 hx
    omega
theorem depth_rows : ∀ l : List Row, PyData.depthAll (l.map rwD) ≤ 2
  | [] => by simp [PyData.depthAll]
  | r :: l => by
    have := depth_rows l
    simp [PyData.depthAll, PyData.depth, rwD, il_def, depth_ints]
    omega
@[simp] theorem rw0 {t : Tag} {r : Row} : evIx (t, rwD r) (.int 0) = .ok (.sh, .int r.1) := rfl
@[simp] theorem rw1 {t : Tag} {r : Row} : evIx (t, rwD r) (.int 1) = .ok (t.kid, il r.2) := by cases t <;> rfl
theorem rowL_1 {r : Row} : rowL 1 (rwD r) = .ok (1, r.2.map .int) := rfl
theorem rowS_1 {r : Row} {k y : Int} (h : 0 ≤ k) (h2 : k < r.2.length) : rowS (1, r.2.map .int) k (.int y) (rwD r) = .ok (rwD (r.1, r.2.set k.toNat y)) := by
  unfold rowS allS
  rw [if_pos (by rw [List.all_eq_true]; intro x hx; obtain ⟨y, _, rfl⟩ := List.mem_map.mp hx; rfl)]
  show ((placed (r.2.map .int) k).bind fun q => R.ok (putAt (rwD r) 1 (.list ((r.2.map .int).set q.1 (.int y))))) = _
  rw [placed_i h h2]
  show R.ok (PyData.tuple [.int r.1, .list ((r.2.map .int).set k.toNat (.int y))]) = _
  rw [il_set]
  rfl
theorem rowA_1 {r : Row} {y : Int} (h : r.2.length < 16000000) : rowA 1 (.int y) (rwD r) = .ok (rwD (r.1, r.2 ++ [y])) := by
  unfold rowA
  rw [rowL_1]
  show (if (r.2.map PyData.int).length < lim then R.ok (PyData.tuple [.int r.1, .list (r.2.map .int ++ [.int y])]) else .stuck) = _
  rw [if_pos (by rw [List.length_map]; exact h), il_snoc]
  rfl
theorem rws_get {l : List Row} {i : Nat} {d : D} (h : (l.map rwD)[i]? = some d) : ∃ r, l[i]? = some r ∧ d = rwD r := by
  rw [List.getElem?_map, Option.map_eq_some_iff] at h
  obtain ⟨r, hr, rfl⟩ := h
  exact ⟨r, hr, rfl⟩
theorem fold_rws {l : List Row} : PyData.list (l.map rwD) = rwsD l := rfl
theorem sli_any {t : Tag} {L : List Int} {a b : Option Int} : ∃ cs : List Int, cs.length ≤ L.length ∧ evSl (t, il L) a b = .ok (t.kid.root, il cs) := by
  refine ⟨(L.drop (HT.sIx L.length 0 a)).take (HT.sIx L.length L.length b - HT.sIx L.length 0 a), ?_, ?_⟩
  · rw [List.length_take, List.length_drop]
    omega
  · show R.ok (t.kid.root, PyData.list (cutD (L.map .int) a b)) = _
    unfold cutD
    rw [List.length_map, ← List.map_drop, ← List.map_take]
    try rfl

/-! equal data -/
mutual
theorem eqv_refl : ∀ d : D, d.canLay0 = true → PyData.eqv d d = true
  | .none, _ => by simp [PyData.eqv]
  | .bool _, _ => by simp [PyData.eqv]
  | .int _, _ => by simp [PyData.eqv]
  | .str _, _ => by simp [PyData.eqv]
  | .list xs, h => by
    unfold PyData.eqv
    exact eqv_reflAll xs (by simpa only [PyData.canLay0] using h)
  | .tuple xs, h => by
    unfold PyData.eqv
    exact eqv_reflAll xs (by simpa only [PyData.canLay0] using h)
  | .dict _, h => by simp [PyData.canLay0] at h
theorem eqv_reflAll : ∀ xs : List D, PyData.canLayAll0 xs = true → PyData.eqvAll xs xs = true
  | [], _ => by simp [PyData.eqvAll]
  | x :: r, h => by
    simp only [PyData.canLayAll0, Bool.and_eq_true] at h
    unfold PyData.eqvAll
    rw [eqv_refl x h.1, eqv_reflAll r h.2]
    rfl
end
def Shp (d : D) : Prop := SeqAt.shaped d = true
theorem shp_of {d : D} (h : d.canLay0 = true) (h2 : d.depth ≤ 64) : Shp d := by
  unfold Shp SeqAt.shaped
  rw [h, decide_eq_true h2]
  rfl
theorem ne_same {d : D} (h : Shp d) : evCmp .ne d d = .ok false := by
  have e := eqv_refl d (SeqAt.canLay_of_shaped h)
  have go : gB (both d d) (!PyData.eqv d d) = .ok false := by
    rw [e]
    unfold both
    rw [show SeqAt.shaped d = true from h]
    rfl
  cases d with
  | str s => simp [evCmp, evNe]
  | dict _ => cases SeqAt.canLay_of_shaped h
  | _ => exact go
theorem eq_same {d : D} (h : Shp d) : evCmp .eq d d = .ok true := by
  have e := eqv_refl d (SeqAt.canLay_of_shaped h)
  have go : gB (both d d) (PyData.eqv d d) = .ok true := by
    rw [e]
    unfold both
    rw [show SeqAt.shaped d = true from h]
    rfl
  cases d with
  | str s => simp [evCmp, evEq]
  | dict _ => cases SeqAt.canLay_of_shaped h
  | _ => exact go
theorem lay_ints : ∀ xs : List Int, PyData.canLayAll0 (xs.map .int) = true
  | [] => by simp [PyData.canLayAll0]
  | x :: r => by
    simp only [List.map_cons, PyData.canLayAll0, PyData.canLay0, lay_ints r]
    rfl
theorem shp_il (xs : List Int) : Shp (il xs) := shp_of (by simp [PyData.canLay0, il_def, lay_ints]) (by simp [PyData.depth, il_def, depth_ints])
theorem shp_rw (r : Row) : Shp (rwD r) := shp_of (by simp [PyData.canLay0, PyData.canLayAll0, il_def, rwD, lay_ints]) (by simp [PyData.depth, PyData.depthAll, rwD, il_def, depth_ints])
theorem in_il {k : Int} {xs : List Int} : evCmp .inn (.int k) (il xs) = .ok (decide (k ∈ xs)) := by
  show gB (both (.int k) (il xs)) ((xs.map PyData.int).any fun z => PyData.eqv z (.int k)) = _
  have h1 : both (.int k) (il xs) = true := by
    unfold both
    rw [show SeqAt.shaped (il xs) = true from shp_il xs]
    rfl
  rw [h1]
  have : ((xs.map PyData.int).any fun z => PyData.eqv z (.int k)) = decide (k ∈ xs) := by
    rw [List.any_map]
    induction xs with
    | nil => rfl
    | cons a r ih =>
      have h2 : both (.int k) (il r) = true := by
        unfold both
        rw [show SeqAt.shaped (il r) = true from shp_il r]
        rfl
      rw [List.any_cons, ih h2]
      by_cases e : a = k
      · simp [Function.comp, PyData.eqv, e]
      · have e' : ¬ k = a := fun z => e z.symm
        simp [Function.comp, PyData.eqv, e, e']
  rw [this]
  rfl

/-! machines -/
theorem def_exc {G : Gam} {n : Nat} {c : Str} {sz k : Nat} {b : List Sx} {ds : List D} (h : ds.length = k) (q' : Sat (Ret (fun _ _ => False) (fun x => x = c)) (evSs G n b (ds.map Slot.sh ++ List.replicate (sz - ds.length) Slot.no))) : evDef G n sz k b ds = .exc c := by
  have q := q'.go
  unfold evDef
  rw [if_neg (fun z => z h)]
  cases ho : evSs G n b (ds.map Slot.sh ++ List.replicate (sz - ds.length) Slot.no) with
  | nx e => rw [ho] at q; exact (show False from q).elim
  | ret t d => rw [ho] at q; cases t <;> exact (show False from q).elim
  | brk e => rw [ho] at q; exact (show False from q).elim
  | cnt e => rw [ho] at q; exact (show False from q).elim
  | exc c e =>
    rw [ho] at q
    have q : c = _ := q
    rw [q]
  | stuck => rw [ho] at q; exact (show False from q).elim
theorem s_ifE {G : Gam} {n : Nat} {P : Out → Prop} {env : PV.Env} {r : List Sx} {c : Te} {a b : List Sx} {x : Str} (h : evT G c env = .exc x) (k : Sat P (.exc x env)) : Sat P (evSs G n (.ifs c a b :: r) env) := by
  rw [ss_cons]
  show Sat P ((Out.of env (evT G c env) _).then _)
  rw [h]
  exact k
def oD : Option Int → D | none => .none | some i => .int i
abbrev Pr := Int × Int
def prD (p : Pr) : D := .tuple [.int p.1, .int p.2]
def prsD (l : List Pr) : D := .list (l.map prD)
structure Mv where
  s : Int
  p : Int
  t : Int
  q : Int
  o : Option Int
  sh : List Pr
def mvD (m : Mv) : D := .tuple [.int m.s, .int m.p, .int m.t, .int m.q, oD m.o, prsD m.sh]
def PrsOk (pl : Int) (l : List Pr) : Prop := l.length ≤ 6 ∧ ∀ r ∈ l, 0 ≤ r.1 ∧ r.1 < pl ∧ 0 ≤ r.2 ∧ r.2 < pl
def MvOk (st pl : Int) (m : Mv) : Prop := (0 ≤ m.s ∧ m.s < st) ∧ (0 ≤ m.p ∧ m.p < pl) ∧ (0 ≤ m.t ∧ m.t < st) ∧ (0 ≤ m.q ∧ m.q < pl) ∧ (∀ x, m.o = some x → 0 ≤ x ∧ x < pl) ∧ PrsOk pl m.sh
def mcD (st pl s0 : Int) (C : List Int) (w : Int) (ms : List Mv) : D := .tuple [.int st, .int pl, .tuple [.int s0, il C], .int w, .list (ms.map mvD)]
def McOk (st pl s0 : Int) (C : List Int) (w : Int) (ms : List Mv) : Prop := (1 ≤ st ∧ st ≤ 4) ∧ (1 ≤ pl ∧ pl ≤ 6) ∧ (0 ≤ s0 ∧ s0 < st) ∧ (C.length = pl.toNat ∧ ∀ y ∈ C, 0 ≤ y ∧ y ≤ 2) ∧ (0 ≤ w ∧ w < pl) ∧ ms.length ≤ 12 ∧ ∀ m ∈ ms, MvOk st pl m
theorem rep_il {k : Int} {a : Int} : (List.replicate k.toNat [PyData.int a]).flatten = (List.replicate k.toNat a).map .int := by
  generalize k.toNat = n
  induction n with
  | zero => rfl
  | succ n ih => rw [List.replicate_succ, List.flatten_cons, ih, List.replicate_succ]; rfl
theorem lay_prs : ∀ l : List Pr, PyData.canLayAll0 (l.map prD) = true
  | [] => by simp [PyData.canLayAll0]
  | x :: r => by
    simp only [List.map_cons, PyData.canLayAll0, lay_prs r]
    simp [prD, PyData.canLay0, PyData.canLayAll0]
theorem dep_prs : ∀ l : List Pr, PyData.depthAll (l.map prD) ≤ 1
  | [] => by simp [PyData.depthAll]
  | x :: r => by
    have := dep_prs r
    simp [PyData.depthAll, prD, PyData.depth]
    omega
theorem lay_o (o : Option Int) : (oD o).canLay0 = true ∧ (oD o).depth = 0 := by cases o <;> simp [oD, PyData.canLay0, PyData.depth]
theorem lay_mv (m : Mv) : (mvD m).canLay0 = true := by
  simp [mvD, PyData.canLay0, PyData.canLayAll0, prsD, lay_prs, (lay_o m.o).1]
theorem dep_mv (m : Mv) : (mvD m).depth ≤ 3 := by
  have := dep_prs m.sh
  simp [mvD, PyData.depth, PyData.depthAll, prsD, (lay_o m.o).2]
  omega
theorem lay_mvs : ∀ l : List Mv, PyData.canLayAll0 (l.map mvD) = true
  | [] => by simp [PyData.canLayAll0]
  | x :: r => by simp only [List.map_cons, PyData.canLayAll0, lay_mvs r, lay_mv x, Bool.and_true]
theorem dep_mvs : ∀ l : List Mv, PyData.depthAll (l.map mvD) ≤ 3
  | [] => by simp [PyData.depthAll]
  | x :: r => by
    have := dep_mvs r
    have := dep_mv x
    simp [PyData.depthAll]
    omega
theorem nin_mv {m : Mv} {l : List Mv} : ∃ b, evCmp .nin (mvD m) (.list (l.map mvD)) = .ok b := by
  have h : both (mvD m) (.list (l.map mvD)) = true := by
    unfold both
    rw [show SeqAt.shaped (mvD m) = true from shp_of (lay_mv m) (by have := dep_mv m; omega), show SeqAt.shaped (.list (l.map mvD)) = true from shp_of (by simpa only [PyData.canLay0] using lay_mvs l) (by have := dep_mvs l; simp [PyData.depth]; omega)]
    rfl
  refine ⟨_, show gB (both (mvD m) (.list (l.map mvD))) _ = _ from by rw [h]; rfl⟩
theorem take_snoc {α : Type} {l : List α} {i : Nat} {x : α} (h : l[i]? = some x) : l.take (i + 1) = l.take i ++ [x] := by
  rw [List.take_add_one, h]
  rfl
section
variable {t : Tag} {st pl s0 w : Int} {C : List Int} {ms : List Mv} {m : Mv} {p : Pr}
@[simp] theorem mc0 : evIx (t, mcD st pl s0 C w ms) (.int 0) = .ok (.sh, .int st) := by cases t <;> rfl
@[simp] theorem mc1 : evIx (t, mcD st pl s0 C w ms) (.int 1) = .ok (.sh, .int pl) := by cases t <;> rfl
@[simp] theorem mc2 : evIx (t, mcD st pl s0 C w ms) (.int 2) = .ok (t.kid, rwD (s0, C)) := by cases t <;> rfl
@[simp] theorem mc3 : evIx (t, mcD st pl s0 C w ms) (.int 3) = .ok (.sh, .int w) := by cases t <;> rfl
@[simp] theorem mc4 : evIx (t, mcD st pl s0 C w ms) (.int 4) = .ok (t.kid, .list (ms.map mvD)) := by cases t <;> rfl
@[simp] theorem mv0 : evIx (t, mvD m) (.int 0) = .ok (.sh, .int m.s) := by cases t <;> rfl
@[simp] theorem mv1 : evIx (t, mvD m) (.int 1) = .ok (.sh, .int m.p) := by cases t <;> rfl
@[simp] theorem mv2 : evIx (t, mvD m) (.int 2) = .ok (.sh, .int m.t) := by cases t <;> rfl
@[simp] theorem mv3 : evIx (t, mvD m) (.int 3) = .ok (.sh, .int m.q) := by cases t <;> rfl
@[simp] theorem mv4 : evIx (t, mvD m) (.int 4) = .ok (nt t.kid (oD m.o), oD m.o) := by cases t <;> rfl
@[simp] theorem mv5 : evIx (t, mvD m) (.int 5) = .ok (t.kid, prsD m.sh) := by cases t <;> rfl
@[simp] theorem pr0 : evIx (t, prD p) (.int 0) = .ok (.sh, .int p.1) := by cases t <;> rfl
@[simp] theorem pr1 : evIx (t, prD p) (.int 1) = .ok (.sh, .int p.2) := by cases t <;> rfl
@[simp] theorem nt_oD {o : Option Int} : nt t (oD o) = .sh := by cases o <;> rfl
@[simp] theorem nt_mv : nt t (mvD m) = t := rfl
@[simp] theorem nt_rw {r : Row} : nt t (rwD r) = t := rfl
@[simp] theorem nt_mc : nt t (mcD st pl s0 C w ms) = t := rfl
@[simp] theorem isN_oD {o : Option Int} : isNone (oD o) = o.isNone := by cases o <;> rfl
theorem mv_at {k : Nat} (h : ms[k]? = some m) : evIx (t, .list (ms.map mvD)) (.int k) = .ok (t.kid, mvD m) := by
  rw [ixl_at (n := k) (d := mvD m) rfl (by rw [List.getElem?_map, h]; rfl)]
  rfl
@[simp] theorem bt_mv {a b c d e f : Nat} {env : PV.Env} : bindT (.tp [a, b, c, d, e, f]) (.sh, mvD m) env = some ((((((env.set a (.sh (.int m.s))).set b (.sh (.int m.p))).set c (.sh (.int m.t))).set d (.sh (.int m.q))).set e (.sh (oD m.o))).set f (.sh (prsD m.sh))) := rfl
@[simp] theorem bt_rw {a b : Nat} {r : Row} {env : PV.Env} : bindT (.tp [a, b]) (.sh, rwD r) env = some ((env.set a (.sh (.int r.1))).set b (.sh (il r.2))) := rfl
@[simp] theorem bt_pr {a b : Nat} {env : PV.Env} : bindT (.tp [a, b]) (.sh, prD p) env = some ((env.set a (.sh (.int p.1))).set b (.sh (.int p.2))) := rfl
@[simp] theorem src_prs {G : Gam} {e : Ex} {env : PV.Env} {l : List Pr} (h : ev G e env = .ok (t, prsD l)) : evSrc G (.lst e) env = .ok (t, l.map prD) := by
  show (ev G e env).bind _ = _
  rw [h]
  rfl
@[simp] theorem put_rwt {n : Nat} {r : Row} {env : PV.Env} : put env n (.tr, rwD r) = .nx (env.set n (.od (rwD r))) := rfl
@[simp] theorem ct_rwt {r : Row} : callTag .sh .tr (rwD r) = .tr := rfl
@[simp] theorem ownL_il {r : List Slot} {xs : List Int} : ownL (.ow (il xs) :: r) 0 = .ok (xs.map .int) := rfl
end
theorem set_int {xs : List Int} {j : Nat} {y : Int} : (xs.map PyData.int).set j (.int y) = (xs.set j y).map .int := by simp
theorem fold_il {xs : List Int} : PyData.list (xs.map .int) = il xs := rfl
theorem rep_prs : ∀ {l : List Pr}, (∀ r ∈ l, -1000 ≤ r.1 ∧ r.1 ≤ 1000 ∧ -1000 ≤ r.2 ∧ r.2 ≤ 1000) → repAll (l.map prD) = true
  | [], _ => by simp [repAll]
  | r :: l, h => by
    have hx := h r List.mem_cons_self
    have := rep_prs fun y hy => h y (List.mem_cons_of_mem _ hy)
    simp only [List.map_cons, repAll, prD, rep, this, Bool.and_true, decide_eq_true (small_log (i := r.1) (by omega) (by omega)), decide_eq_true (small_log (i := r.2) (by omega) (by omega))]
theorem bnd_prs : ∀ {l : List Pr}, bndAll (l.map prD) ≤ l.length * 4000
  | [] => by simp [bndAll]
  | r :: l => by
    have := bnd_prs (l := l)
    simp only [List.map_cons, bndAll, prD, bnd, List.length_cons]
    omega
theorem rep_mv {st pl : Int} {m : Mv} (h : MvOk st pl m) (h1 : st ≤ 1000) (h2 : pl ≤ 1000) : rep (mvD m) = true := by
  obtain ⟨⟨a1, a2⟩, ⟨p1, p2⟩, ⟨t1, t2⟩, ⟨q1, q2⟩, o1, l1, r1⟩ := h
  have ho : rep (oD m.o) = true := by
    cases ho : m.o with
    | none => simp [oD, rep]
    | some x =>
      have := o1 x ho
      simp only [oD, rep]
      exact decide_eq_true (small_log (by omega) (by omega))
  have hp : repAll (m.sh.map prD) = true := rep_prs fun r hr => by have := r1 r hr; omega
  simp only [mvD, rep, repAll, prsD, ho, hp, Bool.and_true, decide_eq_true (small_log (i := m.s) (by omega) (by omega)), decide_eq_true (small_log (i := m.p) (by omega) (by omega)), decide_eq_true (small_log (i := m.t) (by omega) (by omega)), decide_eq_true (small_log (i := m.q) (by omega) (by omega))]
theorem bnd_mv {m : Mv} (h : m.sh.length ≤ 6) : bnd (mvD m) ≤ 40000 := by
  have := bnd_prs (l := m.sh)
  have ho : bnd (oD m.o) ≤ 1921 := by cases m.o <;> simp [oD, bnd]
  simp [mvD, bnd, bndAll, prsD]
  omega
theorem rep_mvs {st pl : Int} (h1 : st ≤ 1000) (h2 : pl ≤ 1000) : ∀ {l : List Mv}, (∀ m ∈ l, MvOk st pl m) → repAll (l.map mvD) = true
  | [], _ => by simp [repAll]
  | r :: l, h => by
    have := rep_mvs h1 h2 fun y hy => h y (List.mem_cons_of_mem _ hy)
    simp only [List.map_cons, repAll, this, rep_mv (h r List.mem_cons_self) h1 h2, Bool.and_true]
theorem bnd_mvs {st pl : Int} : ∀ {l : List Mv}, (∀ m ∈ l, MvOk st pl m) → bndAll (l.map mvD) ≤ l.length * 40010
  | [], _ => by simp [bndAll]
  | r :: l, h => by
    have := bnd_mvs fun y hy => h y (List.mem_cons_of_mem _ hy)
    have := bnd_mv (m := r) (h r List.mem_cons_self).2.2.2.2.2.1
    simp only [List.map_cons, bndAll, List.length_cons]
    omega

/-! covers, is_above -/
def geq (xs ys : List Int) : Bool := (xs.zip ys).all fun p => decide (p.2 ≤ p.1)
theorem geq_of {xs ys : List Int} (hl : xs.length = ys.length) (h : ∀ j < ys.length, gi ys j ≤ gi xs j) : geq xs ys = true := by
  unfold geq
  rw [List.all_eq_true]
  intro p hp
  obtain ⟨j, hj, e⟩ := List.getElem_of_mem hp
  rw [List.length_zip] at hj
  have := h j (by omega)
  rw [List.getElem_zip] at e
  unfold gi at this
  rw [List.getD_eq_getElem?_getD, List.getD_eq_getElem?_getD, List.getElem?_eq_getElem (by omega), List.getElem?_eq_getElem (by omega)] at this
  subst e
  exact decide_eq_true this
theorem geq_not {xs ys : List Int} {j : Nat} (hj : j < ys.length) (hj2 : j < xs.length) (h : gi xs j < gi ys j) : geq xs ys = false := by
  cases q : geq xs ys with
  | false => rfl
  | true =>
    unfold geq at q
    rw [List.all_eq_true] at q
    have := of_decide_eq_true (q (xs[j], ys[j]) (List.mem_iff_getElem.mpr ⟨j, by rw [List.length_zip]; omega, List.getElem_zip⟩))
    unfold gi at h
    rw [List.getD_eq_getElem?_getD, List.getD_eq_getElem?_getD, List.getElem?_eq_getElem hj, List.getElem?_eq_getElem hj2] at h
    exact absurd h (Int.not_lt.mpr this)
theorem geq_at {xs ys : List Int} (hl : xs.length = ys.length) (h : geq xs ys = true) {j : Nat} (hj : j < ys.length) : gi ys j ≤ gi xs j := by
  by_cases c : gi ys j ≤ gi xs j
  · exact c
  · rw [geq_not hj (by omega) (by omega)] at h
    cases h
theorem geq_refl (xs : List Int) : geq xs xs = true := geq_of rfl fun j _ => Int.le_refl _
theorem geq_trans {a b c : List Int} (h1 : a.length = b.length) (h2 : b.length = c.length) (k1 : geq a b = true) (k2 : geq b c = true) : geq a c = true :=
  geq_of (by omega) fun j hj => by
    have := geq_at h1 k1 (j := j) (by omega)
    have := geq_at h2 k2 hj
    omega
def cvr (a b : Row) : Bool := decide (a.1 = b.1) && geq a.2 b.2
def abv (l : List Row) (r : Row) : Bool := l.any fun e => cvr r e
theorem cvr_refl (r : Row) : cvr r r = true := by simp [cvr, geq_refl]
theorem cvr_iff {a b : Row} (hl : a.2.length = b.2.length) : cvr a b = true ↔ a.1 = b.1 ∧ ∀ j < b.2.length, gi b.2 j ≤ gi a.2 j := by
  unfold cvr
  rw [Bool.and_eq_true, decide_eq_true_eq]
  exact ⟨fun h => ⟨h.1, fun j hj => geq_at hl h.2 hj⟩, fun h => ⟨h.1, geq_of hl h.2⟩⟩
theorem cvr_trans {a b c : Row} (h1 : a.2.length = b.2.length) (h2 : b.2.length = c.2.length) (k1 : cvr a b = true) (k2 : cvr b c = true) : cvr a c = true := by
  unfold cvr at *
  simp only [Bool.and_eq_true, decide_eq_true_eq] at *
  exact ⟨k1.1.trans k2.1, geq_trans h1 h2 k1.2 k2.2⟩
theorem abv_iff {l : List Row} {r : Row} : abv l r = true ↔ ∃ e ∈ l, cvr r e = true := by
  unfold abv
  rw [List.any_eq_true]
theorem abv_up {l : List Row} {a b : Row} (hb : a.2.length = b.2.length) (hl : ∀ e ∈ l, e.2.length = b.2.length) (c : cvr a b = true) (h : abv l b = true) : abv l a = true := by
  obtain ⟨e, he, k⟩ := abv_iff.mp h
  exact abv_iff.mpr ⟨e, he, cvr_trans hb (hl e he).symm c k⟩
theorem abv_app {l m : List Row} {r : Row} : abv (l ++ m) r = (abv l r || abv m r) := List.any_append
theorem cov {a b : Row} (h : a.2.length ≤ 1000) : g_covers [rwD a, rwD b] = .ok (.sh, .bool (cvr a b)) := by
  refine def_is rfl (s_if (t := decide (a.1 ≠ b.1)) (by simp -implicitDefEqProofs) (fun c => ?_) fun c => ?_)
  · have c : a.1 ≠ b.1 := of_decide_eq_true c
    simp -implicitDefEqProofs [ss_cons, c, cvr]
  · have c : a.1 = b.1 := by simpa using c
    have hz : (a.2.zip b.2).length ≤ lim := by rw [List.length_zip]; show _ ≤ 16000000; omega
    rw [List.nil_append, ss_cons, y_ret, frz_nil, x_bi, x_cons, e_map (l := a.2.zip b.2) (w := fun p => .tuple [.int p.1, .int p.2]) (h := fun p => .bool (decide (p.2 ≤ p.1))) (t := .sh) (by simp -implicitDefEqProofs [il_def, zipD_map]) hz fun p _ => by simp -implicitDefEqProofs [cprItem, wipeE]]
    simp -implicitDefEqProofs [all_map, c, geq, cvr]
theorem above_ok {r : Row} {l : List Row} {t : Tag} (h : r.2.length ≤ 1000) (hl : l.length ≤ 16000000) : g_is_above [rwD r, rwsD l] = .ok (.sh, .bool (abv l r)) := by
  refine def_is rfl ?_
  unfold b_is_above
  rw [ss_cons, y_ret, frz_nil, x_bi, x_cons, e_map (l := l) (w := rwD) (h := fun e => .bool (cvr r e)) (t := .sh) (by simp -implicitDefEqProofs [rwsD]) hl fun e _ => by
    have := cov (a := r) (b := e) h
    simp -implicitDefEqProofs [cprItem, wipeE, this]]
  simp -implicitDefEqProofs [any_map, abv]

/-! what is needed before; the sources; the divisions -/
def optd (C : List Int) : Option Int → List Int | none => C | some x => C.set x.toNat (gi C x.toNat - 1)
theorem optd_len {C : List Int} {o : Option Int} : (optd C o).length = C.length := by cases o <;> simp [optd]
def cut0 (c : Int) : Int := if 0 > c then 0 else c
def need (m : Mv) (X : List Int) : List Int := (optd (X.set m.q.toNat (gi X m.q.toNat - 1)) m.o).map cut0
theorem need_len {m : Mv} {X : List Int} : (need m X).length = X.length := by simp [need, optd_len]
theorem needed_ok {st pl : Int} {m : Mv} {X : List Int} (ok : MvOk st pl m) (h : X.length = pl.toNat) (hp : pl ≤ 1000) : g_needed_before [mvD m, il X] = .ok (.ow, il (need m X)) := by
  obtain ⟨_, ⟨p1, p2⟩, _, ⟨q1, q2⟩, o1, _⟩ := ok
  refine def_is rfl ?_
  unfold b_needed_before
  rw [ss_cons]; simp -implicitDefEqProofs [il_def]
  rw [← il_def]
  rw [ss_cons]; simp -implicitDefEqProofs (disch := omega) [placed_i, -List.map_set, set_int, fold_il]
  have ln : (X.set m.q.toNat (gi X m.q.toNat - 1)).length = pl.toNat := by rw [List.length_set, h]
  unfold need
  generalize X.set m.q.toNat (gi X m.q.toNat - 1) = Y at ln
  have fin : ∀ Z : List Int, Z.length = pl.toNat → Sat (Ret (fun o' d' => o' = Tag.ow ∧ d' = il (Z.map cut0)) NoX) (evSs G_least_ones 10000 [.ret [] (.cpr [("count", 3)] (.nm 3) (.lst (.var 2)) .nil (.bi .max (.cons (.var 3) (.cons (.cst (.int 0)) .nil))))] [.sh (mvD m), .sh (il X), .ow (il Z), .no]) := fun Z hZ => by
    rw [ss_cons, y_ret, frz_nil, e_map (l := Z) (w := .int) (h := fun c => .int (cut0 c)) (t := .rt) (by simp -implicitDefEqProofs [il_def]) (by show Z.length ≤ 16000000; omega) fun c _ => by simp -implicitDefEqProofs [cprItem, wipeE, cut0]]
    simp -implicitDefEqProofs [il_def, Function.comp_def]
  cases ho : m.o with
  | none =>
    refine s_if (t := false) (by simp -implicitDefEqProofs [ho]) (fun z => by cases z) fun _ => ?_
    rw [List.nil_append]
    exact fin Y ln
  | some x =>
    obtain ⟨x1, x2⟩ := o1 x ho
    have ex : oD m.o = .int x := by rw [ho]; rfl
    refine s_if (t := true) (by simp -implicitDefEqProofs [ho]) (fun _ => ?_) (fun z => by cases z)
    rw [List.cons_append, ss_cons]; simp -implicitDefEqProofs (disch := omega) [ex, placed_i, -List.map_set, set_int, fold_il]
    exact fin _ (by rw [optd_len, ln])
/-! sources -/
abbrev Gp := Int × List Int
def putI : List Gp → Int → Int → List Gp
  | [], k, v => [(k, [v])]
  | a :: r, k, v => if a.1 = k then (a.1, a.2 ++ [v]) :: r else a :: putI r k v
def grp (sh : List Pr) : List Gp := sh.foldl (fun l p => putI l p.2 p.1) []
def look (l : List Gp) (s : Int) : List Int := ((l.find? fun p => decide (p.1 = s)).map (·.2)).getD []
def enG (p : Gp) : D × D := (.int p.1, il p.2)
theorem grp_snoc {l : List Pr} {p : Pr} : grp (l ++ [p]) = putI (grp l) p.2 p.1 := by
  unfold grp
  rw [List.foldl_append]
  rfl
theorem look_put {k v s : Int} : ∀ {l : List Gp}, look (putI l k v) s = if s = k then look l s ++ [v] else look l s
  | [] => by
    unfold putI look
    by_cases c : s = k
    · subst c; simp
    · have : ¬ k = s := fun z => c z.symm
      simp [c, this]
  | a :: r => by
    unfold putI
    by_cases c : a.1 = k
    · rw [if_pos c]
      by_cases d : s = k
      · have : a.1 = s := by rw [c, d]
        simp [look, d, c]
      · have : ¬ a.1 = s := fun z => d (by rw [← z, c])
        simp [look, d, this]
    · rw [if_neg c]
      by_cases e : a.1 = s
      · have : ¬ s = k := fun z => c (by rw [e, z])
        simp [look, e, this]
      · have := look_put (k := k) (v := v) (s := s) (l := r)
        unfold look at this ⊢
        rw [List.find?_cons, List.find?_cons, decide_eq_false e]
        exact this
theorem keys_put {k v : Int} : ∀ {l : List Gp}, (putI l k v).map (·.1) = if k ∈ l.map (·.1) then l.map (·.1) else l.map (·.1) ++ [k]
  | [] => by simp [putI]
  | a :: r => by
    unfold putI
    by_cases c : a.1 = k
    · rw [if_pos c]
      simp [c]
    · rw [if_neg c, List.map_cons, keys_put (l := r), List.map_cons]
      have : ¬ k = a.1 := fun z => c z.symm
      by_cases d : k ∈ r.map (·.1)
      · rw [if_pos d, if_pos (List.mem_cons_of_mem _ d)]
      · rw [if_neg d, if_neg (by simp only [List.mem_cons, not_or]; exact ⟨this, d⟩)]
        rfl
theorem nd_put {l : List Gp} {k v : Int} (h : (l.map (·.1)).Nodup) : ((putI l k v).map (·.1)).Nodup := by
  rw [keys_put]
  split
  · exact h
  · rename_i c
    rw [List.nodup_append]
    exact ⟨h, by simp, fun a ha b hb e => c (by rw [← List.mem_singleton.mp hb, ← e]; exact ha)⟩
theorem nd_grp (sh : List Pr) : ((grp sh).map (·.1)).Nodup := by
  have : ∀ (sh : List Pr) (l : List Gp), (l.map (·.1)).Nodup → ((sh.foldl (fun l p => putI l p.2 p.1) l).map (·.1)).Nodup := fun sh => by
    induction sh with
    | nil => exact fun l h => h
    | cons p r ih => exact fun l h => ih _ (nd_put h)
  exact this sh [] (by simp)
theorem look_grp (s : Int) : ∀ sh : List Pr, look (grp sh) s = (sh.filter fun p => decide (p.2 = s)).map (·.1) := fun sh => by
  have : ∀ (sh : List Pr) (l : List Gp), look (sh.foldl (fun l p => putI l p.2 p.1) l) s = look l s ++ (sh.filter fun p => decide (p.2 = s)).map (·.1) := fun sh => by
    induction sh with
    | nil => intro l; simp
    | cons p r ih =>
      intro l
      rw [List.foldl_cons, ih, look_put, List.filter_cons]
      by_cases c : p.2 = s
      · have c' : s = p.2 := c.symm
        simp [c]
      · have c' : ¬ s = p.2 := fun z => c z.symm
        simp [c, c']
  rw [grp, this]
  rfl
theorem keys_grp {s : Int} (sh : List Pr) : s ∈ (grp sh).map (·.1) ↔ ∃ p ∈ sh, p.2 = s := by
  have : ∀ (sh : List Pr) (l : List Gp), s ∈ (sh.foldl (fun l p => putI l p.2 p.1) l).map (·.1) ↔ s ∈ l.map (·.1) ∨ ∃ p ∈ sh, p.2 = s := fun sh => by
    induction sh with
    | nil => intro l; simp
    | cons p r ih =>
      intro l
      rw [List.foldl_cons, ih, keys_put]
      constructor
      · rintro (h | ⟨q, hq, e⟩)
        · split at h
          · exact .inl h
          · rcases List.mem_append.mp h with h | h
            · exact .inl h
            · exact .inr ⟨p, List.mem_cons_self, (List.mem_singleton.mp h).symm⟩
        · exact .inr ⟨q, List.mem_cons_of_mem _ hq, e⟩
      · rintro (h | ⟨q, hq, e⟩)
        · refine .inl ?_
          split
          · exact h
          · exact List.mem_append_left _ h
        · rcases List.mem_cons.mp hq with rfl | hq
          · refine .inl ?_
            split
            · rename_i c; rw [← e]; exact c
            · exact List.mem_append_right _ (List.mem_singleton.mpr e.symm)
          · exact .inr ⟨q, hq, e⟩
  rw [grp, this]
  simp
theorem find_none {l : List Gp} {k : Int} (h : k ∉ l.map (·.1)) : dGetK (l.map enG) (Sum.inl k) = none ∧ ((l.map enG).any fun kv => decide (dkey kv.1 = some (Sum.inl k))) = false := by
  induction l with
  | nil => exact ⟨rfl, rfl⟩
  | cons a r ih =>
    rw [List.map_cons, List.mem_cons, not_or] at h
    obtain ⟨h1, h2⟩ := ih h.2
    have n : ¬ (a.1 = k) := fun z => h.1 z.symm
    have ne : decide (dkey (enG a).1 = some (Sum.inl k)) = false := decide_eq_false (fun z => n (Sum.inl.inj (Option.some.inj z)))
    unfold dGetK at h1 ⊢
    rw [List.map_cons, List.find?_cons, List.any_cons, ne]
    exact ⟨h1, h2⟩
theorem find_some {l : List Gp} {k : Int} (h : k ∈ l.map (·.1)) : dGetK (l.map enG) (Sum.inl k) = some (il (look l k)) ∧ ((l.map enG).any fun kv => decide (dkey kv.1 = some (Sum.inl k))) = true := by
  induction l with
  | nil => cases h
  | cons a r ih =>
    rw [List.map_cons, List.mem_cons] at h
    by_cases n : a.1 = k
    · have ye : decide (dkey (enG a).1 = some (Sum.inl k)) = true := decide_eq_true (by rw [← n]; rfl)
      unfold dGetK look
      rw [List.map_cons, List.find?_cons, List.any_cons, ye, List.find?_cons, decide_eq_true n]
      exact ⟨rfl, rfl⟩
    · obtain ⟨h1, h2⟩ := ih (h.resolve_left fun z => n z.symm)
      have ne : decide (dkey (enG a).1 = some (Sum.inl k)) = false := decide_eq_false (fun z => n (Sum.inl.inj (Option.some.inj z)))
      unfold dGetK look at h1 ⊢
      rw [List.map_cons, List.find?_cons, List.any_cons, ne, List.find?_cons, decide_eq_false n]
      exact ⟨h1, by simpa using h2⟩
theorem put_enG {k v : Int} : ∀ {l : List Gp}, (l.map (·.1)).Nodup → dPutK (l.map enG) (Sum.inl k) (il (look l k ++ [v])) = (putI l k v).map enG := fun {l} nd => by
  unfold dPutK
  by_cases h : k ∈ l.map (·.1)
  · rw [if_pos (find_some h).2]
    induction l with
    | nil => cases h
    | cons a r ih =>
      rw [List.map_cons] at nd
      obtain ⟨n1, n2⟩ := List.nodup_cons.mp nd
      unfold putI
      by_cases c : a.1 = k
      · rw [if_pos c, List.map_cons, List.map_cons, List.map_cons]
        have ye : dkey (enG a).1 = some (Sum.inl k) := by rw [← c]; rfl
        rw [if_pos ye]
        have el : look (a :: r) k = a.2 := by simp [look, c]
        rw [el]
        congr 1
        rw [List.map_map]
        refine List.map_congr_left fun q hq => ?_
        have : ¬ q.1 = k := fun z => n1 (by rw [c, ← z]; exact List.mem_map.mpr ⟨q, hq, rfl⟩)
        have nq : ¬ dkey (enG q).1 = some (Sum.inl k) := fun z => this (Sum.inl.inj (Option.some.inj z))
        show (if dkey (enG q).1 = some (Sum.inl k) then _ else _) = _
        rw [if_neg nq]
      · rw [if_neg c, List.map_cons, List.map_cons, List.map_cons]
        have ne : ¬ dkey (enG a).1 = some (Sum.inl k) := fun z => c (Sum.inl.inj (Option.some.inj z))
        have hr : k ∈ r.map (·.1) := (List.mem_cons.mp h).resolve_left fun z => c z.symm
        have el : look (a :: r) k = look r k := by simp [look, c]
        rw [if_neg ne, el, ih n2 hr]
  · rw [(find_none h).2]
    have el : look l k = [] := by
      unfold look
      rw [List.find?_eq_none.mpr fun q hq => by
        rw [decide_eq_true_eq]
        exact fun z => h (by rw [← z]; exact List.mem_map.mpr ⟨q, hq, rfl⟩)]
      rfl
    rw [el]
    clear nd el
    induction l with
    | nil => rfl
    | cons a r ih =>
      rw [List.map_cons, List.mem_cons, not_or] at h
      unfold putI
      have nh : ¬ a.1 = k := fun z => h.1 z.symm
      rw [if_neg nh, List.map_cons, List.map_cons]
      have := ih h.2
      simp only [Bool.false_eq_true, if_false] at this ⊢
      rw [List.map_cons, ← this]
      rfl
theorem put_len {k v : Int} : ∀ {l : List Gp}, (putI l k v).length ≤ l.length + 1
  | [] => by simp [putI]
  | a :: r => by
    unfold putI
    split
    · simp
    · have := put_len (k := k) (v := v) (l := r)
      simp only [List.length_cons]
      omega
theorem grp_len : ∀ sh : List Pr, (grp sh).length ≤ sh.length := fun sh => by
  have : ∀ (sh : List Pr) (l : List Gp), (sh.foldl (fun l p => putI l p.2 p.1) l).length ≤ l.length + sh.length := fun sh => by
    induction sh with
    | nil => intro l; simp
    | cons p r ih =>
      intro l
      have := ih (putI l p.2 p.1)
      have := put_len (k := p.2) (v := p.1) (l := l)
      rw [List.foldl_cons, List.length_cons]
      omega
  have := this sh []
  simpa [grp] using this
def gpD (l : List Gp) : D := .dict (l.map enG)
def sgInv (M : D) (sh : List Pr) (i : Nat) (e : PV.Env) : Prop := ∃ z2 z3 : Slot, e = [.sh M, .od (gpD (grp (sh.take i))), z2, z3]
theorem sources_ok {m : Mv} (h : m.sh.length ≤ 100) : g_sources_of [mvD m] = .ok (.tr, gpD (grp m.sh)) := by
  refine def_is rfl ?_
  unfold b_sources_of
  rw [ss_cons]; simp -implicitDefEqProofs
  refine s_for (t := .sh) (ds := m.sh.map prD) (I := sgInv (mvD m) m.sh) rfl (src_prs (by simp -implicitDefEqProofs)) rfl ⟨_, _, rfl⟩ ?_ ?_
  · rintro i d e hd ⟨z2, z3, rfl⟩
    rw [List.getElem?_map, Option.map_eq_some_iff] at hd
    obtain ⟨r, hr, rfl⟩ := hd
    have hi : i < m.sh.length := (List.getElem?_eq_some_iff.mp hr).1
    refine ⟨_, by simp -implicitDefEqProofs; rfl, ?_⟩
    unfold sgInv
    rw [take_snoc hr, grp_snoc]
    have nd := nd_grp (m.sh.take i)
    have l1 := grp_len (m.sh.take i)
    rw [List.length_take] at l1
    have lk : (look (grp (m.sh.take i)) r.2).length ≤ 100 := by
      rw [look_grp, List.length_map]
      have := List.length_filter_le (fun p : Pr => decide (p.2 = r.2)) (m.sh.take i)
      rw [List.length_take] at this
      omega
    generalize grp (m.sh.take i) = g at nd l1 lk
    have hg : g.length < 16000000 := by omega
    have hk : (look g r.2).length < 16000000 := by omega
    have rw1 : sdRow (g.map enG) (Sum.inl r.2) = .ok ((look g r.2).map .int) := by
      unfold sdRow
      by_cases c : r.2 ∈ g.map (·.1)
      · rw [(find_some c).1]
        rfl
      · rw [(find_none c).1]
        have el : look g r.2 = [] := by
          unfold look
          rw [List.find?_eq_none.mpr fun q hq => by
            rw [decide_eq_true_eq]
            exact fun z => c (by rw [← z]; exact List.mem_map.mpr ⟨q, hq, rfl⟩)]
          rfl
        rw [el]
        rfl
    have pe : dPutK (g.map enG) (Sum.inl r.2) (.list ((look g r.2).map .int ++ [.int r.1])) = (putI g r.2 r.1).map enG := by
      rw [← put_enG nd]
      simp [il_def]
    rw [ss_cons]; simp -implicitDefEqProofs [gpD, rw1, hg, hk]
    rw [pe]
  · rintro e ⟨z2, z3, rfl⟩
    rw [List.length_map, List.take_length]
    rw [ss_cons]; simp -implicitDefEqProofs
/-! divisions -/
def dvs (n : Nat) : Nat → List (List Int)
  | 0 => []
  | 1 => [[(n : Int)]]
  | k + 2 => (List.range (n + 1)).flatMap fun f => (dvs (n - f) (k + 1)).map ((f : Int) :: ·)
theorem dvs_two {n k : Nat} : dvs n (k + 2) = (List.range (n + 1)).flatMap fun f => (dvs (n - f) (k + 1)).map ((f : Int) :: ·) := rfl
def ilsD (l : List (List Int)) : D := .list (l.map il)
def dOut (n k : Nat) (i : Nat) (e : PV.Env) : Prop := ∃ z3 z4 : Slot, e = [.sh (.int n), .sh (.int ((k + 2 : Nat) : Int)), .ow (ilsD ((List.range i).flatMap fun f => (dvs (n - f) (k + 1)).map ((f : Int) :: ·))), z3, z4]
def dIn (q : D → Slot → PV.Env) (R : List (List Int)) (f : Nat) (l : List (List Int)) (i : Nat) (e : PV.Env) : Prop := ∃ z4 : Slot, e = q (ilsD (R ++ (l.take i).map ((f : Int) :: ·))) z4
theorem flat_le {α β : Type} (f : α → List β) {l : List α} {i : Nat} : ((l.take i).flatMap f).length ≤ (l.flatMap f).length := by
  conv => rhs; rw [← List.take_append_drop i l, List.flatMap_append, List.length_append]
  omega
theorem dvs_len : ∀ (k n : Nat), ∀ r ∈ dvs n (k + 1), r.length = k + 1
  | 0, n, r, h => by rw [List.mem_singleton.mp h]; rfl
  | k + 1, n, r, h => by
    rw [dvs_two] at h
    obtain ⟨f, _, h⟩ := List.mem_flatMap.mp h
    obtain ⟨r2, h2, rfl⟩ := List.mem_map.mp h
    rw [List.length_cons, dvs_len k _ _ h2]
theorem div_ok : ∀ (k d n : Nat), k < d → d ≤ 1000 → n ≤ 1000000 → (dvs n (k + 1)).length < 16000000 → gRec G_sources_of "divisions" 10000 5 2 b_divisions d [.int n, .int ((k + 1 : Nat) : Int)] = .ok (.ow, ilsD (dvs n (k + 1)))
  | _, 0, _, h, _, _, _ => absurd h (by omega)
  | 0, d + 1, n, h, hd0, hn, hB => by
    unfold gRec
    refine def_is rfl ?_
    unfold b_divisions
    refine s_if (t := true) (by simp -implicitDefEqProofs) (fun _ => ?_) (fun z => by cases z)
    rw [List.cons_append, ss_cons]
    simp -implicitDefEqProofs [frz_cons, dvs, ilsD, il_def]
  | k + 1, d + 1, n, h, hd0, hn, hB => by
    have hB : (dvs n (k + 2)).length < 16000000 := hB
    have ih := fun (m : Nat) (hm : m ≤ 1000000) (hb : (dvs m (k + 1)).length < 16000000) => div_ok k d m (by omega) (by omega) hm hb
    unfold gRec
    generalize gRec G_sources_of "divisions" 10000 5 2 b_divisions d = gd at ih ⊢
    refine def_is rfl ?_
    unfold b_divisions
    have k1 : ¬ ((k + 1 + 1 : Nat) : Int) = 1 := by omega
    refine s_if (t := false) (by simp -implicitDefEqProofs [k1]; omega) (fun z => by cases z) fun _ => ?_
    rw [List.nil_append, ss_cons]; simp -implicitDefEqProofs
    refine s_for (t := .sh) (ds := ranged 0 ((n : Int) + 1)) (I := dOut n k) rfl (by simp -implicitDefEqProofs (disch := omega) [small_nat]) rfl ⟨_, _, rfl⟩ ?_ ?_
    · rintro i dd e hd ⟨z3, z4, rfl⟩
      have hi : i < n + 1 := by have := (List.getElem?_eq_some_iff.mp hd).1; rw [ranged_len] at this; omega
      rw [ranged_get (by omega)] at hd
      obtain rfl := Option.some.inj hd
      rw [Int.zero_add]
      refine ⟨_, by simp -implicitDefEqProofs; rfl, ?_⟩
      have hlen : ((List.range (i + 1)).flatMap fun f => (dvs (n - f) (k + 1)).map ((f : Int) :: ·)).length ≤ (dvs n (k + 2)).length := by
        have := flat_le (fun f => (dvs (n - f) (k + 1)).map ((f : Int) :: ·)) (l := List.range (n + 1)) (i := i + 1)
        rw [List.take_range, Nat.min_eq_left (by omega)] at this
        rw [dvs_two]
        exact this
      unfold dOut
      rw [List.range_succ, List.flatMap_append] at hlen ⊢
      simp only [List.flatMap_cons, List.flatMap_nil, List.append_nil] at hlen ⊢
      generalize (List.range i).flatMap (fun f => (dvs (n - f) (k + 1)).map ((f : Int) :: ·)) = R at hlen
      rw [List.length_append, List.length_map] at hlen
      have e1 := ih (n - i) (by omega) (by omega)
      rw [show ((n - i : Nat) : Int) = (n : Int) - (i : Int) by omega] at e1
      have hL := dvs_len k (n - i)
      generalize dvs (n - i) (k + 1) = L at e1 hlen hL
      refine s_for (t := .ow) (ds := L.map il) (I := dIn (fun d z4 => [.sh (.int n), .sh (.int ((k + 2 : Nat) : Int)), .ow d, .sh (.int (i : Int)), z4]) R i L) rfl ?_ rfl ⟨z4, by simp⟩ ?_ ?_
      · rw [x_slst, x_call]
        simp -implicitDefEqProofs [add_self]
        rw [show ((k : Int) + 2 - 1) = ((k + 1 : Nat) : Int) by omega, e1]
        simp -implicitDefEqProofs [ilsD]
      · rintro j dd e hd ⟨y4, rfl⟩
        rw [List.getElem?_map, Option.map_eq_some_iff] at hd
        obtain ⟨r, hr, rfl⟩ := hd
        have hj : j < L.length := (List.getElem?_eq_some_iff.mp hr).1
        have hl : (R ++ (L.take j).map ((i : Int) :: ·)).length < 16000000 := by
          rw [List.length_append, List.length_map, List.length_take]
          omega
        unfold dIn
        rw [take_snoc hr, List.map_append, ← List.append_assoc]
        generalize R ++ (L.take j).map ((i : Int) :: ·) = T at hl
        refine ⟨_, by simp -implicitDefEqProofs; rfl, ?_⟩
        have owl : ∀ {l : List Slot}, ownL (.ow (ilsD T) :: l) 0 = .ok (T.map il) := fun {l} => rfl
        have ct : evBin .add (.ow, .list [.int (i : Int)]) (.sh, il r) = .ok (.ow, .list (.int (i : Int) :: r.map .int)) := by
          have hr2 := hL r (List.mem_of_getElem? hr)
          rw [il_def, cat_list (by simp; show _ ≤ 16000000; omega)]
          rfl
        rw [ss_cons]; simp -implicitDefEqProofs [frz_cons, owl, hl, ct]
        simp -implicitDefEqProofs [ilsD, il_def]
      · rintro e ⟨y4, rfl⟩
        rw [List.length_map, List.take_length]
        simp -implicitDefEqProofs
    · rintro e ⟨z3, z4, rfl⟩
      rw [ranged_len, show ((n : Int) + 1 - 0).toNat = n + 1 by omega]
      rw [ss_cons]; simp -implicitDefEqProofs [dvs_two]

/-! spread -/
def setZ (c : List Int) (ps : List (Int × Int)) : List Int := ps.foldl (fun c p => c.set p.1.toNat p.2) c
theorem setZ_len : ∀ (ps : List (Int × Int)) (c : List Int), (setZ c ps).length = c.length
  | [], _ => rfl
  | p :: r, c => by
    show (setZ (c.set p.1.toNat p.2) r).length = _
    rw [setZ_len r, List.length_set]
theorem setZ_snoc {c : List Int} {l : List (Int × Int)} {p : Int × Int} : setZ c (l ++ [p]) = (setZ c l).set p.1.toNat p.2 := by
  unfold setZ
  rw [List.foldl_append]
  rfl
def stage (X : List Int) (p : Gp) (R : List (List Int)) : List (List Int) := R.flatMap fun c => (dvs (gi X p.1.toNat).toNat (p.2.length + 1)).map fun d => setZ c ((p.1 :: p.2).zip d)
def spr (X : List Int) (gs : List Gp) : List (List Int) := gs.foldl (fun R p => stage X p R) [X]
theorem spr_snoc {X : List Int} {gs : List Gp} {p : Gp} : spr X (gs ++ [p]) = stage X p (spr X gs) := by
  unfold spr
  rw [List.foldl_append]
  rfl
def keysS (G : List Gp) : List Int := (G.map (·.1)).mergeSort fun a b => decide (a ≤ b)
def groups (G : List Gp) : List Gp := (keysS G).map fun s => (s, look G s)
theorem keysS_mem {G : List Gp} {s : Int} : s ∈ keysS G ↔ s ∈ G.map (·.1) := (List.mergeSort_perm _ _).mem_iff
theorem keysS_nd {G : List Gp} (h : (G.map (·.1)).Nodup) : (keysS G).Nodup := (List.mergeSort_perm _ _).nodup_iff.mpr h
theorem stage_len {X c : List Int} {p : Gp} {R : List (List Int)} {n : Nat} (h : ∀ c ∈ R, c.length = n) : ∀ c ∈ stage X p R, c.length = n := fun c hc => by
  obtain ⟨r, hr, hc⟩ := List.mem_flatMap.mp hc
  obtain ⟨d, _, rfl⟩ := List.mem_map.mp hc
  rw [setZ_len, h r hr]
theorem spr_len {X : List Int} : ∀ gs : List Gp, ∀ c ∈ spr X gs, c.length = X.length := fun gs => by
  have : ∀ (gs : List Gp) (R : List (List Int)), (∀ c ∈ R, c.length = X.length) → ∀ c ∈ gs.foldl (fun R p => stage X p R) R, c.length = X.length := fun gs => by
    induction gs with
    | nil => exact fun R h => h
    | cons p r ih => exact fun R h => ih _ (stage_len (c := X) h)
  exact this gs [X] fun c hc => by rw [List.mem_singleton.mp hc]
theorem intKs_en : ∀ G : List Gp, intKs (G.map enG) = some (G.map (·.1))
  | [] => rfl
  | a :: r => by
    show (intKs (r.map enG)).map (a.1 :: ·) = _
    rw [intKs_en r]
    rfl
def s0Inv (A B : D) (X : List Int) (gs : List Gp) (i : Nat) (e : PV.Env) : Prop := ∃ z3 z4 z5 z6 z7 z8 z9 z10 : Slot, e = [.sh A, .sh B, .od (ilsD (spr X (gs.take i))), z3, z4, z5, z6, z7, z8, z9, z10]
def s1Inv (q : Slot → D → Slot → Slot → Slot → Slot → Slot → PV.Env) (P : D) (f : List Int → List (List Int)) (R : List (List Int)) (i : Nat) (e : PV.Env) : Prop := ∃ z4 z6 z7 z8 z9 z10 : Slot, e = q z4 (ilsD ((R.take i).flatMap f)) z6 z7 z8 z9 z10 ∧ (z4 = .ow P ∨ z4 = .sh P)
def s2Inv (q : Slot → D → Slot → Slot → Slot → Slot → PV.Env) (P : D) (T : List (List Int)) (g : List Int → List Int) (L : List (List Int)) (i : Nat) (e : PV.Env) : Prop := ∃ z4 z7 z8 z9 z10 : Slot, e = q z4 (ilsD (T ++ (L.take i).map g)) z7 z8 z9 z10 ∧ (z4 = .ow P ∨ z4 = .sh P)
def s3Inv (q : D → Slot → Slot → PV.Env) (c : List Int) (Z : List (Int × Int)) (i : Nat) (e : PV.Env) : Prop := ∃ z9 z10 : Slot, e = q (il (setZ c (Z.take i))) z9 z10
@[simp] theorem ils_map {l : List (List Int)} {t : Tag} {G : Gam} {e : Ex} {env : PV.Env} (h : ev G e env = .ok (t, ilsD l)) : evSrc G (.lst e) env = .ok (t, l.map il) := by
  show (ev G e env).bind _ = _
  rw [h]
  rfl
theorem il_get {l : List (List Int)} {i : Nat} {d : D} (h : (l.map il)[i]? = some d) : ∃ r, l[i]? = some r ∧ d = il r := by
  rw [List.getElem?_map, Option.map_eq_some_iff] at h
  obtain ⟨r, hr, rfl⟩ := h
  exact ⟨r, hr, rfl⟩
theorem spread_ok {X : List Int} {pl : Int} {G : List Gp} (hX : X.length = pl.toNat) (hp : pl ≤ 1000) (nn : ∀ y ∈ X, 0 ≤ y ∧ y ≤ 1000000) (hk : ∀ p ∈ groups G, (0 ≤ p.1 ∧ p.1 < pl) ∧ (∀ f ∈ p.2, 0 ≤ f ∧ f < pl) ∧ p.2.length ≤ 10) (gl : G.length < 64)
    (hB : ∀ n, (spr X ((groups G).take n)).length < 16000000) (hD : ∀ p ∈ groups G, (dvs (gi X p.1.toNat).toNat (p.2.length + 1)).length < 16000000) : g_spread [il X, gpD G] = .ok (.tr, ilsD (spr X (groups G))) := by
  refine def_is rfl ?_
  unfold b_spread
  rw [ss_cons]; simp -implicitDefEqProofs [il_def]
  rw [← il_def, show PyData.list [il X] = ilsD (spr X ((groups G).take 0)) from rfl]
  have esrd : evSrd (.sh, gpD G) = .ok (.ow, .list ((keysS G).map .int)) := by
    show (match intKs (G.map enG) with | some ks => _ | none => _) = _
    rw [intKs_en]
    show PV.guard (decide ((G.map (·.1)).length < 64)) _ = _
    rw [List.length_map, decide_eq_true gl]
    rfl
  refine s_for (t := .ow) (ds := (keysS G).map .int) (I := s0Inv (il X) (gpD G) X (groups G)) rfl (by simp -implicitDefEqProofs [esrd]) rfl ⟨_, _, _, _, _, _, _, _, rfl⟩ ?_ ?_
  · rintro i d e hd ⟨z3, z4, z5, z6, z7, z8, z9, z10, rfl⟩
    rw [List.getElem?_map, Option.map_eq_some_iff] at hd
    obtain ⟨s, hs, rfl⟩ := hd
    have hg : (groups G)[i]? = some (s, look G s) := by unfold groups; rw [List.getElem?_map, hs]; rfl
    have hm := List.mem_of_getElem? hg
    obtain ⟨⟨k1, k2⟩, k3, k4⟩ := hk _ hm
    have k1 : 0 ≤ s := k1
    have k2 : s < pl := k2
    have k3 : ∀ f ∈ look G s, 0 ≤ f ∧ f < pl := k3
    have k4 : (look G s).length ≤ 10 := k4
    have hD0 : (dvs (gi X s.toNat).toNat ((look G s).length + 1)).length < 16000000 := hD _ hm
    have hB1 : (stage X (s, look G s) (spr X ((groups G).take i))).length < 16000000 := by
      have := hB (i + 1)
      rw [take_snoc hg, spr_snoc] at this
      exact this
    have lR := spr_len (X := X) ((groups G).take i)
    have sin : s ∈ G.map (·.1) := keysS_mem.mp (List.mem_of_getElem? hs)
    unfold s0Inv
    rw [take_snoc hg, spr_snoc]
    generalize spr X ((groups G).take i) = R at hB1 lR
    refine ⟨_, by simp -implicitDefEqProofs; rfl, ?_⟩
    have edix : evDix (.sh, gpD G) (.int s) = .ok (.sh, il (look G s)) := by
      show (match dGetK (G.map enG) (Sum.inl s) with | some d => PV.R.ok (nt Tag.sh.kid d, d) | none => PV.R.stuck) = _
      rw [(find_some sin).1]
      rfl
    generalize look G s = F at k3 k4 hD0 hB1 edix
    have ecat : evBin .add (.ow, .list [.int s]) (.sh, il F) = .ok (.ow, il (s :: F)) := by
      rw [il_def, cat_list (by simp; show _ ≤ 16000000; omega)]
      rfl
    have pil : ∀ {e : PV.Env} {n : Nat} {l : List Int}, put e n (.ow, il l) = .nx (e.set n (.ow (il l))) := fun {e n l} => rfl
    rw [ss_cons]; simp -implicitDefEqProofs [frz_cons, edix, ecat, pil]
    rw [ss_cons]; simp -implicitDefEqProofs
    rw [show PyData.list [] = ilsD ((R.take 0).flatMap fun c => (dvs (gi X s.toNat).toNat (F.length + 1)).map fun d => setZ c ((s :: F).zip d)) from rfl]
    refine s_for (t := .sh) (ds := R.map il) (I := s1Inv (fun z4 d z6 z7 z8 z9 z10 => [.sh (il X), .sh (gpD G), .sh (ilsD R), .sh (.int s), z4, .od d, z6, z7, z8, z9, z10]) (il (s :: F)) (fun c => (dvs (gi X s.toNat).toNat (F.length + 1)).map fun d => setZ c ((s :: F).zip d)) R) (by rw [frz_cons]; rfl) (by simp -implicitDefEqProofs [ilsD]) rfl ⟨_, _, _, _, _, _, rfl, .inl rfl⟩ ?_ ?_
    · rintro j d e hd ⟨y4, y6, y7, y8, y9, y10, rfl, h4⟩
      obtain ⟨c, hc, rfl⟩ := il_get hd
      have lc := lR c (List.mem_of_getElem? hc)
      have hB2 : ((R.take (j + 1)).flatMap fun c => (dvs (gi X s.toNat).toNat (F.length + 1)).map fun d => setZ c ((s :: F).zip d)).length < 16000000 := Nat.lt_of_le_of_lt (flat_le _) hB1
      unfold s1Inv
      rw [take_snoc hc, List.flatMap_append] at hB2 ⊢
      simp only [List.flatMap_cons, List.flatMap_nil, List.append_nil] at hB2 ⊢
      generalize (R.take j).flatMap (fun c => (dvs (gi X s.toNat).toNat (F.length + 1)).map fun d => setZ c ((s :: F).zip d)) = T at hB2
      rw [List.length_append, List.length_map] at hB2
      have gx : 0 ≤ gi X s.toNat ∧ gi X s.toNat ≤ 1000000 := gi_bd (P := fun y => 0 ≤ y ∧ y ≤ 1000000) nn ⟨by omega, by omega⟩
      have ed := div_ok F.length 12 (gi X s.toNat).toNat (by omega) (by omega) (by omega) hD0
      rw [show (((gi X s.toNat).toNat : Nat) : Int) = gi X s.toNat by omega] at ed
      have ed : g_divisions [.int (gi X s.toNat), .int ((F.length + 1 : Nat) : Int)] = .ok (.ow, ilsD (dvs (gi X s.toNat).toNat (F.length + 1))) := ed
      rw [show ((F.length + 1 : Nat) : Int) = (F.length : Int) + 1 from by omega] at ed
      have lL := dvs_len F.length (gi X s.toNat).toNat
      generalize dvs (gi X s.toNat).toNat (F.length + 1) = L at hB2 ed lL
      refine ⟨_, by simp -implicitDefEqProofs; rfl, ?_⟩
      refine s_for (t := .ow) (ds := L.map il) (I := s2Inv (fun z4 d z7 z8 z9 z10 => [.sh (il X), .sh (gpD G), .sh (ilsD R), .sh (.int s), z4, .od d, .sh (il c), z7, z8, z9, z10]) (il (s :: F)) T (fun d => setZ c ((s :: F).zip d)) L) rfl ?_ rfl ⟨y4, y7, y8, y9, y10, by simp, h4⟩ ?_ ?_
      · refine ils_map ?_
        rcases h4 with rfl | rfl <;> simp -implicitDefEqProofs (disch := omega) [ixi, ed] <;> rfl
      · rintro a d e hd ⟨x4, x7, x8, x9, x10, rfl, h4⟩
        obtain ⟨dv, hdv, rfl⟩ := il_get hd
        have ha : a < L.length := (List.getElem?_eq_some_iff.mp hdv).1
        have ldv := lL dv (List.mem_of_getElem? hdv)
        have hl : (T ++ (L.take a).map fun d => setZ c ((s :: F).zip d)).length < 16000000 := by rw [List.length_append, List.length_map, List.length_take]; omega
        unfold s2Inv
        rw [take_snoc hdv, List.map_append, ← List.append_assoc]
        generalize T ++ (L.take a).map (fun d => setZ c ((s :: F).zip d)) = U at hl
        refine ⟨_, by simp -implicitDefEqProofs; rfl, ?_⟩
        rw [ss_cons]; simp -implicitDefEqProofs [fold_il, pil]
        refine s_for (t := .sh) (e0 := [.sh (il X), .sh (gpD G), .sh (ilsD R), .sh (.int s), .sh (il (s :: F)), .od (ilsD U), .sh (il c), .sh (il dv), .ow (il c), x9, x10]) (ds := ((s :: F).zip dv).map fun p => .tuple [.int p.1, .int p.2])
          (I := s3Inv (fun d z9 z10 => [.sh (il X), .sh (gpD G), .sh (ilsD R), .sh (.int s), .sh (il (s :: F)), .od (ilsD U), .sh (il c), .sh (il dv), .ow d, z9, z10]) c ((s :: F).zip dv)) ?_ ?_ rfl ⟨_, _, rfl⟩ ?_ ?_
        · rw [frz_cons]
          rcases h4 with rfl | rfl <;> rfl
        · rw [x_zip]
          simp -implicitDefEqProofs [il_def]
          have := zipD_map (fun x : Int => PyData.int x) (fun x : Int => PyData.int x) (s :: F) dv
          simpa using this
        · rintro b d e hd ⟨w9, w10, rfl⟩
          rw [List.getElem?_map, Option.map_eq_some_iff] at hd
          obtain ⟨p, hp2, rfl⟩ := hd
          have hz := List.of_mem_zip (List.mem_of_getElem? hp2)
          have r1 : 0 ≤ p.1 ∧ p.1 < pl := by
            rcases List.mem_cons.mp hz.1 with e | e
            · rw [e]; exact ⟨k1, k2⟩
            · exact k3 _ e
          unfold s3Inv
          rw [take_snoc hp2, setZ_snoc]
          have lz : (setZ c (((s :: F).zip dv).take b)).length = pl.toNat := by rw [setZ_len, lc, hX]
          generalize setZ c (((s :: F).zip dv).take b) = Y at lz
          refine ⟨_, by simp -implicitDefEqProofs; rfl, ?_⟩
          rw [ss_cons]; simp -implicitDefEqProofs (disch := omega) [frz_cons, placed_i, -List.map_set, set_int, fold_il]
        · rintro e ⟨w9, w10, rfl⟩
          rw [List.length_map, List.take_length]
          generalize setZ c ((s :: F).zip dv) = Y
          have ou : asL (ilsD U) = .ok (U.map il) := rfl
          have sn : PyData.list (U.map il ++ [il Y]) = ilsD (U ++ [Y]) := by simp [ilsD]
          rw [ss_cons]; simp -implicitDefEqProofs [ou, hl]
          rw [sn]
          exact ⟨_, ⟨rfl, rfl⟩, .inr rfl⟩
      · rintro e ⟨x4, x7, x8, x9, x10, rfl, h4⟩
        rw [List.length_map, List.take_length]
        simp -implicitDefEqProofs
        exact h4
    · rintro e ⟨y4, y6, y7, y8, y9, y10, rfl, h4⟩
      rw [List.length_map, List.take_length]
      rw [ss_cons]; simp -implicitDefEqProofs
      rfl
  · rintro e ⟨z3, z4, z5, z6, z7, z8, z9, z10, rfl⟩
    have : (groups G).take ((keysS G).map PyData.int).length = groups G := List.take_of_length_le (by simp [groups])
    rw [this]
    rw [ss_cons]; simp -implicitDefEqProofs

/-! predecessors -/
theorem chkb_in {st pl s0 w : Int} {C : List Int} {ms : List Mv} {k : Int} (h1 : 0 ≤ k) (h2 : k < ms.length) : g_check_move_back [mcD st pl s0 C w ms, .int k] = .ok (.sh, .none) := by
  refine def_is rfl ?_
  unfold b_check_move_back
  refine s_if (t := false) (by simp -implicitDefEqProofs [h1, h2]) (fun z => by cases z) fun _ => ?_
  simp -implicitDefEqProofs
theorem alike_ints : ∀ xs ys : List Int, PySem.W.alikeAll (xs.map .int) (ys.map .int) = true
  | [], _ => by simp [PySem.W.alikeAll]
  | _ :: _, [] => by simp [PySem.W.alikeAll]
  | x :: xs, y :: ys => by
    rw [List.map_cons, List.map_cons]
    unfold PySem.W.alikeAll
    rw [alike_ints xs ys]
    simp [PySem.W.alike]
theorem sortOk_ils (l : List (List Int)) : sortOk (l.map il) = true := by
  unfold sortOk
  simp only [Bool.and_eq_true, Bool.or_eq_true, List.all_eq_true, List.mem_map, decide_eq_true_eq]
  refine ⟨⟨?_, .inr ?_⟩, ?_⟩
  · rintro _ ⟨a, _, rfl⟩ _ ⟨b, _, rfl⟩
    simp [il_def, PySem.W.alike, alike_ints]
  · rintro _ ⟨a, _, rfl⟩
    rfl
  · rintro _ ⟨a, _, rfl⟩
    exact ⟨by simp [il_def, PyData.depth, depth_ints], by simp [il_def, PyData.canLay0, lay_ints]⟩
def leI (a b : List Int) : Bool := leD (il a) (il b)
def sortI (l : List (List Int)) : List (List Int) := l.mergeSort leI
theorem sortI_mem {l : List (List Int)} {c : List Int} : c ∈ sortI l ↔ c ∈ l := (List.mergeSort_perm _ _).mem_iff
theorem sort_ils {t : Tag} (l : List (List Int)) : evBi .sorted [(t, ilsD l)] = .ok (t.kid.root, ilsD (sortI l)) := by
  show PV.guard (sortOk (l.map il)) (.ok (t.kid.root, .list ((l.map il).mergeSort leD))) = _
  rw [sortOk_ils, ← List.map_mergeSort (r := leI) (s := leD) (f := il) (fun _ _ _ _ => rfl)]
  rfl
def up1 (p : Nat) (c : List Int) : List Int := c.set p (gi c p + 1)
def blk (m : Mv) (X : List Int) : Bool := m.sh.any fun p => decide (0 < gi X p.1.toNat)
def gps (m : Mv) : List Gp := groups (grp m.sh)
def prs (m : Mv) (g : Row) : List Row := if g.1 = m.t ∧ blk m (need m g.2) = false then (sortI ((spr (need m g.2) (gps m)).map (up1 m.p.toNat))).map fun c => (m.s, c) else []
structure PrSz (m : Mv) (X : List Int) : Prop where
  b : ∀ n, (spr (need m X) ((gps m).take n)).length < 16000000
  d : ∀ p ∈ gps m, (dvs (gi (need m X) p.1.toNat).toNat (p.2.length + 1)).length < 16000000
theorem gps_ok {st pl : Int} {m : Mv} (ok : MvOk st pl m) : ∀ p ∈ gps m, (0 ≤ p.1 ∧ p.1 < pl) ∧ (∀ f ∈ p.2, 0 ≤ f ∧ f < pl) ∧ p.2.length ≤ 10 := fun p hp => by
  obtain ⟨_, _, _, _, _, l1, r1⟩ := ok
  obtain ⟨s, hs, rfl⟩ := List.mem_map.mp hp
  obtain ⟨q, hq, rfl⟩ := (keys_grp m.sh).mp (keysS_mem.mp hs)
  have rq := r1 q hq
  refine ⟨⟨rq.2.2.1, rq.2.2.2⟩, fun f hf => ?_, ?_⟩
  · rw [look_grp] at hf
    obtain ⟨u, hu, rfl⟩ := List.mem_map.mp hf
    have := r1 u (List.mem_filter.mp hu).1
    exact ⟨this.1, this.2.1⟩
  · show (look (grp m.sh) q.2).length ≤ 10
    rw [look_grp, List.length_map]
    have := List.length_filter_le (fun p : Pr => decide (p.2 = q.2)) m.sh
    omega
theorem need_nn {m : Mv} {X : List Int} {B : Int} (hB : 0 ≤ B) (h : ∀ y ∈ X, 0 ≤ y ∧ y ≤ B) : ∀ y ∈ need m X, 0 ≤ y ∧ y ≤ B := fun y hy => by
  obtain ⟨c, hc, rfl⟩ := List.mem_map.mp hy
  have b1 : ∀ y ∈ X.set m.q.toNat (gi X m.q.toNat - 1), y ≤ B := set_bd (fun y hy => (h y hy).2) (by have := gi_bd (n := m.q.toNat) (P := fun y => y ≤ B) (fun y hy => (h y hy).2) hB; omega)
  have b2 : c ≤ B := by
    cases ho : m.o with
    | none => rw [ho] at hc; exact b1 c hc
    | some x =>
      rw [ho] at hc
      exact set_bd b1 (by have := gi_bd (n := x.toNat) (P := fun y => y ≤ B) b1 hB; omega) c hc
  unfold cut0
  split <;> omega
theorem pred_ok {st pl s0 w : Int} {C : List Int} {ms : List Mv} {m : Mv} {k : Nat} {g : Row} (hm : ms[k]? = some m) (hg : g.2.length = pl.toNat) (ok : MvOk st pl m) (hp : pl ≤ 1000) (nn : ∀ y ∈ g.2, 0 ≤ y ∧ y ≤ 1000000) (sz : PrSz m g.2) :
    g_predecessors [mcD st pl s0 C w ms, .int k, rwD g] = .ok (.ow, rwsD (prs m g)) := by
  have hk : (k : Int) < ms.length := by have := (List.getElem?_eq_some_iff.mp hm).1; omega
  have e1 := chkb_in (st := st) (pl := pl) (s0 := s0) (w := w) (C := C) (ms := ms) (k := k) (by omega) hk
  have im : evIx (.sh, .list (ms.map mvD)) (.int (k : Int)) = .ok (.sh, mvD m) := mv_at hm
  have pmv : ∀ {e : PV.Env} {n : Nat}, put e n (.sh, mvD m) = .nx (e.set n (.sh (mvD m))) := fun {e n} => rfl
  have pil : ∀ {e : PV.Env} {n : Nat} {l : List Int}, put e n (.ow, il l) = .nx (e.set n (.ow (il l))) := fun {e n l} => rfl
  have n0 : PyData.list [] = rwsD [] := rfl
  obtain ⟨_, ⟨p1, p2⟩, _, _, _, l1, r1⟩ := id ok
  refine def_is rfl ?_
  unfold b_predecessors
  rw [ss_cons]; simp -implicitDefEqProofs [e1]
  rw [ss_cons]; simp -implicitDefEqProofs [im, pmv]
  refine s_if (t := decide (g.1 ≠ m.t)) (by simp -implicitDefEqProofs) (fun c => ?_) fun c => ?_
  · have c : ¬ g.1 = m.t := of_decide_eq_true c
    have : prs m g = [] := if_neg fun z => c z.1
    rw [List.cons_append, ss_cons]; simp -implicitDefEqProofs [this, rwsD]
  have c : g.1 = m.t := by simpa using c
  have en := needed_ok ok hg hp
  rw [List.nil_append, ss_cons]; simp -implicitDefEqProofs [frz_cons, en, pil]
  have lN : (need m g.2).length = pl.toNat := by rw [need_len, hg]
  have nN := need_nn (m := m) (B := 1000000) (by omega) nn
  refine s_if (t := blk m (need m g.2)) ?_ (fun c2 => ?_) fun c2 => ?_
  · rw [x_tru, x_bi, x_cons, e_map (l := m.sh) (w := prD) (h := fun p => .bool (decide (0 < gi (need m g.2) p.1.toNat))) (t := .sh) (src_prs (by simp -implicitDefEqProofs)) (by show m.sh.length ≤ 16000000; omega) fun p hp => by
      obtain ⟨b1, b2, _, _⟩ := r1 p hp
      simp -implicitDefEqProofs (disch := omega) [cprItem, wipeE, ixi]]
    simp -implicitDefEqProofs [any_map, blk]
  · have : prs m g = [] := if_neg fun z => by rw [z.2] at c2; cases c2
    rw [List.cons_append, ss_cons]; simp -implicitDefEqProofs [this, rwsD]
  rw [List.nil_append, ss_cons]; simp -implicitDefEqProofs
  have es := sources_ok (m := m) (by omega)
  have ep := spread_ok (G := grp m.sh) lN hp nN (gps_ok ok) (by have := grp_len m.sh; omega) sz.b sz.d
  have lS := spr_len (X := need m g.2) (gps m)
  have bS := sz.b (gps m).length
  rw [List.take_length] at bS
  have epr : prs m g = (sortI ((spr (need m g.2) (gps m)).map (up1 m.p.toNat))).map fun c => (m.s, c) := if_pos ⟨c, c2⟩
  rw [epr]
  have ep : g_spread [il (need m g.2), gpD (grp m.sh)] = .ok (.tr, ilsD (spr (need m g.2) (gps m))) := ep
  generalize spr (need m g.2) (gps m) = S at ep lS bS
  have ct1 : callTag .sh .tr (gpD (grp m.sh)) = .tr := rfl
  have ct2 : callTag .sh .tr (ilsD S) = .tr := rfl
  have al : asL (ilsD S) = .ok (S.map il) := rfl
  have ev : eachR (fun d => PV.bump m.p 1 d) (S.map il) = .ok (S.map fun c => il (up1 m.p.toNat c)) := eachR_map fun c hc => by
    have lc := lS c hc
    unfold PV.bump
    have a1 : allS (c.map PyData.int) = .ok (c.map .int) := if_pos (by simp [List.all_map, PV.scal])
    have a2 : asL (il c) = .ok (c.map .int) := rfl
    rw [a2]
    simp -implicitDefEqProofs (disch := omega) [a1, placed_i, -List.map_set, set_int, fold_il, up1]
  rw [ss_cons]; simp -implicitDefEqProofs [frz_cons, es, ep, ct1, ct2, al, bS, ev]
  rw [show PyData.list (S.map fun c => il (up1 m.p.toNat c)) = ilsD (S.map (up1 m.p.toNat)) by simp [ilsD, Function.comp_def]]
  have lS2 : (S.map (up1 m.p.toNat)).length < 16000000 := by rw [List.length_map]; exact bS
  generalize S.map (up1 m.p.toNat) = S2 at lS2
  have so := sort_ils (t := .sh) S2
  have ls : (sortI S2).length ≤ 16000000 := by unfold sortI; rw [List.length_mergeSort]; omega
  generalize sortI S2 = S3 at so ls
  rw [ss_cons, y_ret, frz_cons]
  simp only [at_s, at_0, frz_nil, List.set_cons_zero, List.set_cons_succ]
  rw [e_map (l := S3) (w := il) (h := fun c => rwD (m.s, c)) (t := .ow) (ils_map (by simp -implicitDefEqProofs [so])) ls fun c _ => by
    simp -implicitDefEqProofs [cprItem, wipeE, rwD]]
  simp -implicitDefEqProofs [rwsD, Function.comp_def]

/-! moves -/
def pos (m : Mv) (s : Int) (X : List Int) : Bool := decide (m.s = s) && decide (0 < gi X m.p.toNat)
def sh1 (C : List Int) (p : Pr) : List Int := (C.set p.2.toNat (gi C p.2.toNat + gi C p.1.toNat)).set p.1.toNat 0
def shf (C : List Int) (l : List Pr) : List Int := l.foldl sh1 C
def opt1 (C : List Int) : Option Int → List Int | none => C | some x => C.set x.toNat (gi C x.toNat + 1)
def aft (m : Mv) (X : List Int) : List Int := opt1 ((shf (X.set m.p.toNat (gi X m.p.toNat - 1)) m.sh).set m.q.toNat (gi (shf (X.set m.p.toNat (gi X m.p.toNat - 1)) m.sh) m.q.toNat + 1)) m.o
theorem shf_len : ∀ (l : List Pr) (C : List Int), (shf C l).length = C.length
  | [], _ => rfl
  | p :: r, C => by
    show (shf (sh1 C p) r).length = _
    rw [shf_len r, sh1, List.length_set, List.length_set]
theorem opt1_len {C : List Int} {o : Option Int} : (opt1 C o).length = C.length := by cases o <;> simp [opt1]
theorem aft_len {m : Mv} {X : List Int} : (aft m X).length = X.length := by rw [aft, opt1_len, List.length_set, shf_len, List.length_set]
theorem shf_snoc {C : List Int} {l : List Pr} {p : Pr} : shf C (l ++ [p]) = sh1 (shf C l) p := by
  unfold shf
  rw [List.foldl_append]
  rfl

/-! what predecessors are -/
theorem gi_set {X : List Int} {k j : Nat} {v : Int} (h : k < X.length) : gi (X.set k v) j = if j = k then v else gi X j := by
  unfold gi
  rw [List.getD_eq_getElem?_getD, List.getD_eq_getElem?_getD, List.getElem?_set]
  by_cases c : k = j
  · subst c
    rw [if_pos rfl, if_pos h, if_pos rfl]
    rfl
  · rw [if_neg c, if_neg fun z => c z.symm]
theorem gi_ext {X Y : List Int} (h : X.length = Y.length) (k : ∀ j < Y.length, gi X j = gi Y j) : X = Y := by
  apply List.ext_getElem?
  intro j
  by_cases c : j < Y.length
  · rw [gi_some (by omega), gi_some c, k j c]
  · rw [List.getElem?_eq_none (by omega), List.getElem?_eq_none (by omega)]
theorem dvs_mem : ∀ (k n : Nat) (d : List Int), d ∈ dvs n (k + 1) ↔ d.length = k + 1 ∧ (∀ y ∈ d, 0 ≤ y) ∧ d.sum = n
  | 0, n, d => by
    show d ∈ [[(n : Int)]] ↔ _
    rw [List.mem_singleton]
    constructor
    · rintro rfl
      exact ⟨rfl, fun y hy => by rw [List.mem_singleton.mp hy]; omega, by simp⟩
    · rintro ⟨h1, h2, h3⟩
      match d, h1 with
      | [x], _ => simpa using h3
  | k + 1, n, d => by
    rw [dvs_two, List.mem_flatMap]
    constructor
    · rintro ⟨f, hf, h⟩
      obtain ⟨r, hr, rfl⟩ := List.mem_map.mp h
      obtain ⟨h1, h2, h3⟩ := (dvs_mem k (n - f) r).mp hr
      have hf := List.mem_range.mp hf
      refine ⟨by rw [List.length_cons, h1], fun y hy => ?_, by rw [List.sum_cons, h3]; omega⟩
      rcases List.mem_cons.mp hy with rfl | hy
      · omega
      · exact h2 y hy
    · rintro ⟨h1, h2, h3⟩
      match d, h1 with
      | x :: r, h1 =>
        rw [List.sum_cons] at h3
        have hx := h2 x List.mem_cons_self
        have hr : 0 ≤ r.sum := by
          have : ∀ l : List Int, (∀ y ∈ l, 0 ≤ y) → 0 ≤ l.sum := fun l => by
            induction l with
            | nil => intro _; simp
            | cons a t ih =>
              intro h
              rw [List.sum_cons]
              have := h a List.mem_cons_self
              have := ih fun y hy => h y (List.mem_cons_of_mem _ hy)
              omega
          exact this r fun y hy => h2 y (List.mem_cons_of_mem _ hy)
        refine ⟨x.toNat, List.mem_range.mpr (by omega), List.mem_map.mpr ⟨r, (dvs_mem k _ r).mpr ⟨by simpa using h1, fun y hy => h2 y (List.mem_cons_of_mem _ hy), by omega⟩, by rw [show ((x.toNat : Nat) : Int) = x by omega]⟩⟩
def vals (c : List Int) (L : List Int) : List Int := L.map fun x => gi c x.toNat
theorem setZ_out {z : Nat} : ∀ {L d c : List Int}, (∀ x ∈ L, x.toNat ≠ z) → gi (setZ c (L.zip d)) z = gi c z
  | [], d, c, _ => by simp [setZ]
  | x :: L, [], c, _ => by simp [setZ]
  | x :: L, y :: d, c, h => by
    rw [List.zip_cons_cons]
    show gi (setZ (c.set x.toNat y) (L.zip d)) z = _
    rw [setZ_out fun x hx => h x (List.mem_cons_of_mem _ hx)]
    have hz : z ≠ x.toNat := fun e => h x List.mem_cons_self e.symm
    by_cases hl : x.toNat < c.length
    · rw [gi_set hl, if_neg hz]
    · rw [List.set_eq_of_length_le (by omega)]
theorem setZ_vals : ∀ {L d c : List Int}, d.length = L.length → (L.map Int.toNat).Nodup → (∀ x ∈ L, x.toNat < c.length) → vals (setZ c (L.zip d)) L = d
  | [], [], c, _, _, _ => rfl
  | [], _ :: _, _, h, _, _ => by simp at h
  | _ :: _, [], _, h, _, _ => by simp at h
  | x :: L, y :: d, c, h, nd, hc => by
    rw [List.map_cons] at nd
    obtain ⟨n1, n2⟩ := List.nodup_cons.mp nd
    rw [List.zip_cons_cons]
    show vals (setZ (c.set x.toNat y) (L.zip d)) (x :: L) = _
    unfold vals
    rw [List.map_cons, setZ_out fun u hu e => n1 (by rw [← e]; exact List.mem_map.mpr ⟨u, hu, rfl⟩), gi_set (hc x List.mem_cons_self), if_pos rfl]
    congr 1
    exact setZ_vals (by simpa using h) n2 fun u hu => by rw [List.length_set]; exact hc u (List.mem_cons_of_mem _ hu)
def pcs (p : Gp) : List Int := p.1 :: p.2
/-- c is a way to divide X over the groups -/
structure Way (X : List Int) (gs : List Gp) (c : List Int) : Prop where
  len : c.length = X.length
  nn : ∀ p ∈ gs, ∀ y ∈ vals c (pcs p), 0 ≤ y
  sm : ∀ p ∈ gs, (vals c (pcs p)).sum = gi X p.1.toNat
  out : ∀ z, (∀ p ∈ gs, ∀ x ∈ pcs p, x.toNat ≠ z) → gi c z = gi X z
structure GsOk (n : Nat) (gs : List Gp) : Prop where
  nd : ((gs.flatMap pcs).map Int.toNat).Nodup
  lt : ∀ p ∈ gs, ∀ x ∈ pcs p, x.toNat < n
theorem GsOk.snoc {n : Nat} {gs : List Gp} {p : Gp} (h : GsOk n (gs ++ [p])) : GsOk n gs ∧ ((pcs p).map Int.toNat).Nodup ∧ (∀ x ∈ pcs p, x.toNat < n) ∧ ∀ q ∈ gs, ∀ x ∈ pcs q, ∀ y ∈ pcs p, x.toNat ≠ y.toNat := by
  obtain ⟨nd, lt⟩ := h
  rw [List.flatMap_append, List.map_append, List.nodup_append] at nd
  simp only [List.flatMap_cons, List.flatMap_nil, List.append_nil] at nd
  refine ⟨⟨nd.1, fun q hq => lt q (List.mem_append_left _ hq)⟩, nd.2.1, lt p (List.mem_append_right _ (List.mem_singleton.mpr rfl)), fun q hq x hx y hy => nd.2.2 _ (List.mem_map.mpr ⟨x, List.mem_flatMap.mpr ⟨q, hq, hx⟩, rfl⟩) _ (List.mem_map.mpr ⟨y, hy, rfl⟩)⟩
theorem vals_congr {c c' : List Int} {L : List Int} (h : ∀ x ∈ L, gi c x.toNat = gi c' x.toNat) : vals c L = vals c' L := List.map_congr_left h
theorem way_snoc {X : List Int} (nX : ∀ y ∈ X, 0 ≤ y) {gs : List Gp} {p : Gp} {c : List Int} (ok : GsOk X.length (gs ++ [p])) :
    Way X (gs ++ [p]) c ↔ ∃ c0 d, Way X gs c0 ∧ d ∈ dvs (gi X p.1.toNat).toNat (p.2.length + 1) ∧ c = setZ c0 ((pcs p).zip d) := by
  obtain ⟨ok1, nd, lt, dj⟩ := ok.snoc
  have gX : 0 ≤ gi X p.1.toNat := gi_bd nX (Int.le_refl 0)
  constructor
  · intro h
    have hp : p ∈ gs ++ [p] := List.mem_append_right _ (List.mem_singleton.mpr rfl)
    have lv : (vals X (pcs p)).length = (pcs p).length := List.length_map ..
    have lv2 : (vals c (pcs p)).length = (pcs p).length := List.length_map ..
    have hlt : ∀ x ∈ pcs p, x.toNat < c.length := fun x hx => by rw [h.len]; exact lt x hx
    have e1 : vals (setZ c ((pcs p).zip (vals X (pcs p)))) (pcs p) = vals X (pcs p) := setZ_vals lv nd hlt
    have at1 : ∀ x ∈ pcs p, gi (setZ c ((pcs p).zip (vals X (pcs p)))) x.toNat = gi X x.toNat := fun x hx => by
      have := List.map_inj_left.mp e1 x hx
      exact this
    have out1 : ∀ z, (∀ x ∈ pcs p, x.toNat ≠ z) → gi (setZ c ((pcs p).zip (vals X (pcs p)))) z = gi c z := fun z hz => setZ_out hz
    refine ⟨setZ c ((pcs p).zip (vals X (pcs p))), vals c (pcs p), ⟨by rw [setZ_len, h.len], fun q hq y hy => ?_, fun q hq => ?_, fun z hz => ?_⟩, ?_, ?_⟩
    · rw [vals_congr (c' := c) fun x hx => out1 _ fun u hu e => dj q hq x hx u hu e.symm] at hy
      exact h.nn q (List.mem_append_left _ hq) y hy
    · rw [vals_congr (c' := c) fun x hx => out1 _ fun u hu e => dj q hq x hx u hu e.symm]
      exact h.sm q (List.mem_append_left _ hq)
    · by_cases e : ∃ x ∈ pcs p, x.toNat = z
      · obtain ⟨x, hx, rfl⟩ := e
        exact at1 x hx
      · have e : ∀ x ∈ pcs p, x.toNat ≠ z := fun x hx y => e ⟨x, hx, y⟩
        rw [out1 z e]
        refine h.out z fun q hq => ?_
        rcases List.mem_append.mp hq with hq | hq
        · exact hz q hq
        · rw [List.mem_singleton.mp hq]; exact e
    · refine (dvs_mem _ _ _).mpr ⟨by rw [lv2]; rfl, h.nn p hp, ?_⟩
      rw [h.sm p hp]
      omega
    · refine gi_ext (by rw [setZ_len, setZ_len]) fun z _ => ?_
      by_cases e : ∃ x ∈ pcs p, x.toNat = z
      · obtain ⟨x, hx, rfl⟩ := e
        have := setZ_vals (L := pcs p) (d := vals c (pcs p)) (c := setZ c ((pcs p).zip (vals X (pcs p)))) lv2 nd fun x hx => by rw [setZ_len]; exact hlt x hx
        exact (List.map_inj_left.mp this x hx).symm
      · have e : ∀ x ∈ pcs p, x.toNat ≠ z := fun x hx y => e ⟨x, hx, y⟩
        rw [setZ_out e, out1 z e]
  · rintro ⟨c0, d, h, hd, rfl⟩
    obtain ⟨d1, d2, d3⟩ := (dvs_mem _ _ _).mp hd
    have ev : vals (setZ c0 ((pcs p).zip d)) (pcs p) = d := setZ_vals (by rw [d1]; rfl) nd fun x hx => by rw [h.len]; exact lt x hx
    refine ⟨by rw [setZ_len, h.len], fun q hq => ?_, fun q hq => ?_, fun z hz => ?_⟩
    · rcases List.mem_append.mp hq with hq | hq
      · rw [vals_congr (c' := c0) fun x hx => setZ_out fun u hu e => dj q hq x hx u hu e.symm]
        exact h.nn q hq
      · rw [List.mem_singleton.mp hq, ev]
        exact d2
    · rcases List.mem_append.mp hq with hq | hq
      · rw [vals_congr (c' := c0) fun x hx => setZ_out fun u hu e => dj q hq x hx u hu e.symm]
        exact h.sm q hq
      · rw [List.mem_singleton.mp hq, ev, d3]
        omega
    · rw [setZ_out (hz p (List.mem_append_right _ (List.mem_singleton.mpr rfl)))]
      exact h.out z fun q hq => hz q (List.mem_append_left _ hq)
theorem spr_mem {X : List Int} (nX : ∀ y ∈ X, 0 ≤ y) : ∀ (n : Nat) (gs : List Gp), gs.length = n → GsOk X.length gs → ∀ c, c ∈ spr X gs ↔ Way X gs c
  | 0, gs, hn, _, c => by
    rw [List.length_eq_zero_iff.mp hn]
    show c ∈ [X] ↔ _
    rw [List.mem_singleton]
    constructor
    · rintro rfl
      exact ⟨rfl, (fun p hp => by cases hp), (fun p hp => by cases hp), fun _ _ => rfl⟩
    · intro h
      exact gi_ext h.len fun j _ => h.out j fun p hp => by cases hp
  | n + 1, gs, hn, ok, c => by
    obtain ⟨g, p, rfl⟩ : ∃ g p, gs = g ++ [p] := ⟨gs.dropLast, gs.getLast (by intro e; rw [e] at hn; cases hn), (List.dropLast_concat_getLast _).symm⟩
    have ih := spr_mem nX n g (by simpa using hn) ok.snoc.1
    rw [spr_snoc, way_snoc nX ok]
    unfold stage
    rw [List.mem_flatMap]
    constructor
    · rintro ⟨c0, h0, h⟩
      obtain ⟨d, hd, rfl⟩ := List.mem_map.mp h
      exact ⟨c0, d, (ih c0).mp h0, hd, rfl⟩
    · rintro ⟨c0, d, h0, hd, rfl⟩
      exact ⟨c0, (ih c0).mpr h0, List.mem_map.mpr ⟨d, hd, rfl⟩⟩
/-! the groups of a move -/
structure ShOk (sh : List Pr) : Prop where
  f : (sh.map (·.1)).Nodup
  s : ∀ p ∈ sh, ∀ q ∈ sh, p.2 ≠ q.1
theorem mem_look {sh : List Pr} {s f : Int} : f ∈ look (grp sh) s ↔ (f, s) ∈ sh := by
  rw [look_grp, List.mem_map]
  constructor
  · rintro ⟨p, hp, rfl⟩
    obtain ⟨h1, h2⟩ := List.mem_filter.mp hp
    have h2 := of_decide_eq_true h2
    rw [← h2]
    exact h1
  · intro h
    exact ⟨(f, s), List.mem_filter.mpr ⟨h, decide_eq_true rfl⟩, rfl⟩
theorem mem_gps {m : Mv} {p : Gp} : p ∈ gps m ↔ (∃ q ∈ m.sh, q.2 = p.1) ∧ p.2 = look (grp m.sh) p.1 := by
  unfold gps groups
  rw [List.mem_map]
  constructor
  · rintro ⟨s, hs, rfl⟩
    exact ⟨(keys_grp m.sh).mp (keysS_mem.mp hs), rfl⟩
  · rintro ⟨h1, h2⟩
    exact ⟨p.1, keysS_mem.mpr ((keys_grp m.sh).mpr h1), by rw [← h2]⟩
theorem nd_toNat {l : List Int} (h : l.Nodup) (k : ∀ x ∈ l, 0 ≤ x) : (l.map Int.toNat).Nodup := by
  induction l with
  | nil => simp
  | cons a r ih =>
    obtain ⟨h1, h2⟩ := List.nodup_cons.mp h
    rw [List.map_cons, List.nodup_cons]
    refine ⟨fun e => ?_, ih h2 fun x hx => k x (List.mem_cons_of_mem _ hx)⟩
    obtain ⟨x, hx, e⟩ := List.mem_map.mp e
    have := k x (List.mem_cons_of_mem _ hx)
    have := k a List.mem_cons_self
    exact h1 (by rw [show a = x by omega]; exact hx)
theorem nd_flat {gs : List Gp} : (gs.map (·.1)).Nodup → (∀ p ∈ gs, (pcs p).Nodup) → (∀ p ∈ gs, ∀ q ∈ gs, p.1 ≠ q.1 → ∀ x ∈ pcs p, x ∉ pcs q) → (gs.flatMap pcs).Nodup := by
  induction gs with
  | nil => intro _ _ _; simp
  | cons a r ih =>
    intro h1 h2 h3
    rw [List.map_cons] at h1
    obtain ⟨n1, n2⟩ := List.nodup_cons.mp h1
    rw [List.flatMap_cons, List.nodup_append]
    refine ⟨h2 a List.mem_cons_self, ih n2 (fun p hp => h2 p (List.mem_cons_of_mem _ hp)) fun p hp q hq => h3 p (List.mem_cons_of_mem _ hp) q (List.mem_cons_of_mem _ hq), fun x hx y hy e => ?_⟩
    obtain ⟨q, hq, hy⟩ := List.mem_flatMap.mp hy
    refine h3 a List.mem_cons_self q (List.mem_cons_of_mem _ hq) (fun z => n1 (by rw [z]; exact List.mem_map.mpr ⟨q, hq, rfl⟩)) x hx (by rw [e]; exact hy)
theorem nd_look {sh : List Pr} (h : (sh.map (·.1)).Nodup) (s : Int) : (look (grp sh) s).Nodup := by
  rw [look_grp]
  exact List.Nodup.sublist ((List.filter_sublist).map _) h
theorem gsok_any {st pl : Int} {m : Mv} (ok : MvOk st pl m) (so : ShOk m.sh) {gs : List Gp} (hgs : ∀ p ∈ gs, (∃ q ∈ m.sh, q.2 = p.1) ∧ p.2 = look (grp m.sh) p.1) (nd : (gs.map (·.1)).Nodup) : GsOk pl.toNat gs := by
  obtain ⟨_, _, _, _, _, _, r1⟩ := ok
  have mem : ∀ p ∈ gs, ∀ x ∈ pcs p, 0 ≤ x ∧ x < pl ∧ ((x = p.1) ∨ (x, p.1) ∈ m.sh) := fun p hp x hx => by
    obtain ⟨⟨q, hq, e⟩, el⟩ := hgs p hp
    rcases List.mem_cons.mp hx with rfl | hx
    · have := r1 q hq
      rw [← e]
      exact ⟨this.2.2.1, this.2.2.2, .inl rfl⟩
    · rw [el] at hx
      have hx := mem_look.mp hx
      have := r1 _ hx
      exact ⟨this.1, this.2.1, .inr hx⟩
  refine ⟨nd_toNat (nd_flat nd (fun p hp => ?_) fun p hp q hq n x hx hy => ?_) fun x hx => ?_, fun p hp x hx => by have := mem p hp x hx; omega⟩
  · obtain ⟨⟨q, hq, e⟩, el⟩ := hgs p hp
    refine List.nodup_cons.mpr ⟨fun z => ?_, by rw [el]; exact nd_look so.f _⟩
    rw [el] at z
    exact so.s q hq _ (mem_look.mp z) e
  · obtain ⟨⟨u, hu, eu⟩, _⟩ := hgs p hp
    obtain ⟨⟨v, hv, ev⟩, _⟩ := hgs q hq
    rcases (mem p hp x hx).2.2 with e1 | e1 <;> rcases (mem q hq x hy).2.2 with e2 | e2
    · exact n (e1.symm.trans e2)
    · exact so.s u hu _ e2 (by rw [eu, e1])
    · exact so.s v hv _ e1 (by rw [ev, e2])
    · have : ∀ l : List Pr, (l.map (·.1)).Nodup → ∀ a b c, (a, b) ∈ l → (a, c) ∈ l → b = c := fun l => by
        induction l with
        | nil => intro _ a b c h; cases h
        | cons t r ih =>
          intro nd a b c h1 h2
          rw [List.map_cons] at nd
          obtain ⟨n1, n2⟩ := List.nodup_cons.mp nd
          rcases List.mem_cons.mp h1 with h1 | h1 <;> rcases List.mem_cons.mp h2 with h2 | h2
          · rw [← h1] at h2; exact (Prod.mk.inj h2).2.symm
          · exact absurd (List.mem_map.mpr ⟨_, h2, rfl⟩) (by rw [← h1] at n1; exact n1)
          · exact absurd (List.mem_map.mpr ⟨_, h1, rfl⟩) (by rw [← h2] at n1; exact n1)
          · exact ih n2 a b c h1 h2
      exact n (this _ so.f _ _ _ e1 e2)
  · obtain ⟨p, hp, hx⟩ := List.mem_flatMap.mp hx
    exact (mem p hp x hx).1
theorem gsok_gps {st pl : Int} {m : Mv} (ok : MvOk st pl m) (so : ShOk m.sh) : GsOk pl.toNat (gps m) :=
  gsok_any ok so (fun p hp => mem_gps.mp hp) (by
    unfold gps groups
    rw [List.map_map]
    have : ((fun p : Gp => p.1) ∘ fun s => (s, look (grp m.sh) s)) = id := rfl
    rw [this, List.map_id]
    exact keysS_nd (nd_grp m.sh))

/-! a situation is above the predecessors exactly if the move leads from it to one that covers -/
theorem sh1_len {C : List Int} {p : Pr} : (sh1 C p).length = C.length := by simp [sh1]
theorem gi_sh1 {C : List Int} {p : Pr} {z : Nat} (h1 : p.1.toNat < C.length) (h2 : p.2.toNat < C.length) (hz : z < C.length) : gi (sh1 C p) z = if z = p.1.toNat then 0 else if z = p.2.toNat then gi C p.2.toNat + gi C p.1.toNat else gi C z := by
  unfold sh1
  rw [gi_set (by rw [List.length_set]; exact h1), gi_set h2]
theorem shf_cons {C : List Int} {p : Pr} {r : List Pr} : shf C (p :: r) = shf (sh1 C p) r := rfl
structure ShR (n : Nat) (sh : List Pr) : Prop where
  f : ((sh.map (·.1)).map Int.toNat).Nodup
  s : ∀ p ∈ sh, ∀ q ∈ sh, p.2.toNat ≠ q.1.toNat
  r : ∀ p ∈ sh, p.1.toNat < n ∧ p.2.toNat < n
theorem ShR.tail {n : Nat} {p : Pr} {r : List Pr} (h : ShR n (p :: r)) : ShR n r ∧ (∀ q ∈ r, q.1.toNat ≠ p.1.toNat) := by
  have := h.f
  rw [List.map_cons, List.map_cons] at this
  obtain ⟨n1, n2⟩ := List.nodup_cons.mp this
  exact ⟨⟨n2, fun a ha b hb => h.s a (List.mem_cons_of_mem _ ha) b (List.mem_cons_of_mem _ hb), fun a ha => h.r a (List.mem_cons_of_mem _ ha)⟩, fun q hq e => n1 (by rw [← e]; exact List.mem_map.mpr ⟨q.1, List.mem_map.mpr ⟨q, hq, rfl⟩, rfl⟩)⟩
theorem shf_keep {z : Nat} : ∀ {sh : List Pr} {C : List Int}, ShR C.length sh → z < C.length → (∀ p ∈ sh, p.1.toNat ≠ z) → (∀ p ∈ sh, p.2.toNat ≠ z) → gi (shf C sh) z = gi C z
  | [], _, _, _, _, _ => rfl
  | p :: r, C, h, hz, h1, h2 => by
    have rp := h.r p List.mem_cons_self
    rw [shf_cons, shf_keep (C := sh1 C p) (by rw [sh1_len]; exact h.tail.1) (by rw [sh1_len]; exact hz) (fun q hq => h1 q (List.mem_cons_of_mem _ hq)) (fun q hq => h2 q (List.mem_cons_of_mem _ hq)), gi_sh1 rp.1 rp.2 hz,
      if_neg fun e => h1 p List.mem_cons_self e.symm, if_neg fun e => h2 p List.mem_cons_self e.symm]
theorem shf_first {p : Pr} : ∀ {sh : List Pr} {C : List Int}, ShR C.length sh → p ∈ sh → gi (shf C sh) p.1.toNat = 0
  | [], _, _, h => by cases h
  | q :: r, C, h, hp => by
    have rq := h.r q List.mem_cons_self
    rw [shf_cons]
    have hl : ShR (sh1 C q).length r := by rw [sh1_len]; exact h.tail.1
    rcases List.mem_cons.mp hp with rfl | hp
    · rw [shf_keep hl (by rw [sh1_len]; exact rq.1) (fun u hu => h.tail.2 u hu) (fun u hu => h.s u (List.mem_cons_of_mem _ hu) p List.mem_cons_self), gi_sh1 rq.1 rq.2 rq.1, if_pos rfl]
    · exact shf_first hl hp
theorem shf_sum {z : Nat} : ∀ {sh : List Pr} {C : List Int}, ShR C.length sh → z < C.length → (∀ p ∈ sh, p.1.toNat ≠ z) → gi (shf C sh) z = gi C z + ((sh.filter fun p => decide (p.2.toNat = z)).map fun p => gi C p.1.toNat).sum
  | [], _, _, _, _ => by simp [shf]
  | q :: r, C, h, hz, h1 => by
    have rq := h.r q List.mem_cons_self
    have hl : ShR (sh1 C q).length r := by rw [sh1_len]; exact h.tail.1
    have keep : ∀ u ∈ r, gi (sh1 C q) u.1.toNat = gi C u.1.toNat := fun u hu => by
      rw [gi_sh1 rq.1 rq.2 (h.r u (List.mem_cons_of_mem _ hu)).1, if_neg (h.tail.2 u hu), if_neg fun e => h.s q List.mem_cons_self u (List.mem_cons_of_mem _ hu) e.symm]
    rw [shf_cons, shf_sum hl (by rw [sh1_len]; exact hz) (fun u hu => h1 u (List.mem_cons_of_mem _ hu)), gi_sh1 rq.1 rq.2 hz, if_neg fun e => h1 q List.mem_cons_self e.symm, List.filter_cons]
    have em : ((r.filter fun p => decide (p.2.toNat = z)).map fun p => gi (sh1 C q) p.1.toNat) = (r.filter fun p => decide (p.2.toNat = z)).map fun p => gi C p.1.toNat := List.map_congr_left fun u hu => keep u (List.mem_filter.mp hu).1
    rw [em]
    by_cases c : q.2.toNat = z
    · rw [if_pos c.symm, if_pos (decide_eq_true c), List.map_cons, List.sum_cons, c]
      omega
    · rw [if_neg fun e => c e.symm, decide_eq_false c]
      rfl
theorem shr_of {st pl : Int} {m : Mv} (ok : MvOk st pl m) (so : ShOk m.sh) : ShR pl.toNat m.sh := by
  obtain ⟨_, _, _, _, _, _, r1⟩ := ok
  refine ⟨nd_toNat so.f fun x hx => ?_, fun p hp q hq e => ?_, fun p hp => ?_⟩
  · obtain ⟨p, hp, rfl⟩ := List.mem_map.mp hx
    exact (r1 p hp).1
  · have := r1 p hp
    have := r1 q hq
    exact so.s p hp q hq (by omega)
  · have := r1 p hp
    omega
theorem shf_group {st pl : Int} {m : Mv} {C : List Int} (ok : MvOk st pl m) (so : ShOk m.sh) (hC : C.length = pl.toNat) {p : Gp} (hp : p ∈ gps m) : gi (shf C m.sh) p.1.toNat = (vals C (pcs p)).sum := by
  obtain ⟨⟨q, hq, e⟩, el⟩ := mem_gps.mp hp
  have hr := shr_of ok so
  rw [← hC] at hr
  obtain ⟨_, _, _, _, _, _, r1⟩ := ok
  have rq := r1 q hq
  rw [shf_sum hr (by rw [← e]; omega) (fun u hu z => by have := r1 u hu; exact so.s q hq u hu (by rw [e]; omega))]
  unfold pcs vals
  rw [List.map_cons, List.sum_cons, el, look_grp, List.map_map]
  have ef : (m.sh.filter fun u => decide (u.2.toNat = p.1.toNat)) = m.sh.filter fun u => decide (u.2 = p.1) := List.filter_congr fun u hu => by
    have := r1 u hu
    by_cases c : u.2 = p.1
    · rw [c]; simp
    · rw [decide_eq_false c, decide_eq_false (fun z => c (by omega))]
  rw [ef]
  rfl
def add1 (m : Mv) (z : Nat) : Int := (if z = m.q.toNat then 1 else 0) + (match m.o with | none => 0 | some x => if z = x.toNat then 1 else 0)
theorem aft_get {st pl : Int} {m : Mv} {X : List Int} (ok : MvOk st pl m) (hX : X.length = pl.toNat) {z : Nat} (hz : z < X.length) : gi (aft m X) z = gi (shf (X.set m.p.toNat (gi X m.p.toNat - 1)) m.sh) z + add1 m z := by
  obtain ⟨_, _, _, ⟨q1, q2⟩, o1, _⟩ := ok
  have ln : (shf (X.set m.p.toNat (gi X m.p.toNat - 1)) m.sh).length = pl.toNat := by rw [shf_len, List.length_set, hX]
  unfold aft add1
  generalize shf (X.set m.p.toNat (gi X m.p.toNat - 1)) m.sh = Y at ln
  cases ho : m.o with
  | none =>
    show gi (Y.set m.q.toNat (gi Y m.q.toNat + 1)) z = _
    rw [gi_set (by omega)]
    by_cases c : z = m.q.toNat
    · simp [c]
    · simp [c]
  | some x =>
    have := o1 x ho
    show gi ((Y.set m.q.toNat (gi Y m.q.toNat + 1)).set x.toNat (gi (Y.set m.q.toNat (gi Y m.q.toNat + 1)) x.toNat + 1)) z = _
    rw [gi_set (by rw [List.length_set]; omega), gi_set (by omega), gi_set (by omega)]
    by_cases c : z = x.toNat
    · by_cases d : z = m.q.toNat
      · have d' : x.toNat = m.q.toNat := by omega
        simp [c, d']
        omega
      · have d' : ¬ x.toNat = m.q.toNat := by omega
        simp [c, d']
    · by_cases d : z = m.q.toNat
      · have c' : ¬ m.q.toNat = x.toNat := by omega
        simp [d, c']
      · simp [c, d]
theorem need_get {st pl : Int} {m : Mv} {G : List Int} (ok : MvOk st pl m) (hG : G.length = pl.toNat) {z : Nat} (hz : z < G.length) : gi (need m G) z = cut0 (gi G z - add1 m z) := by
  obtain ⟨_, _, _, ⟨q1, q2⟩, o1, _⟩ := ok
  have em : ∀ Y : List Int, z < Y.length → gi (Y.map cut0) z = cut0 (gi Y z) := fun Y hY => by
    unfold gi
    rw [List.getD_eq_getElem?_getD, List.getD_eq_getElem?_getD, List.getElem?_map, List.getElem?_eq_getElem hY]
    rfl
  unfold need add1
  rw [em _ (by rw [optd_len, List.length_set]; exact hz)]
  congr 1
  cases ho : m.o with
  | none =>
    show gi (G.set m.q.toNat (gi G m.q.toNat - 1)) z = _
    rw [gi_set (by omega)]
    by_cases c : z = m.q.toNat
    · simp [c]
    · simp [c]
  | some x =>
    have := o1 x ho
    show gi ((G.set m.q.toNat (gi G m.q.toNat - 1)).set x.toNat (gi (G.set m.q.toNat (gi G m.q.toNat - 1)) x.toNat - 1)) z = _
    rw [gi_set (by rw [List.length_set]; omega), gi_set (by omega), gi_set (by omega)]
    by_cases c : z = x.toNat
    · by_cases d : z = m.q.toNat
      · have d' : x.toNat = m.q.toNat := by omega
        simp [c, d']
        omega
      · have d' : ¬ x.toNat = m.q.toNat := by omega
        simp [c, d']
    · by_cases d : z = m.q.toNat
      · have c' : ¬ m.q.toNat = x.toNat := by omega
        simp [d, c']
      · simp [c, d]
theorem sum_le : ∀ {V W : List Int}, V.length = W.length → (∀ i < V.length, gi V i ≤ gi W i) → V.sum ≤ W.sum
  | [], [], _, _ => Int.le_refl _
  | [], _ :: _, h, _ => by simp at h
  | _ :: _, [], h, _ => by simp at h
  | v :: V, w :: W, h, k => by
    rw [List.sum_cons, List.sum_cons]
    have h0 : v ≤ w := k 0 (by simp)
    have := sum_le (V := V) (W := W) (by simpa using h) fun i hi => by
      have := k (i + 1) (by simp; omega)
      simpa [gi] using this
    omega
theorem vals_le {c X L : List Int} (h : ∀ x ∈ L, gi c x.toNat ≤ gi X x.toNat) : (vals c L).sum ≤ (vals X L).sum := by
  induction L with
  | nil => exact Int.le_refl _
  | cons a r ih =>
    unfold vals at ih ⊢
    rw [List.map_cons, List.map_cons, List.sum_cons, List.sum_cons]
    have := h a List.mem_cons_self
    have := ih fun x hx => h x (List.mem_cons_of_mem _ hx)
    omega
/-- n divided over places that have enough -/
theorem part_of {X : List Int} : ∀ {L : List Int} {n : Int}, (∀ x ∈ L, 0 ≤ gi X x.toNat) → 0 ≤ n → n ≤ (vals X L).sum → ∃ d : List Int, d.length = L.length ∧ (∀ y ∈ d, 0 ≤ y) ∧ d.sum = n ∧ ∀ q ∈ L.zip d, q.2 ≤ gi X q.1.toNat
  | [], n, _, h0, h1 => ⟨[], rfl, (fun y hy => by cases hy), by simp [vals] at h1; simp; omega, (fun q hq => by cases hq)⟩
  | a :: r, n, nn, h0, h1 => by
    unfold vals at h1
    rw [List.map_cons, List.sum_cons] at h1
    have ha := nn a List.mem_cons_self
    by_cases c : n ≤ gi X a.toNat
    · obtain ⟨d, d1, d2, d3, d4⟩ := part_of (X := X) (L := r) (n := 0) (fun x hx => nn x (List.mem_cons_of_mem _ hx)) (Int.le_refl 0) (by
        have := vals_le (c := []) (X := X) (L := r) fun x hx => by
          have := nn x (List.mem_cons_of_mem _ hx)
          simpa [gi] using this
        have e : (vals [] r).sum = 0 := by
          unfold vals
          clear this nn h1
          induction r with
          | nil => rfl
          | cons b t ih => rw [List.map_cons, List.sum_cons, ih]; simp [gi]
        rw [e] at this
        exact this)
      refine ⟨n :: d, by simp [d1], fun y hy => ?_, by rw [List.sum_cons, d3]; omega, fun q hq => ?_⟩
      · rcases List.mem_cons.mp hy with rfl | hy
        · exact h0
        · exact d2 y hy
      · rw [List.zip_cons_cons] at hq
        rcases List.mem_cons.mp hq with rfl | hq
        · exact c
        · exact d4 q hq
    · obtain ⟨d, d1, d2, d3, d4⟩ := part_of (X := X) (L := r) (n := n - gi X a.toNat) (fun x hx => nn x (List.mem_cons_of_mem _ hx)) (by omega) (by unfold vals; omega)
      refine ⟨gi X a.toNat :: d, by simp [d1], fun y hy => ?_, by rw [List.sum_cons, d3]; omega, fun q hq => ?_⟩
      · rcases List.mem_cons.mp hy with rfl | hy
        · exact ha
        · exact d2 y hy
      · rw [List.zip_cons_cons] at hq
        rcases List.mem_cons.mp hq with rfl | hq
        · exact Int.le_refl _
        · exact d4 q hq
theorem mem_zip_vals {Z : List Int} {x : Int} : ∀ {L : List Int}, x ∈ L → (x, gi Z x.toNat) ∈ L.zip (vals Z L)
  | a :: r, h => by
    show _ ∈ (a :: r).zip (gi Z a.toNat :: vals Z r)
    rw [List.zip_cons_cons]
    rcases List.mem_cons.mp h with rfl | h
    · exact List.mem_cons_self
    · exact List.mem_cons_of_mem _ (mem_zip_vals h)
/-- a way below X -/
theorem way_below {N X : List Int} (nN : ∀ y ∈ N, 0 ≤ y) (nX : ∀ y ∈ X, 0 ≤ y) : ∀ (n : Nat) (gs : List Gp), gs.length = n → GsOk N.length gs → (∀ p ∈ gs, gi N p.1.toNat ≤ (vals X (pcs p)).sum) → ∃ c, Way N gs c ∧ ∀ p ∈ gs, ∀ x ∈ pcs p, gi c x.toNat ≤ gi X x.toNat
  | 0, gs, hn, ok, h => ⟨N, ((spr_mem nN 0 gs hn ok N).mp (by rw [List.length_eq_zero_iff.mp hn]; exact List.mem_singleton.mpr rfl)), fun p hp => by rw [List.length_eq_zero_iff.mp hn] at hp; cases hp⟩
  | n + 1, gs, hn, ok, h => by
    obtain ⟨g, p, rfl⟩ : ∃ g p, gs = g ++ [p] := ⟨gs.dropLast, gs.getLast (by intro e; rw [e] at hn; cases hn), (List.dropLast_concat_getLast _).symm⟩
    obtain ⟨ok1, nd, lt, dj⟩ := ok.snoc
    obtain ⟨c0, w0, b0⟩ := way_below nN nX n g (by simpa using hn) ok1 fun q hq => h q (List.mem_append_left _ hq)
    have gN : 0 ≤ gi N p.1.toNat := gi_bd nN (Int.le_refl 0)
    obtain ⟨d, d1, d2, d3, d4⟩ := part_of (X := X) (L := pcs p) (n := gi N p.1.toNat) (fun x _ => gi_bd nX (Int.le_refl 0)) gN (h p (List.mem_append_right _ (List.mem_singleton.mpr rfl)))
    have ev : vals (setZ c0 ((pcs p).zip d)) (pcs p) = d := setZ_vals d1 nd fun x hx => by rw [w0.len]; exact lt x hx
    refine ⟨setZ c0 ((pcs p).zip d), (way_snoc nN ok).mpr ⟨c0, d, w0, (dvs_mem _ _ _).mpr ⟨by rw [d1]; rfl, d2, by rw [d3]; omega⟩, rfl⟩, fun q hq x hx => ?_⟩
    rcases List.mem_append.mp hq with hq | hq
    · rw [setZ_out fun u hu e => dj q hq x hx u hu e.symm]
      exact b0 q hq x hx
    · rw [List.mem_singleton.mp hq] at hx
      have mz : (x, gi (setZ c0 ((pcs p).zip d)) x.toNat) ∈ (pcs p).zip d := by
        have := mem_zip_vals (Z := setZ c0 ((pcs p).zip d)) hx
        rwa [ev] at this
      exact d4 _ mz
theorem pre_spec {st pl : Int} {m : Mv} {g r : Row} (ok : MvOk st pl m) (so : ShOk m.sh) (hg : g.2.length = pl.toNat) (hr : r.2.length = pl.toNat) (nr : ∀ y ∈ r.2, 0 ≤ y) :
    abv (prs m g) r = true ↔ pos m r.1 r.2 = true ∧ cvr (m.t, aft m r.2) g = true := by
  obtain ⟨_, ⟨p1, p2⟩, _, _, _, _, r1⟩ := id ok
  have nN : ∀ y ∈ need m g.2, 0 ≤ y := fun y hy => by
    obtain ⟨c, _, rfl⟩ := List.mem_map.mp hy
    unfold cut0
    split <;> omega
  have lN : (need m g.2).length = pl.toNat := by rw [need_len, hg]
  have gok : GsOk (need m g.2).length (gps m) := by rw [lN]; exact gsok_gps ok so
  have mem : ∀ e : Row, e ∈ prs m g ↔ g.1 = m.t ∧ blk m (need m g.2) = false ∧ ∃ c, Way (need m g.2) (gps m) c ∧ e = (m.s, up1 m.p.toNat c) := fun e => by
    unfold prs
    by_cases c : g.1 = m.t ∧ blk m (need m g.2) = false
    · rw [if_pos c, List.mem_map]
      constructor
      · rintro ⟨x, hx, rfl⟩
        obtain ⟨y, hy, rfl⟩ := List.mem_map.mp (sortI_mem.mp hx)
        exact ⟨c.1, c.2, y, (spr_mem nN _ _ rfl gok y).mp hy, rfl⟩
      · rintro ⟨_, _, y, hy, rfl⟩
        exact ⟨_, sortI_mem.mpr (List.mem_map.mpr ⟨y, (spr_mem nN _ _ rfl gok y).mpr hy, rfl⟩), rfl⟩
    · rw [if_neg c]
      constructor
      · intro h; cases h
      · rintro ⟨h1, h2, _⟩; exact absurd ⟨h1, h2⟩ c
  have laft : (aft m r.2).length = g.2.length := by rw [aft_len, hr, hg]
  have lX' : (r.2.set m.p.toNat (gi r.2 m.p.toNat - 1)).length = pl.toNat := by rw [List.length_set, hr]
  have hsr := shr_of ok so
  rw [← lX'] at hsr
  have blkF : blk m (need m g.2) = false ↔ ∀ q ∈ m.sh, gi (need m g.2) q.1.toNat ≤ 0 := by
    unfold blk
    rw [List.any_eq_false]
    exact ⟨fun h q hq => by have := h q hq; simp at this; omega, fun h q hq => by have := h q hq; simp; omega⟩
  -- the middle
  have mid : 0 < gi r.2 m.p.toNat → ((∀ z < pl.toNat, gi g.2 z ≤ gi (aft m r.2) z) ↔ ∀ z < pl.toNat, gi (need m g.2) z ≤ gi (shf (r.2.set m.p.toNat (gi r.2 m.p.toNat - 1)) m.sh) z) := fun hp0 => by
    have nX' : ∀ y ∈ r.2.set m.p.toNat (gi r.2 m.p.toNat - 1), 0 ≤ y := set_bd nr (by omega)
    have nS : ∀ z < pl.toNat, 0 ≤ gi (shf (r.2.set m.p.toNat (gi r.2 m.p.toNat - 1)) m.sh) z := fun z hz => by
      by_cases c : ∃ q ∈ m.sh, q.1.toNat = z
      · obtain ⟨q, hq, rfl⟩ := c
        rw [shf_first hsr hq]
        exact Int.le_refl 0
      · rw [shf_sum hsr (by omega) fun q hq e => c ⟨q, hq, e⟩]
        have := gi_bd (n := z) nX' (Int.le_refl 0)
        have : ∀ l : List Pr, 0 ≤ (l.map fun p => gi (r.2.set m.p.toNat (gi r.2 m.p.toNat - 1)) p.1.toNat).sum := fun l => by
          induction l with
          | nil => simp
          | cons a t ih =>
            rw [List.map_cons, List.sum_cons]
            have := gi_bd (n := a.1.toNat) nX' (Int.le_refl 0)
            omega
        have := this (m.sh.filter fun p => decide (p.2.toNat = z))
        omega
    refine forall_congr' fun z => forall_congr' fun hz => ?_
    rw [aft_get ok hr (by omega), need_get ok hg (by omega)]
    have := nS z hz
    unfold cut0
    split <;> omega
  rw [abv_iff]
  constructor
  · rintro ⟨e, he, ce⟩
    obtain ⟨h1, h2, c, wc, rfl⟩ := (mem e).mp he
    have lc : c.length = pl.toNat := by rw [wc.len, lN]
    obtain ⟨c1, c2⟩ := (cvr_iff (by show r.2.length = (up1 m.p.toNat c).length; rw [up1, List.length_set, lc, hr])).mp ce
    have c1 : r.1 = m.s := c1
    have c2 : ∀ j < pl.toNat, gi (up1 m.p.toNat c) j ≤ gi r.2 j := fun j hj => c2 j (by show j < (up1 m.p.toNat c).length; rw [up1, List.length_set, lc]; exact hj)
    -- the counts of c are not negative
    have nc : ∀ z < pl.toNat, 0 ≤ gi c z := fun z hz => by
      by_cases q : ∃ p ∈ gps m, ∃ x ∈ pcs p, x.toNat = z
      · obtain ⟨p, hp, x, hx, rfl⟩ := q
        exact wc.nn p hp _ (List.mem_map.mpr ⟨x, hx, rfl⟩)
      · rw [wc.out z fun p hp x hx e => q ⟨p, hp, x, hx, e⟩]
        exact gi_bd nN (Int.le_refl 0)
    have at0 := c2 m.p.toNat (by omega)
    unfold up1 at at0 c2
    rw [gi_set (by omega), if_pos rfl] at at0
    have := nc m.p.toNat (by omega)
    have hp0 : 0 < gi r.2 m.p.toNat := by omega
    have below : ∀ z < pl.toNat, gi c z ≤ gi (r.2.set m.p.toNat (gi r.2 m.p.toNat - 1)) z := fun z hz => by
      have := c2 z hz
      rw [gi_set (by omega)] at this ⊢
      by_cases e : z = m.p.toNat
      · rw [if_pos e] at this ⊢
        subst e
        omega
      · rw [if_neg e] at this ⊢
        exact this
    refine ⟨by unfold pos; rw [decide_eq_true c1.symm, decide_eq_true hp0]; rfl, (cvr_iff laft).mpr ⟨h1.symm, fun z hz => ?_⟩⟩
    rw [hg] at hz
    refine (mid hp0).mpr (fun z hz => ?_) z hz
    by_cases q1 : ∃ q ∈ m.sh, q.1.toNat = z
    · obtain ⟨q, hq, rfl⟩ := q1
      rw [shf_first hsr hq]
      exact blkF.mp h2 q hq
    · by_cases q2 : ∃ q ∈ m.sh, q.2.toNat = z
      · obtain ⟨q, hq, rfl⟩ := q2
        have hp : (q.2, look (grp m.sh) q.2) ∈ gps m := mem_gps.mpr ⟨⟨q, hq, rfl⟩, rfl⟩
        rw [shf_group ok so lX' hp, ← wc.sm _ hp]
        refine vals_le fun x hx => below _ ?_
        have := gok.lt _ hp x hx
        omega
      · rw [shf_keep hsr (by omega) (fun q hq e => q1 ⟨q, hq, e⟩) (fun q hq e => q2 ⟨q, hq, e⟩), ← wc.out z fun p hp x hx e => ?_]
        · exact below z hz
        · obtain ⟨⟨q, hq, e1⟩, el⟩ := mem_gps.mp hp
          rcases List.mem_cons.mp hx with rfl | hx
          · exact q2 ⟨q, hq, by rw [e1]; exact e⟩
          · rw [el] at hx
            exact q1 ⟨_, mem_look.mp hx, e⟩
  · rintro ⟨hp, hc⟩
    unfold pos at hp
    rw [Bool.and_eq_true, decide_eq_true_eq, decide_eq_true_eq] at hp
    obtain ⟨hs, hp0⟩ := hp
    obtain ⟨h1, h2⟩ := (cvr_iff laft).mp hc
    have h3 := (mid hp0).mp fun z hz => h2 z (by rw [hg]; exact hz)
    have nX' : ∀ y ∈ r.2.set m.p.toNat (gi r.2 m.p.toNat - 1), 0 ≤ y := set_bd nr (by omega)
    have hb : blk m (need m g.2) = false := blkF.mpr fun q hq => by
      have := h3 q.1.toNat (by have := r1 q hq; omega)
      rwa [shf_first hsr hq] at this
    obtain ⟨c, wc, bc⟩ := way_below nN nX' _ _ rfl gok fun p hp => by
      have := h3 p.1.toNat (by have := gok.lt p hp p.1 List.mem_cons_self; omega)
      rwa [shf_group ok so lX' hp] at this
    have lc : c.length = pl.toNat := by rw [wc.len, lN]
    refine ⟨_, (mem _).mpr ⟨h1.symm, hb, c, wc, rfl⟩, (cvr_iff (by show r.2.length = (up1 m.p.toNat c).length; rw [up1, List.length_set, lc, hr])).mpr ⟨hs.symm, fun z hz => ?_⟩⟩
    have hz : z < pl.toNat := by
      have : z < (up1 m.p.toNat c).length := hz
      rwa [up1, List.length_set, lc] at this
    have below : gi c z ≤ gi (r.2.set m.p.toNat (gi r.2 m.p.toNat - 1)) z := by
      by_cases q : ∃ p ∈ gps m, ∃ x ∈ pcs p, x.toNat = z
      · obtain ⟨p, hp, x, hx, rfl⟩ := q
        exact bc p hp x hx
      · rw [wc.out z fun p hp x hx e => q ⟨p, hp, x, hx, e⟩]
        have := h3 z hz
        rwa [shf_keep hsr (by omega) (fun u hu e => q ⟨(u.2, look (grp m.sh) u.2), mem_gps.mpr ⟨⟨u, hu, rfl⟩, rfl⟩, u.1, List.mem_cons_of_mem _ (mem_look.mpr hu), e⟩) (fun u hu e => q ⟨(u.2, look (grp m.sh) u.2), mem_gps.mpr ⟨⟨u, hu, rfl⟩, rfl⟩, u.2, List.mem_cons_self, e⟩)] at this
    show gi (up1 m.p.toNat c) z ≤ gi r.2 z
    unfold up1
    rw [gi_set (by omega)] at below ⊢
    by_cases e : z = m.p.toNat
    · rw [if_pos e] at below ⊢
      subst e
      omega
    · rw [if_neg e] at below ⊢
      exact below

/-! how many predecessors -/
def dl (n k : Nat) : Nat := (dvs n k).length
theorem dl_one {n : Nat} : dl n 1 = 1 := rfl
theorem dl_two {n k : Nat} : dl n (k + 2) = ((List.range (n + 1)).map fun f => dl (n - f) (k + 1)).sum := by
  unfold dl
  rw [dvs_two, List.length_flatMap]
  simp
theorem sumN_le {f g : Nat → Nat} : ∀ n : Nat, (∀ i < n, f i ≤ g i) → ((List.range n).map f).sum ≤ ((List.range n).map g).sum
  | 0, _ => Nat.le_refl _
  | n + 1, h => by
    rw [List.range_succ, List.map_append, List.map_append, List.sum_append, List.sum_append]
    have := sumN_le n fun i hi => h i (by omega)
    have := h n (by omega)
    simp
    omega
theorem dl_pos : ∀ (k n : Nat), 1 ≤ dl n (k + 1)
  | 0, n => Nat.le_refl _
  | k + 1, n => by
    rw [dl_two, List.range_succ_eq_map, List.map_cons, List.sum_cons]
    have := dl_pos k (n - 0)
    omega
theorem dl_k {n k : Nat} : dl n (k + 1) ≤ dl n (k + 2) := by
  rw [dl_two, List.range_succ_eq_map, List.map_cons, List.sum_cons]
  show dl n (k + 1) ≤ dl n (k + 1) + _
  omega
theorem dl_ks {n k : Nat} : ∀ j : Nat, dl n (k + 1) ≤ dl n (k + j + 1)
  | 0 => Nat.le_refl _
  | j + 1 => Nat.le_trans (dl_ks j) dl_k
theorem sumN_add {f : Nat → Nat} (a b : Nat) : ((List.range a).map f).sum ≤ ((List.range (a + b)).map f).sum := by
  rw [List.range_add, List.map_append, List.sum_append]
  omega
theorem dl_n : ∀ (k n d : Nat), dl n (k + 1) ≤ dl (n + d) (k + 1)
  | 0, n, d => Nat.le_refl _
  | k + 1, n, d => by
    rw [dl_two, dl_two]
    refine Nat.le_trans (sumN_le (g := fun f => dl (n + d - f) (k + 1)) (n + 1) fun i hi => ?_) ?_
    · have := dl_n k (n - i) d
      rw [show n - i + d = n + d - i by omega] at this
      exact this
    · have := sumN_add (f := fun f => dl (n + d - f) (k + 1)) (n + 1) d
      rw [show n + 1 + d = n + d + 1 by omega] at this
      exact this
theorem dl_mono {n m k j : Nat} (h1 : n ≤ m) (h2 : k ≤ j) (h3 : 1 ≤ k) : dl n k ≤ dl m j := by
  obtain ⟨k', rfl⟩ : ∃ k', k = k' + 1 := ⟨k - 1, by omega⟩
  have a := dl_n k' n (m - n)
  rw [show n + (m - n) = m by omega] at a
  have b := dl_ks (n := m) (k := k') (j - (k' + 1))
  rw [show k' + (j - (k' + 1)) + 1 = j by omega] at b
  exact Nat.le_trans a b
theorem sumN_mul {f : Nat → Nat} {c : Nat} : ∀ n : Nat, ((List.range n).map f).sum * c = ((List.range n).map fun i => f i * c).sum
  | 0 => by simp
  | n + 1 => by
    rw [List.range_succ, List.map_append, List.map_append, List.sum_append, List.sum_append, Nat.add_mul, sumN_mul n]
    simp
theorem dl_mul : ∀ (i a b j : Nat), dl a (i + 1) * dl b (j + 1) ≤ dl (a + b) (i + j + 2)
  | 0, a, b, j => by
    rw [dl_one, Nat.one_mul, show 0 + j + 2 = j + 2 by omega, dl_two]
    have : ∀ (n m : Nat) (f : Nat → Nat), m < n → f m ≤ ((List.range n).map f).sum := fun n m f h => by
      have := sumN_add (f := f) (m + 1) (n - (m + 1))
      rw [show m + 1 + (n - (m + 1)) = n by omega] at this
      refine Nat.le_trans ?_ this
      rw [List.range_succ, List.map_append, List.sum_append]
      simp
    have h := this (a + b + 1) a (fun f => dl (a + b - f) (j + 1)) (by omega)
    have h : dl (a + b - a) (j + 1) ≤ _ := h
    rwa [show a + b - a = b by omega] at h
  | i + 1, a, b, j => by
    rw [dl_two, sumN_mul, show i + 1 + j + 2 = (i + j + 1) + 2 by omega, dl_two]
    refine Nat.le_trans (sumN_le (g := fun f => dl (a + b - f) (i + j + 2)) (a + 1) fun f hf => ?_) ?_
    · have := dl_mul i (a - f) b j
      rw [show a - f + b = a + b - f by omega] at this
      exact this
    · have := sumN_add (f := fun f => dl (a + b - f) (i + j + 2)) (a + 1) b
      rw [show a + 1 + b = a + b + 1 by omega] at this
      exact this
theorem stage_size {X : List Int} {p : Gp} {R : List (List Int)} : (stage X p R).length = R.length * dl (gi X p.1.toNat).toNat (p.2.length + 1) := by
  unfold stage dl
  rw [List.length_flatMap]
  induction R with
  | nil => simp
  | cons a r ih =>
    rw [List.map_cons, List.sum_cons, ih, List.length_map, List.length_cons, Nat.add_mul]
    omega
def wts (X : List Int) (gs : List Gp) : Nat := (gs.map fun p => (gi X p.1.toNat).toNat).sum
theorem spr_size {X : List Int} : ∀ (n : Nat) (gs : List Gp), gs.length = n → (spr X gs).length ≤ dl (wts X gs) ((gs.flatMap pcs).length) ∨ gs = []
  | 0, gs, hn => .inr (List.length_eq_zero_iff.mp hn)
  | n + 1, gs, hn => by
    obtain ⟨g, p, rfl⟩ : ∃ g p, gs = g ++ [p] := ⟨gs.dropLast, gs.getLast (by intro e; rw [e] at hn; cases hn), (List.dropLast_concat_getLast _).symm⟩
    refine .inl ?_
    rw [spr_snoc, stage_size]
    have e1 : wts X (g ++ [p]) = wts X g + (gi X p.1.toNat).toNat := by simp [wts]
    have e2 : ((g ++ [p]).flatMap pcs).length = (g.flatMap pcs).length + (p.2.length + 1) := by simp [pcs]
    rw [e1, e2]
    rcases spr_size (X := X) n g (by simpa using hn) with h | h
    · by_cases g0 : g = []
      · subst g0
        simp [spr, wts]
      · have : 1 ≤ (g.flatMap pcs).length := by
          cases g with
          | nil => exact absurd rfl g0
          | cons a r => simp [pcs]
        obtain ⟨i, hi⟩ : ∃ i, (g.flatMap pcs).length = i + 1 := ⟨(g.flatMap pcs).length - 1, by omega⟩
        rw [hi] at h ⊢
        have := dl_mul i (wts X g) (gi X p.1.toNat).toNat p.2.length
        rw [show i + 1 + (p.2.length + 1) = i + p.2.length + 2 by omega]
        exact Nat.le_trans (Nat.mul_le_mul_right _ h) this
    · subst h
      simp [spr, wts]
theorem sum_set : ∀ {X : List Int} {k : Nat} {v : Int}, k < X.length → (X.set k v).sum = X.sum - gi X k + v
  | [], _, _, h => by simp at h
  | x :: r, 0, v, _ => by
    simp [gi]
    omega
  | x :: r, k + 1, v, h => by
    have := sum_set (X := r) (k := k) (v := v) (by simpa using h)
    rw [List.set_cons_succ, List.sum_cons, List.sum_cons, this]
    simp [gi]
    omega
theorem sum_nn : ∀ {X : List Int}, (∀ y ∈ X, 0 ≤ y) → 0 ≤ X.sum
  | [], _ => by simp
  | x :: r, h => by
    rw [List.sum_cons]
    have := h x List.mem_cons_self
    have := sum_nn fun y hy => h y (List.mem_cons_of_mem _ hy)
    omega
theorem sum_nd : ∀ {ks : List Nat} {X : List Int}, ks.Nodup → (∀ k ∈ ks, k < X.length) → (∀ y ∈ X, 0 ≤ y) → (ks.map (gi X)).sum ≤ X.sum
  | [], X, _, _, h => by simpa using sum_nn h
  | k :: ks, X, nd, hk, h => by
    obtain ⟨n1, n2⟩ := List.nodup_cons.mp nd
    have hl := hk k List.mem_cons_self
    have ih := sum_nd (ks := ks) (X := X.set k 0) n2 (fun j hj => by rw [List.length_set]; exact hk j (List.mem_cons_of_mem _ hj)) (set_bd h (Int.le_refl 0))
    rw [sum_set hl] at ih
    have e : ks.map (gi (X.set k 0)) = ks.map (gi X) := List.map_congr_left fun j hj => by rw [gi_set hl, if_neg fun z => n1 (by rw [← z]; exact hj)]
    rw [e] at ih
    rw [List.map_cons, List.sum_cons]
    omega
theorem wts_le {X : List Int} {gs : List Gp} (ok : GsOk X.length gs) (nn : ∀ y ∈ X, 0 ≤ y) : (wts X gs : Int) ≤ X.sum := by
  have e : (wts X gs : Int) = ((gs.map fun p => p.1.toNat).map (gi X)).sum := by
    unfold wts
    clear ok
    induction gs with
    | nil => rfl
    | cons a r ih =>
      rw [List.map_cons, List.sum_cons, List.map_cons, List.map_cons, List.sum_cons, ← ih]
      have := gi_bd (n := a.1.toNat) nn (Int.le_refl 0)
      omega
  rw [e]
  refine sum_nd ?_ (fun k hk => ?_) nn
  · have := ok.nd
    clear e nn ok
    induction gs with
    | nil => simp
    | cons a r ih =>
      rw [List.flatMap_cons, List.map_append, List.nodup_append] at this
      rw [List.map_cons, List.nodup_cons]
      refine ⟨fun z => ?_, ih this.2.1⟩
      obtain ⟨q, hq, e⟩ := List.mem_map.mp z
      exact this.2.2 a.1.toNat (List.mem_map.mpr ⟨a.1, List.mem_cons_self, rfl⟩) q.1.toNat (List.mem_map.mpr ⟨q.1, List.mem_flatMap.mpr ⟨q, hq, List.mem_cons_self⟩, rfl⟩) e.symm
  · obtain ⟨p, hp, rfl⟩ := List.mem_map.mp hk
    exact ok.lt p hp p.1 List.mem_cons_self
theorem pcs_le {n : Nat} {gs : List Gp} (ok : GsOk n gs) : (gs.flatMap pcs).length ≤ n := by
  have h := List.Nodup.length_le_of_subset (l₂ := List.range n) ok.nd fun x hx => by
    obtain ⟨y, hy, rfl⟩ := List.mem_map.mp hx
    obtain ⟨p, hp, hy⟩ := List.mem_flatMap.mp hy
    exact List.mem_range.mpr (ok.lt p hp y hy)
  rwa [List.length_map, List.length_range] at h
theorem GsOk.take {n k : Nat} {gs : List Gp} (ok : GsOk n gs) : GsOk n (gs.take k) := by
  refine ⟨?_, fun p hp => ok.lt p (List.mem_of_mem_take hp)⟩
  have := ok.nd
  rw [← List.take_append_drop k gs, List.flatMap_append, List.map_append, List.nodup_append] at this
  exact this.1
theorem size_of {X : List Int} {gs : List Gp} {T : Nat} (ok : GsOk X.length gs) (nn : ∀ y ∈ X, 0 ≤ y) (hT : X.sum ≤ T) (h1 : 1 ≤ X.length) : (spr X gs).length ≤ dl T X.length := by
  rcases spr_size (X := X) _ gs rfl with h | h
  · by_cases g0 : gs = []
    · subst g0
      show 1 ≤ _
      obtain ⟨k, hk⟩ : ∃ k, X.length = k + 1 := ⟨X.length - 1, by omega⟩
      rw [hk]
      exact dl_pos k T
    · have : 1 ≤ (gs.flatMap pcs).length := by
        cases gs with
        | nil => exact absurd rfl g0
        | cons a r => simp [pcs]
      have w := wts_le ok nn
      exact Nat.le_trans h (dl_mono (by omega) (pcs_le ok) this)
  · subst h
    show 1 ≤ _
    obtain ⟨k, hk⟩ : ∃ k, X.length = k + 1 := ⟨X.length - 1, by omega⟩
    rw [hk]
    exact dl_pos k T
theorem sum_need {m : Mv} {X : List Int} (h : ∀ y ∈ X, 0 ≤ y) (st pl : Int) (ok : MvOk st pl m) (hX : X.length = pl.toNat) : (need m X).sum ≤ X.sum := by
  refine sum_le need_len fun i hi => ?_
  rw [need_len] at hi
  rw [need_get ok hX hi]
  have := gi_bd (n := i) h (Int.le_refl 0)
  have : 0 ≤ add1 m i := by
    unfold add1
    cases m.o with
    | none => simp only; split <;> omega
    | some x => simp only; split <;> split <;> omega
  unfold cut0
  split <;> omega
theorem setZ_sum : ∀ {L d c : List Int}, d.length = L.length → (L.map Int.toNat).Nodup → (∀ x ∈ L, x.toNat < c.length) → (setZ c (L.zip d)).sum = c.sum - (vals c L).sum + d.sum
  | [], [], c, _, _, _ => by simp [setZ, vals]
  | [], _ :: _, _, h, _, _ => by simp at h
  | _ :: _, [], _, h, _, _ => by simp at h
  | x :: L, y :: d, c, h, nd, hc => by
    rw [List.map_cons] at nd
    obtain ⟨n1, n2⟩ := List.nodup_cons.mp nd
    have hx := hc x List.mem_cons_self
    rw [List.zip_cons_cons]
    show (setZ (c.set x.toNat y) (L.zip d)).sum = _
    rw [setZ_sum (by simpa using h) n2 fun u hu => by rw [List.length_set]; exact hc u (List.mem_cons_of_mem _ hu), sum_set hx, List.sum_cons]
    have e : vals (c.set x.toNat y) L = vals c L := vals_congr fun u hu => by rw [gi_set hx, if_neg fun z => n1 (by rw [← z]; exact List.mem_map.mpr ⟨u, hu, rfl⟩)]
    rw [e]
    show _ = c.sum - (gi c x.toNat :: vals c L).sum + _
    rw [List.sum_cons]
    omega
theorem way_sum {X : List Int} (nX : ∀ y ∈ X, 0 ≤ y) : ∀ (n : Nat) (gs : List Gp) (c : List Int), gs.length = n → GsOk X.length gs → Way X gs c → c.sum ≤ X.sum ∧ ∀ y ∈ c, 0 ≤ y
  | 0, gs, c, hn, ok, w => by
    have := (spr_mem nX 0 gs hn ok c).mpr w
    rw [List.length_eq_zero_iff.mp hn] at this
    rw [List.mem_singleton.mp this]
    exact ⟨Int.le_refl _, nX⟩
  | n + 1, gs, c, hn, ok, w => by
    obtain ⟨g, p, rfl⟩ : ∃ g p, gs = g ++ [p] := ⟨gs.dropLast, gs.getLast (by intro e; rw [e] at hn; cases hn), (List.dropLast_concat_getLast _).symm⟩
    obtain ⟨ok1, nd, lt, dj⟩ := ok.snoc
    obtain ⟨c0, d, w0, hd, rfl⟩ := (way_snoc nX ok).mp w
    obtain ⟨s0, n0⟩ := way_sum nX n g c0 (by simpa using hn) ok1 w0
    obtain ⟨d1, d2, d3⟩ := (dvs_mem _ _ _).mp hd
    have gX : 0 ≤ gi X p.1.toNat := gi_bd nX (Int.le_refl 0)
    refine ⟨?_, ?_⟩
    · rw [setZ_sum (by rw [d1]; rfl) nd fun x hx => by rw [w0.len]; exact lt x hx]
      have e : vals c0 (pcs p) = vals X (pcs p) := vals_congr fun x hx => w0.out _ fun q hq u hu e => dj q hq u hu x hx e
      rw [e, d3]
      show c0.sum - (gi X p.1.toNat :: vals X p.2).sum + _ ≤ _
      rw [List.sum_cons]
      have : 0 ≤ (vals X p.2).sum := sum_nn fun y hy => by
        obtain ⟨x, _, rfl⟩ := List.mem_map.mp hy
        exact gi_bd nX (Int.le_refl 0)
      omega
    · have : ∀ (L d c : List Int), (∀ y ∈ d, 0 ≤ y) → (∀ y ∈ c, 0 ≤ y) → ∀ y ∈ setZ c (L.zip d), 0 ≤ y := fun L => by
        induction L with
        | nil => intro d c _ h; simpa [setZ] using h
        | cons a r ih =>
          intro d c h1 h2
          cases d with
          | nil => simpa [setZ] using h2
          | cons b t =>
            rw [List.zip_cons_cons]
            exact ih t _ (fun y hy => h1 y (List.mem_cons_of_mem _ hy)) (set_bd h2 (h1 b List.mem_cons_self))
      exact this _ _ _ d2 n0
theorem le_sum : ∀ {X : List Int}, (∀ y ∈ X, 0 ≤ y) → ∀ y ∈ X, y ≤ X.sum
  | [], _, y, hy => by cases hy
  | x :: r, h, y, hy => by
    rw [List.sum_cons]
    have h1 := h x List.mem_cons_self
    have h2 := sum_nn fun y hy => h y (List.mem_cons_of_mem _ hy)
    rcases List.mem_cons.mp hy with rfl | hy
    · omega
    · have := le_sum (fun y hy => h y (List.mem_cons_of_mem _ hy)) y hy
      omega
structure RowT (pl : Int) (T : Nat) (r : Row) : Prop where
  len : r.2.length = pl.toNat
  nn : ∀ y ∈ r.2, 0 ≤ y
  sum : r.2.sum ≤ T
theorem RowT.up {pl : Int} {T U : Nat} {r : Row} (h : RowT pl T r) (hU : T ≤ U) : RowT pl U r := ⟨h.len, h.nn, by have := h.sum; omega⟩
theorem RowT.bd {pl : Int} {T : Nat} {r : Row} (h : RowT pl T r) : ∀ y ∈ r.2, 0 ≤ y ∧ y ≤ T := fun y hy => ⟨h.nn y hy, by have := le_sum h.nn y hy; have := h.sum; omega⟩
theorem prs_all {st pl : Int} {m : Mv} {g : Row} {T : Nat} (ok : MvOk st pl m) (so : ShOk m.sh) (hp : 1 ≤ pl) (h : RowT pl T g) (hB : dl T pl.toNat < 16000000) :
    PrSz m g.2 ∧ (prs m g).length ≤ dl T pl.toNat ∧ ∀ e ∈ prs m g, e.1 = m.s ∧ RowT pl (T + 1) e := by
  have lN : (need m g.2).length = pl.toNat := by rw [need_len, h.len]
  have nN : ∀ y ∈ need m g.2, 0 ≤ y := fun y hy => by
    obtain ⟨c, _, rfl⟩ := List.mem_map.mp hy
    unfold cut0
    split <;> omega
  have gok : GsOk (need m g.2).length (gps m) := by rw [lN]; exact gsok_gps ok so
  have sN : (need m g.2).sum ≤ (T : Int) := by have := sum_need h.nn st pl ok h.len; have := h.sum; omega
  have l1 : 1 ≤ (need m g.2).length := by omega
  have sz := fun n => size_of (gok.take (k := n)) nN sN l1
  rw [lN] at sz
  refine ⟨⟨fun n => Nat.lt_of_le_of_lt (sz n) hB, fun p hp => ?_⟩, ?_, fun e he => ?_⟩
  · refine Nat.lt_of_le_of_lt ?_ hB
    have b1 : gi (need m g.2) p.1.toNat ≤ T := by
      have hl := gok.lt p hp p.1 List.mem_cons_self
      have := le_sum nN _ (List.mem_of_getElem? (gi_some hl))
      omega
    have b2 : p.2.length + 1 ≤ pl.toNat := by
      have := pcs_le gok
      rw [lN] at this
      refine Nat.le_trans ?_ this
      rw [List.length_flatMap]
      have : ∀ l : List Gp, p ∈ l → p.2.length + 1 ≤ (l.map fun a => (pcs a).length).sum := fun l => by
        induction l with
        | nil => intro h; cases h
        | cons a r ih =>
          intro h
          rw [List.map_cons, List.sum_cons]
          rcases List.mem_cons.mp h with rfl | h
          · simp [pcs]
          · have := ih h
            omega
      exact this _ hp
    exact dl_mono (by omega) b2 (by omega)
  · have := sz (gps m).length
    rw [List.take_length] at this
    unfold prs
    split
    · rw [List.length_map]
      unfold sortI
      rw [List.length_mergeSort, List.length_map]
      exact this
    · simp
  · unfold prs at he
    split at he
    · obtain ⟨x, hx, rfl⟩ := List.mem_map.mp he
      obtain ⟨c, hc, rfl⟩ := List.mem_map.mp (sortI_mem.mp hx)
      have wc := (spr_mem nN _ _ rfl gok c).mp hc
      obtain ⟨s1, n1⟩ := way_sum nN _ _ c rfl gok wc
      have lc : c.length = pl.toNat := by rw [wc.len, lN]
      obtain ⟨_, ⟨p1, p2⟩, _⟩ := id ok
      have g0 := gi_bd (n := m.p.toNat) n1 (Int.le_refl 0)
      refine ⟨rfl, by show (up1 m.p.toNat c).length = _; rw [up1, List.length_set, lc], set_bd n1 (by omega), ?_⟩
      show (up1 m.p.toNat c).sum ≤ _
      unfold up1
      rw [sum_set (by omega)]
      omega
    · cases he

/-! the least ones -/
def wtD (r : Row) : D := .int r.2.sum
def plD (r : Row) : D := .tuple [.int r.1, .tuple (r.2.map .int)]
theorem weight_ok {r : Row} : g_weight [rwD r] = .ok (.sh, wtD r) := by
  refine def_is rfl ?_
  unfold b_weight
  have es : ∀ t : Tag, evBi .sum [(t, il r.2)] = .ok (.sh, .int r.2.sum) := fun t => sum_map _
  rw [ss_cons]; simp -implicitDefEqProofs [es, wtD]
theorem place_ok {r : Row} : g_place_in_order [rwD r] = .ok (.sh, plD r) := by
  refine def_is rfl ?_
  unfold b_place_in_order
  rw [ss_cons]; simp -implicitDefEqProofs [il_def, plD]
theorem sortOk_w (l : List Row) : sortOk (l.map wtD) = true := by
  unfold sortOk
  simp only [Bool.and_eq_true, Bool.or_eq_true, List.all_eq_true, List.mem_map, decide_eq_true_eq]
  refine ⟨⟨?_, .inr ?_⟩, ?_⟩
  · rintro _ ⟨a, _, rfl⟩ _ ⟨b, _, rfl⟩
    simp [wtD, PySem.W.alike]
  · rintro _ ⟨a, _, rfl⟩
    rfl
  · rintro _ ⟨a, _, rfl⟩
    exact ⟨by simp [wtD, PyData.depth], by simp [wtD, PyData.canLay0]⟩
theorem sortOk_p (l : List Row) : sortOk (l.map plD) = true := by
  unfold sortOk
  simp only [Bool.and_eq_true, Bool.or_eq_true, List.all_eq_true, List.mem_map, decide_eq_true_eq]
  refine ⟨⟨?_, .inl ?_⟩, ?_⟩
  · rintro _ ⟨a, _, rfl⟩ _ ⟨b, _, rfl⟩
    simp [plD, PySem.W.alike, PySem.W.alikeAll, alike_ints]
  · rintro _ ⟨a, _, rfl⟩
    rfl
  · rintro _ ⟨a, _, rfl⟩
    exact ⟨by simp [plD, PyData.depth, PyData.depthAll, depth_ints], by simp [plD, PyData.canLay0, PyData.canLayAll0, lay_ints]⟩
theorem keysOf_map {γ : Type} {g : List D → R TD} {w k : γ → D} {t : Tag} : ∀ {l : List γ}, (∀ x ∈ l, g [w x] = .ok (t, k x)) → keysOf g (l.map w) = some (l.map k)
  | [], _ => rfl
  | x :: r, h => by
    rw [List.map_cons, List.map_cons]
    unfold keysOf
    rw [h x List.mem_cons_self]
    show (keysOf g (r.map w)).map (k x :: ·) = _
    rw [keysOf_map fun y hy => h y (List.mem_cons_of_mem _ hy)]
    rfl
theorem zip_maps {γ α β : Type} (f : γ → α) (g : γ → β) : ∀ l : List γ, (l.map f).zip (l.map g) = l.map fun x => (f x, g x)
  | [] => rfl
  | x :: r => by rw [List.map_cons, List.map_cons, List.zip_cons_cons, zip_maps f g r, List.map_cons]
theorem sortV_map {γ : Type} (w k : γ → D) (l : List γ) : sortV (l.map w) (l.map k) = (l.mergeSort (PySem.W.dataLe false k)).map w := by
  unfold sortV
  rw [zip_maps, ← List.map_mergeSort (r := PySem.W.dataLe false k) (s := PySem.W.dataLe false fun p : D × D => p.2) (f := fun x => (w x, k x)) (fun _ _ _ _ => rfl), List.map_map]
  rfl
def sw (l : List Row) : List Row := l.mergeSort (PySem.W.dataLe false wtD)
def so (l : List Row) : List Row := l.mergeSort (PySem.W.dataLe false plD)
theorem srk_w {G : Gam} {f : Str} {t : Tag} {l : List Row} (hG : G f = some g_weight) : evSrk G f (t, rwsD l) = .ok (t.kid.root, rwsD (sw l)) := by
  unfold rwsD
  simp only [evSrk, hG, keysOf_map (g := g_weight) (w := rwD) (k := wtD) (t := .sh) fun x _ => weight_ok, sortOk_w, sortV_map]
  rfl
theorem srk_p {G : Gam} {f : Str} {t : Tag} {l : List Row} (hG : G f = some g_place_in_order) : evSrk G f (t, rwsD l) = .ok (t.kid.root, rwsD (so l)) := by
  unfold rwsD
  simp only [evSrk, hG, keysOf_map (g := g_place_in_order) (w := rwD) (k := plD) (t := .sh) fun x _ => place_ok, sortOk_p, sortV_map]
  rfl
theorem sw_mem {l : List Row} {r : Row} : r ∈ sw l ↔ r ∈ l := (List.mergeSort_perm _ _).mem_iff
theorem so_mem {l : List Row} {r : Row} : r ∈ so l ↔ r ∈ l := (List.mergeSort_perm _ _).mem_iff
theorem sw_len {l : List Row} : (sw l).length = l.length := (List.mergeSort_perm _ _).length_eq
theorem so_len {l : List Row} : (so l).length = l.length := (List.mergeSort_perm _ _).length_eq
def pick (l : List Row) : List Row := l.foldl (fun F r => if abv F r then F else F ++ [r]) []
def least (l : List Row) : List Row := so (pick (sw l))
theorem pick_snoc {l : List Row} {r : Row} : pick (l ++ [r]) = if abv (pick l) r then pick l else pick l ++ [r] := by
  unfold pick
  rw [List.foldl_append]
  rfl
theorem pick_sub : ∀ {n : Nat} {l : List Row}, l.length = n → (∀ r ∈ pick l, r ∈ l) ∧ (pick l).length ≤ n
  | 0, l, h => by
    obtain rfl := List.length_eq_zero_iff.mp h
    exact ⟨fun r hr => (by cases hr), Nat.zero_le _⟩
  | n + 1, l, h => by
    obtain ⟨l', r, rfl⟩ : ∃ l' r, l = l' ++ [r] := by
      have : l ≠ [] := by intro z; rw [z] at h; cases h
      exact ⟨_, _, (List.dropLast_concat_getLast this).symm⟩
    have hl : l'.length = n := by simpa using h
    obtain ⟨h1, h2⟩ := pick_sub hl
    rw [pick_snoc]
    split
    · exact ⟨fun x hx => List.mem_append_left _ (h1 x hx), by omega⟩
    · refine ⟨fun x hx => ?_, by simp; omega⟩
      rcases List.mem_append.mp hx with hx | hx
      · exact List.mem_append_left _ (h1 x hx)
      · exact List.mem_append_right _ hx
theorem least_sub {l : List Row} {r : Row} (h : r ∈ least l) : r ∈ l := sw_mem.mp ((pick_sub rfl).1 r (so_mem.mp h))
theorem least_len {l : List Row} : (least l).length ≤ l.length := by
  unfold least
  rw [so_len]
  have := (pick_sub (l := sw l) rfl).2
  rwa [sw_len] at this
theorem abv_mono {A B : List Row} {x : Row} (h : ∀ r ∈ A, r ∈ B) (k : abv A x = true) : abv B x = true := by
  obtain ⟨e, he, c⟩ := abv_iff.mp k
  exact abv_iff.mpr ⟨e, h e he, c⟩
theorem abv_same {A B : List Row} {x : Row} (h : ∀ r, r ∈ A ↔ r ∈ B) : abv A x = abv B x := by
  rw [Bool.eq_iff_iff]
  exact ⟨abv_mono fun r hr => (h r).mp hr, abv_mono fun r hr => (h r).mpr hr⟩
theorem pick_abv {k : Nat} {x : Row} (hx : x.2.length = k) : ∀ {n : Nat} {l : List Row}, l.length = n → (∀ r ∈ l, r.2.length = k) → abv (pick l) x = abv l x
  | 0, l, h, _ => by
    obtain rfl := List.length_eq_zero_iff.mp h
    rfl
  | n + 1, l, h, ll => by
    obtain ⟨l', r, rfl⟩ : ∃ l' r, l = l' ++ [r] := by
      have : l ≠ [] := by intro z; rw [z] at h; cases h
      exact ⟨_, _, (List.dropLast_concat_getLast this).symm⟩
    have hl : l'.length = n := by simpa using h
    have ll' : ∀ r ∈ l', r.2.length = k := fun y hy => ll y (List.mem_append_left _ hy)
    have lr : r.2.length = k := ll r (List.mem_append_right _ (List.mem_singleton.mpr rfl))
    have ih := fun {x : Row} (hx : x.2.length = k) => pick_abv (x := x) hx hl ll'
    rw [pick_snoc]
    by_cases c : abv (pick l') r = true
    · rw [if_pos c, abv_app, ih hx]
      cases z : abv [r] x with
      | false => rw [Bool.or_false]
      | true =>
        obtain ⟨e, he, q⟩ := abv_iff.mp z
        obtain rfl := List.mem_singleton.mp he
        rw [Bool.or_true, ← ih hx]
        exact abv_up (by rw [hx, lr]) (fun y hy => by rw [lr, ll' y ((pick_sub hl).1 y hy)]) q c
    · rw [if_neg c, abv_app, abv_app, ih hx]
theorem least_abv {k : Nat} {x : Row} {l : List Row} (hx : x.2.length = k) (ll : ∀ r ∈ l, r.2.length = k) : abv (least l) x = abv l x := by
  unfold least
  rw [abv_same (B := pick (sw l)) fun r => so_mem, pick_abv hx rfl fun r hr => ll r (sw_mem.mp hr), abv_same fun r => sw_mem]
/-! the program's least ones, as a tree -/
def loT (l : List Row) (i : Nat) (e : PV.Env) : Prop := ∃ z2 : Slot, e = [.sh (rwsD l), .od (rwsD (pick ((sw l).take i))), z2]
theorem least_ok {k : Nat} {l : List Row} (ll : ∀ r ∈ l, r.2.length = k) (hk : k ≤ 1000) (hl : l.length < 16000000) : g_least_ones [rwsD l] = .ok (.tr, rwsD (least l)) := by
  refine def_is rfl ?_
  unfold b_least_ones
  have t0 : treeOf (.ow, .list []) = .ok (.list []) := rfl
  rw [ss_cons]; simp -implicitDefEqProofs [t0]
  have es := srk_w (t := .sh) (l := l) lk_least_ones_weight
  refine s_for (t := .ow) (ds := (sw l).map rwD) (I := loT l) rfl (by simp -implicitDefEqProofs [es]; simp [rwsD]) rfl ⟨_, rfl⟩ ?_ ?_
  · rintro i d e hd ⟨z2, rfl⟩
    obtain ⟨r, hr, rfl⟩ := rws_get hd
    have tk := take_snoc hr
    have hi : i < l.length := by have := (List.getElem?_eq_some_iff.mp hr).1; rwa [sw_len] at this
    have lr := ll r (sw_mem.mp (List.mem_of_getElem? hr))
    have sub := pick_sub (l := (sw l).take i) rfl
    have lP : (pick ((sw l).take i)).length ≤ i := by have := sub.2; rw [List.length_take] at this; omega
    unfold loT
    rw [tk, pick_snoc]
    generalize pick ((sw l).take i) = P at lP
    have ea := above_ok (t := .sh) (r := r) (l := P) (by omega) (by omega)
    refine ⟨_, by simp -implicitDefEqProofs; rfl, s_if (t := !abv P r) (by simp -implicitDefEqProofs [ea]) (fun q => ?_) fun q => ?_⟩
    · have q : ¬ abv P r = true := by simpa using q
      rw [if_neg q]
      have hP : P.length < lim := by show P.length < 16000000; omega
      have t1 : treeOf (.ow, il r.2) = .ok (il r.2) := by
        show (if (r.2.map PyData.int).all scal = true then R.ok (PyData.list (r.2.map .int)) else .stuck) = _
        rw [if_pos (by rw [List.all_eq_true]; intro x hx; obtain ⟨y, _, rfl⟩ := List.mem_map.mp hx; rfl)]
      have t2 : PV.prD [(.sh, .int r.1), (.ow, il r.2)] = .ok (.tr, rwD r) := by
        show (scalD (.sh, .int r.1)).bind (fun d => (treeOf (.ow, il r.2)).bind fun e => R.ok (Tag.tr, PyData.tuple [d, e])) = _
        rw [t1]
        rfl
      have t3 : treeOf (.tr, rwD r) = .ok (rwD r) := rfl
      have a1 : asL (rwsD P) = .ok (P.map rwD) := rfl
      have sn : PyData.list (P.map rwD ++ [rwD r]) = rwsD (P ++ [r]) := by simp [rwsD]
      rw [List.cons_append, ss_cons]; simp -implicitDefEqProofs [a1, t2, t3, hP, sn]
    · have q : abv P r = true := by simpa using q
      rw [if_pos q]
      simp -implicitDefEqProofs
  · rintro e ⟨z2, rfl⟩
    have tk : (sw l).take ((sw l).map rwD).length = sw l := List.take_of_length_le (by simp)
    rw [tk]
    have o1 : odD [Slot.sh (rwsD l), .od (rwsD (pick (sw l))), z2] 1 = .ok (rwsD (pick (sw l))) := rfl
    have a1 : asL (rwsD (pick (sw l))) = .ok ((pick (sw l)).map rwD) := rfl
    have kk := keysOf_map (g := g_place_in_order) (w := rwD) (k := plD) (t := .sh) (l := pick (sw l)) fun x _ => place_ok
    rw [ss_cons, y_rts, lk_least_ones_place_in_order]
    show Sat _ ((Out.of _ (odD _ 1) _).then _)
    rw [o1]
    show Sat _ (Out.then (match keysOf g_place_in_order ((pick (sw l)).map rwD) with | some ks => if sortOk ks = true then .ret .tr (.list (sortV ((pick (sw l)).map rwD) ks)) else .stuck | none => .stuck) _)
    rw [kk]
    show Sat _ (Out.then (if sortOk ((pick (sw l)).map plD) = true then .ret .tr (.list (sortV ((pick (sw l)).map rwD) ((pick (sw l)).map plD))) else .stuck) _)
    rw [if_pos (sortOk_p _), sortV_map]
    exact ⟨rfl, rfl⟩

/-! all predecessors -/
def lyD (cs : List (List Row)) : D := .list (cs.map rwsD)
structure MsOk (st pl : Int) (ms : List Mv) : Prop where
  ok : ∀ m ∈ ms, MvOk st pl m
  so : ∀ m ∈ ms, ShOk m.sh
  p1 : 1 ≤ pl
  p2 : pl ≤ 1000
  len : ms.length ≤ 1000
structure RowU (st pl : Int) (T : Nat) (r : Row) : Prop where
  hs : 0 ≤ r.1 ∧ r.1 < st
  ht : RowT pl T r
theorem RowU.up {st pl : Int} {T U : Nat} {r : Row} (h : RowU st pl T r) (hU : T ≤ U) : RowU st pl U r := ⟨h.hs, h.ht.up hU⟩
def prsA (ms : List Mv) (g : Row) : List Row := ms.flatMap fun m => prs m g
def allp (ms : List Mv) (M : List Row) : List Row := M.flatMap (prsA ms)
theorem prsA_len {st pl : Int} {g : Row} {T : Nat} (p1 : 1 ≤ pl) (h : RowT pl T g) (hB : dl T pl.toNat < 16000000) : ∀ {ms : List Mv}, (∀ m ∈ ms, MvOk st pl m) → (∀ m ∈ ms, ShOk m.sh) → (prsA ms g).length ≤ ms.length * dl T pl.toNat
  | [], _, _ => by simp [prsA]
  | m :: r, ok, so => by
    have h1 := (prs_all (ok m List.mem_cons_self) (so m List.mem_cons_self) p1 h hB).2.1
    have h2 := prsA_len (ms := r) p1 h hB (fun x hx => ok x (List.mem_cons_of_mem _ hx)) fun x hx => so x (List.mem_cons_of_mem _ hx)
    unfold prsA at *
    rw [List.flatMap_cons, List.length_append, List.length_cons, Nat.add_mul]
    omega
theorem allp_len {st pl : Int} {ms : List Mv} {T : Nat} (ok : MsOk st pl ms) (hB : dl T pl.toNat < 16000000) : ∀ {M : List Row}, (∀ g ∈ M, RowT pl T g) → (allp ms M).length ≤ M.length * ms.length * dl T pl.toNat
  | [], _ => by simp [allp]
  | g :: r, h => by
    have h1 := prsA_len ok.p1 (h g List.mem_cons_self) hB ok.ok ok.so
    have h2 := allp_len ok hB (M := r) fun x hx => h x (List.mem_cons_of_mem _ hx)
    unfold allp at *
    rw [List.flatMap_cons, List.length_append, List.length_cons, Nat.add_mul, Nat.add_mul, Nat.one_mul]
    omega
theorem mem_allp {ms : List Mv} {M : List Row} {r : Row} : r ∈ allp ms M ↔ ∃ g ∈ M, ∃ m ∈ ms, r ∈ prs m g := by
  unfold allp prsA
  simp only [List.mem_flatMap]
theorem rws_cat {s t : Tag} {a b : List Row} (h1 : s.kid = .sh) (h2 : t.kid = .sh) (h : a.length + b.length ≤ 16000000) : evBin .add (s, rwsD a) (t, rwsD b) = .ok (.ow, rwsD (a ++ b)) := by
  have : rwsD (a ++ b) = .list (a.map rwD ++ b.map rwD) := by simp [rwsD]
  rw [this]
  show evBin .add (s, .list (a.map rwD)) (t, .list (b.map rwD)) = _
  rw [cat_list (by simp; exact h), h1, h2]
  rfl
def ap1 (A B : D) (ms : List Mv) (M : List Row) (i : Nat) (e : PV.Env) : Prop := ∃ z3 z4 z5 : Slot, e = [.sh A, .sh B, .ow (rwsD ((M.take i).flatMap (prsA ms))), z3, z4, z5]
def ap2 (A B : D) (U : List Row) (g : Row) (ms : List Mv) (i : Nat) (e : PV.Env) : Prop := ∃ z4 z5 : Slot, e = [.sh A, .sh B, .ow (rwsD (U ++ (ms.take i).flatMap fun m => prs m g)), .sh (rwD g), z4, z5]
theorem allp_ok {st pl s0 w : Int} {C : List Int} {ms : List Mv} {M : List Row} {T : Nat} (ok : MsOk st pl ms) (hM : ∀ r ∈ M, RowT pl T r) (hT : T ≤ 1000000) (hB : dl T pl.toNat < 16000000) (hL : (allp ms M).length < 16000000) :
    g_all_predecessors [mcD st pl s0 C w ms, rwsD M] = .ok (.ow, rwsD (allp ms M)) := by
  obtain ⟨ok, so, p1, p2, hn⟩ := ok
  refine def_is rfl ?_
  unfold b_all_predecessors
  rw [ss_cons]; simp -implicitDefEqProofs
  refine s_for (t := .sh) (ds := M.map rwD) (I := ap1 (mcD st pl s0 C w ms) (rwsD M) ms M) (by rw [frz_cons]; rfl) (by simp -implicitDefEqProofs [rwsD]) rfl ⟨_, _, _, rfl⟩ ?_ ?_
  · rintro i d e hd ⟨z3, z4, z5, rfl⟩
    obtain ⟨g, hg, rfl⟩ := rws_get hd
    have tg := hM g (List.mem_of_getElem? hg)
    have b1 : ((M.take (i + 1)).flatMap (prsA ms)).length < 16000000 := Nat.lt_of_le_of_lt (flat_le _) hL
    refine ⟨_, by simp -implicitDefEqProofs; rfl, ?_⟩
    unfold ap1
    rw [take_snoc hg, List.flatMap_append] at b1 ⊢
    simp only [List.flatMap_cons, List.flatMap_nil, List.append_nil] at b1 ⊢
    generalize (M.take i).flatMap (prsA ms) = U at b1
    rw [List.length_append] at b1
    refine s_for (t := .sh) (ds := enumD 0 (ms.map mvD)) (I := ap2 (mcD st pl s0 C w ms) (rwsD M) U g ms) rfl (by simp -implicitDefEqProofs) rfl ⟨z4, z5, by simp⟩ ?_ ?_
    · rintro j d e hd ⟨y4, y5, rfl⟩
      obtain ⟨x, hx, rfl⟩ := enum_get _ _ _ _ hd
      rw [List.getElem?_map, Option.map_eq_some_iff] at hx
      obtain ⟨m, hm, rfl⟩ := hx
      have mm := List.mem_of_getElem? hm
      obtain ⟨sz, _, _⟩ := prs_all (ok m mm) (so m mm) p1 tg hB
      have eb := pred_ok (s0 := s0) (w := w) (C := C) hm tg.len (ok m mm) p2 (fun y hy => by have := tg.bd y hy; omega) sz
      have b2 : ((ms.take (j + 1)).flatMap fun m => prs m g).length ≤ (prsA ms g).length := flat_le _
      rw [Nat.zero_add]
      unfold ap2
      rw [take_snoc hm, List.flatMap_append] at b2 ⊢
      simp only [List.flatMap_cons, List.flatMap_nil, List.append_nil] at b2 ⊢
      rw [← List.append_assoc]
      have b3 : (U ++ (ms.take j).flatMap fun m => prs m g).length + (prs m g).length < 16000000 := by
        rw [List.length_append] at b2 ⊢
        omega
      generalize U ++ ((ms.take j).flatMap fun m => prs m g) = V at b3
      refine ⟨_, by simp -implicitDefEqProofs; rfl, ?_⟩
      refine s_if (t := decide (m.t = g.1)) (by by_cases q : m.t = g.1 <;> simp -implicitDefEqProofs [q]) (fun q => ?_) fun q => ?_
      · have ct : evBin .add (.rt, rwsD V) (.ow, rwsD (prs m g)) = .ok (.ow, rwsD (V ++ prs m g)) := rws_cat rfl rfl (by omega)
        have ctw : callTag .sh .ow (rwsD (prs m g)) = .ow := rfl
        have pro : ∀ {e : PV.Env} {n : Nat} {l : List Row}, put e n (.ow, rwsD l) = .nx (e.set n (.ow (rwsD l))) := fun {e n l} => rfl
        rw [List.cons_append, ss_cons]; simp -implicitDefEqProofs [frz_cons, eb, ctw, ct, pro]
      · have q : ¬ m.t = g.1 := of_decide_eq_false q
        have : prs m g = [] := if_neg fun z => q z.1.symm
        rw [this, List.append_nil]
        simp -implicitDefEqProofs
    · rintro e ⟨y4, y5, rfl⟩
      rw [enum_len, List.length_map, List.take_length]
      simp -implicitDefEqProofs
      rfl
  · rintro e ⟨z3, z4, z5, rfl⟩
    rw [List.length_map, List.take_length]
    rw [ss_cons]; simp -implicitDefEqProofs [allp]

/-! the next layer -/
theorem eqv_il : ∀ {xs ys : List Int}, PyData.eqvAll (xs.map PyData.int) (ys.map PyData.int) = decide (xs = ys)
  | [], [] => by simp [PyData.eqvAll]
  | [], _ :: _ => by simp [PyData.eqvAll]
  | _ :: _, [] => by simp [PyData.eqvAll]
  | x :: xs, y :: ys => by
    simp only [List.map_cons, PyData.eqvAll, PyData.eqv, eqv_il (xs := xs) (ys := ys)]
    by_cases e : x = y <;> by_cases f : xs = ys <;> simp [e, f]
theorem eqv_rw {a b : Row} : PyData.eqv (rwD a) (rwD b) = decide (a = b) := by
  obtain ⟨s, X⟩ := a
  obtain ⟨t, Y⟩ := b
  simp only [rwD, il_def, PyData.eqv, PyData.eqvAll, eqv_il]
  by_cases e : s = t <;> by_cases f : X = Y <;> simp [e, f]
theorem eqv_rws : ∀ {a b : List Row}, PyData.eqvAll (a.map rwD) (b.map rwD) = decide (a = b)
  | [], [] => by simp [PyData.eqvAll]
  | [], _ :: _ => by simp [PyData.eqvAll]
  | _ :: _, [] => by simp [PyData.eqvAll]
  | x :: xs, y :: ys => by
    simp only [List.map_cons, PyData.eqvAll, eqv_rw, eqv_rws (a := xs) (b := ys)]
    by_cases e : x = y <;> by_cases f : xs = ys <;> simp [e, f]
theorem lay_rws : ∀ l : List Row, PyData.canLayAll0 (l.map rwD) = true
  | [] => by simp [PyData.canLayAll0]
  | x :: r => by simp only [List.map_cons, PyData.canLayAll0, lay_rws r, SeqAt.canLay_of_shaped (shp_rw x), Bool.and_true]
theorem shp_rws (l : List Row) : Shp (rwsD l) := shp_of (by simpa only [rwsD, PyData.canLay0] using lay_rws l) (by have := depth_rows l; simp [rwsD, PyData.depth]; omega)
theorem eq_rws {a b : List Row} : evCmp .eq (rwsD a) (rwsD b) = .ok (decide (a = b)) := by
  show gB (both (rwsD a) (rwsD b)) (PyData.eqv (rwsD a) (rwsD b)) = _
  unfold both
  rw [show SeqAt.shaped (rwsD a) = true from shp_rws a, show SeqAt.shaped (rwsD b) = true from shp_rws b]
  have : PyData.eqv (rwsD a) (rwsD b) = decide (a = b) := by
    simp only [rwsD, PyData.eqv, eqv_rws]
  rw [this]
  rfl
theorem nin_rw {a : Row} {l : List Row} : evCmp .nin (rwD a) (rwsD l) = .ok (!decide (a ∈ l)) := by
  have h : ∀ l, both (rwD a) (rwsD l) = true := fun l => by
    unfold both
    rw [show SeqAt.shaped (rwD a) = true from shp_rw a, show SeqAt.shaped (rwsD l) = true from shp_rws l]
    rfl
  show gB (both (rwD a) (rwsD l)) (!(l.map rwD).any fun z => PyData.eqv z (rwD a)) = _
  rw [h]
  have : ((l.map rwD).any fun z => PyData.eqv z (rwD a)) = decide (a ∈ l) := by
    rw [List.any_map]
    induction l with
    | nil => rfl
    | cons b r ih =>
      rw [List.any_cons, ih]
      show (PyData.eqv (rwD b) (rwD a) || _) = _
      rw [eqv_rw]
      by_cases e : b = a
      · simp [e]
      · have e' : ¬ a = b := fun z => e z.symm
        simp [e, e']
  rw [this]
  rfl
def nxt (ms : List Mv) (L fr : List Row) : List Row := least (L ++ (allp ms fr).filter fun r => !abv L r)
theorem allp_row {st pl : Int} {ms : List Mv} {M : List Row} {T : Nat} (ok : MsOk st pl ms) (hB : dl T pl.toNat < 16000000) (hM : ∀ g ∈ M, RowT pl T g) : ∀ r ∈ allp ms M, RowU st pl (T + 1) r := fun r hr => by
  obtain ⟨g, hg, m, hm, q⟩ := mem_allp.mp hr
  obtain ⟨_, _, pr⟩ := prs_all (ok.ok m hm) (ok.so m hm) ok.p1 (hM g hg) hB
  obtain ⟨q1, q2⟩ := pr r q
  exact ⟨by rw [q1]; exact (ok.ok m hm).1, q2⟩
theorem next_ok {st pl s0 w : Int} {C : List Int} {ms : List Mv} {L fr : List Row} {T : Nat} (ok : MsOk st pl ms) (hM : ∀ r ∈ fr, RowT pl T r) (hL : ∀ r ∈ L, r.2.length = pl.toNat) (hT : T ≤ 1000000) (hB : dl T pl.toNat < 16000000) (hS : L.length + (allp ms fr).length < 16000000) :
    g_next_layer [mcD st pl s0 C w ms, rwsD L, rwsD fr] = .ok (.tr, rwsD (nxt ms L fr)) := by
  have p2 := ok.p2
  have ea := allp_ok (s0 := s0) (w := w) (C := C) ok hM hT hB (by omega)
  have la := allp_row ok hB hM
  refine def_is rfl ?_
  unfold b_next_layer nxt
  generalize allp ms fr = A at ea la hS
  have pro : ∀ {e : PV.Env} {n : Nat} {l : List Row}, put e n (.ow, rwsD l) = .nx (e.set n (.ow (rwsD l))) := fun {e n l} => rfl
  have ctw : ∀ L : List Row, callTag .sh .ow (rwsD L) = .ow := fun _ => rfl
  have ec : ∀ z : Slot, ev G_all_predecessors (.cpr [("element", 4)] (.nm 4) (.lst (.call "all_predecessors" (.cons (.var 0) (.cons (.var 2) .nil)))) (.cons (.not (.tru (.call "is_above" (.cons (.var 4) (.cons (.var 1) .nil))))) .nil) (.var 4)) [.sh (mcD st pl s0 C w ms), .sh (rwsD L), .sh (rwsD fr), .no, z] = .ok (.ow, rwsD (A.filter fun r => !abv L r)) := fun z => by
    refine e_filter (l := A) (w := rwD) (h := rwD) (p := fun r => !abv L r) (t := .ow) (by simp -implicitDefEqProofs [ea, ctw]; simp [rwsD]) (by show A.length ≤ 16000000; omega) fun o ho => ?_
    have := above_ok (t := .sh) (r := o) (l := L) (by have := (la o ho).ht.len; omega) (by omega)
    cases z : abv L o <;> rw [z] at this <;> simp -implicitDefEqProofs [cprItem, wipeE, this]
  have hf : (A.filter fun r => !abv L r).length ≤ A.length := List.length_filter_le _ _
  have mf : ∀ r ∈ A.filter (fun r => !abv L r), r.2.length = pl.toNat := fun r hr => (la r (List.mem_filter.mp hr).1).ht.len
  generalize A.filter (fun r => !abv L r) = N at ec hf mf
  have el := least_ok (k := pl.toNat) (l := L ++ N) (fun r hr => by
    rcases List.mem_append.mp hr with hr | hr
    · exact hL r hr
    · exact mf r hr) (by omega) (by rw [List.length_append]; omega)
  have ct : evBin .add (.sh, rwsD L) (.rt, rwsD N) = .ok (.ow, rwsD (L ++ N)) := rws_cat rfl rfl (by omega)
  rw [show (List.map Slot.sh [mcD st pl s0 C w ms, rwsD L, rwsD fr] ++ List.replicate (5 - [mcD st pl s0 C w ms, rwsD L, rwsD fr].length) Slot.no) = [.sh (mcD st pl s0 C w ms), .sh (rwsD L), .sh (rwsD fr), .no, .no] from rfl]
  rw [ss_cons, y_asg, show frz [0, 2] [.sh (mcD st pl s0 C w ms), .sh (rwsD L), .sh (rwsD fr), .no, .no] = [.sh (mcD st pl s0 C w ms), .sh (rwsD L), .sh (rwsD fr), .no, .no] from rfl, ec]
  simp -implicitDefEqProofs [pro]
  have nto : ∀ L : List Row, nt .tr (rwsD L) = .tr := fun _ => rfl
  have ctt : ∀ L : List Row, callTag .sh .tr (rwsD L) = .tr := fun _ => rfl
  rw [ss_cons]; simp -implicitDefEqProofs [ct, el, nto, ctt]

/-! what a layer tells -/
def rch (ms : List Mv) (bs : List Row) : Nat → Row → Bool
  | 0, x => abv bs x
  | n + 1, x => rch ms bs n x || ms.any fun m => pos m x.1 x.2 && rch ms bs n (m.t, aft m x.2)
structure Good (pl : Int) (x : Row) : Prop where
  len : x.2.length = pl.toNat
  nn : ∀ y ∈ x.2, 0 ≤ y
theorem shf_nn : ∀ {l : List Pr} {C : List Int}, (∀ y ∈ C, 0 ≤ y) → ∀ y ∈ shf C l, 0 ≤ y
  | [], _, h => h
  | p :: r, C, h => by
    rw [shf_cons]
    refine shf_nn ?_
    unfold sh1
    have a := gi_bd (n := p.2.toNat) (P := fun y => 0 ≤ y) h (by omega)
    have b := gi_bd (n := p.1.toNat) (P := fun y => 0 ≤ y) h (by omega)
    exact set_bd (set_bd h (by omega)) (by omega)
theorem aft_nn {m : Mv} {s : Int} {X : List Int} (h : ∀ y ∈ X, 0 ≤ y) (hp : pos m s X = true) : ∀ y ∈ aft m X, 0 ≤ y := by
  unfold pos at hp
  simp only [Bool.and_eq_true, decide_eq_true_eq] at hp
  have h1 : ∀ y ∈ X.set m.p.toNat (gi X m.p.toNat - 1), 0 ≤ y := set_bd h (by omega)
  have h2 := shf_nn (l := m.sh) h1
  unfold aft
  generalize shf (X.set m.p.toNat (gi X m.p.toNat - 1)) m.sh = Y at h2
  have h3 := gi_bd (n := m.q.toNat) (P := fun y => 0 ≤ y) h2 (by omega)
  have h4 : ∀ y ∈ Y.set m.q.toNat (gi Y m.q.toNat + 1), 0 ≤ y := set_bd h2 (by omega)
  generalize Y.set m.q.toNat (gi Y m.q.toNat + 1) = Z at h4
  cases m.o with
  | none => exact h4
  | some x =>
    have h5 := gi_bd (n := x.toNat) (P := fun y => 0 ≤ y) h4 (by omega)
    exact set_bd h4 (by omega)
theorem Good.aft {pl : Int} {x : Row} {m : Mv} (h : Good pl x) (hp : pos m x.1 x.2 = true) : Good pl (m.t, aft m x.2) := ⟨by rw [aft_len]; exact h.len, aft_nn h.nn hp⟩
theorem abv_allp {st pl : Int} {ms : List Mv} {M : List Row} {x : Row} (ok : MsOk st pl ms) (hM : ∀ g ∈ M, g.2.length = pl.toNat) (hx : Good pl x) : abv (allp ms M) x = ms.any fun m => pos m x.1 x.2 && abv M (m.t, aft m x.2) := by
  rw [Bool.eq_iff_iff, abv_iff, List.any_eq_true]
  constructor
  · rintro ⟨e, he, c⟩
    obtain ⟨g, hg, m, hm, q⟩ := mem_allp.mp he
    obtain ⟨q1, q2⟩ := (pre_spec (ok.ok m hm) (ok.so m hm) (hM g hg) hx.len hx.nn).mp (abv_iff.mpr ⟨e, q, c⟩)
    exact ⟨m, hm, by rw [Bool.and_eq_true]; exact ⟨q1, abv_iff.mpr ⟨g, hg, q2⟩⟩⟩
  · rintro ⟨m, hm, c⟩
    rw [Bool.and_eq_true] at c
    obtain ⟨g, hg, q2⟩ := abv_iff.mp c.2
    obtain ⟨e, he, q⟩ := abv_iff.mp ((pre_spec (ok.ok m hm) (ok.so m hm) (hM g hg) hx.len hx.nn).mpr ⟨c.1, q2⟩)
    exact ⟨e, mem_allp.mpr ⟨g, hg, m, hm, he⟩, q⟩
structure Ch (st pl : Int) (ms : List Mv) (bs : List Row) (T i : Nat) (L fr : List Row) : Prop where
  row : ∀ r ∈ L, RowU st pl (T + i) r
  sub : ∀ r ∈ fr, r ∈ L
  lay : ∀ x, Good pl x → abv L x = rch ms bs i x
  old : ∀ e ∈ L, e ∉ fr → ∀ m ∈ ms, ∀ p ∈ prs m e, abv L p = true
theorem ch_zero {st pl : Int} {ms : List Mv} {bs : List Row} {T : Nat} (hb : ∀ r ∈ bs, RowU st pl T r) : Ch st pl ms bs T 0 (least bs) (least bs) :=
  ⟨fun r hr => hb r (least_sub hr), fun r hr => hr, fun x hx => least_abv hx.len fun r hr => (hb r hr).ht.len, fun e he n => absurd he n⟩
theorem nxt_abv {st pl : Int} {ms : List Mv} {bs L fr : List Row} {T i : Nat} (ok : MsOk st pl ms) (c : Ch st pl ms bs T i L fr) (hB : dl (T + i) pl.toNat < 16000000) {x : Row} (hx : x.2.length = pl.toNat) : abv (nxt ms L fr) x = (abv L x || abv (allp ms L) x) := by
  have lL : ∀ r ∈ L, r.2.length = pl.toNat := fun r hr => (c.row r hr).ht.len
  have rA : ∀ M : List Row, (∀ g ∈ M, g ∈ L) → ∀ r ∈ allp ms M, r.2.length = pl.toNat := fun M hM r hr => (allp_row ok hB (fun g hg => (c.row g (hM g hg)).ht) r hr).ht.len
  unfold nxt
  rw [least_abv hx fun r hr => by
    rcases List.mem_append.mp hr with hr | hr
    · exact lL r hr
    · exact rA fr c.sub r (List.mem_filter.mp hr).1, abv_app]
  cases z : abv L x with
  | true => rfl
  | false =>
    rw [Bool.false_or, Bool.false_or, Bool.eq_iff_iff, abv_iff, abv_iff]
    have no : ∀ e, e.2.length = pl.toNat → cvr x e = true → abv L e = false := fun e he q => by
      cases y : abv L e with
      | false => rfl
      | true =>
        rw [abv_up (by rw [hx, he]) (fun a ha => by rw [lL a ha, he]) q y] at z
        cases z
    constructor
    · rintro ⟨e, he, q⟩
      obtain ⟨g, hg, m, hm, k⟩ := mem_allp.mp (List.mem_filter.mp he).1
      exact ⟨e, mem_allp.mpr ⟨g, c.sub g hg, m, hm, k⟩, q⟩
    · rintro ⟨e, he, q⟩
      have le := rA L (fun _ h => h) e he
      have n := no e le q
      obtain ⟨g, hg, m, hm, k⟩ := mem_allp.mp he
      by_cases gf : g ∈ fr
      · exact ⟨e, List.mem_filter.mpr ⟨mem_allp.mpr ⟨g, gf, m, hm, k⟩, by rw [n]; rfl⟩, q⟩
      · rw [c.old g hg gf m hm e k] at n
        cases n
theorem ch_next {st pl : Int} {ms : List Mv} {bs L fr : List Row} {T i : Nat} (ok : MsOk st pl ms) (c : Ch st pl ms bs T i L fr) (hB : dl (T + i) pl.toNat < 16000000) :
    Ch st pl ms bs T (i + 1) (nxt ms L fr) ((nxt ms L fr).filter fun e => !decide (e ∈ L)) := by
  have rowN : ∀ r ∈ nxt ms L fr, RowU st pl (T + (i + 1)) r := fun r hr => by
    rcases List.mem_append.mp (least_sub hr) with hr | hr
    · exact (c.row r hr).up (by omega)
    · exact allp_row ok hB (fun g hg => (c.row g (c.sub g hg)).ht) r (List.mem_filter.mp hr).1
  refine ⟨rowN, fun r hr => (List.mem_filter.mp hr).1, fun x hx => ?_, fun e he n m hm p hp => ?_⟩
  · rw [nxt_abv ok c hB hx.len, c.lay x hx, abv_allp ok (fun g hg => (c.row g hg).ht.len) hx]
    show _ = (_ || _)
    congr 1
    rw [Bool.eq_iff_iff, List.any_eq_true, List.any_eq_true]
    constructor
    · rintro ⟨m, hm, q⟩
      rw [Bool.and_eq_true] at q
      exact ⟨m, hm, by rw [Bool.and_eq_true, ← c.lay _ (hx.aft q.1)]; exact q⟩
    · rintro ⟨m, hm, q⟩
      rw [Bool.and_eq_true] at q
      exact ⟨m, hm, by rw [Bool.and_eq_true, c.lay _ (hx.aft q.1)]; exact q⟩
  · have eL : e ∈ L := by
      by_cases z : e ∈ L
      · exact z
      · exact absurd (List.mem_filter.mpr ⟨he, by simp [z]⟩) n
    have lp := (allp_row ok hB (M := L) (fun g hg => (c.row g hg).ht) p (mem_allp.mpr ⟨e, eL, m, hm, hp⟩)).ht.len
    rw [nxt_abv ok c hB lp, Bool.or_eq_true]
    exact .inr (abv_iff.mpr ⟨p, mem_allp.mpr ⟨e, eL, m, hm, hp⟩, cvr_refl p⟩)
theorem rch_up {ms : List Mv} {bs : List Row} {i : Nat} {x : Row} (h : rch ms bs i x = true) : rch ms bs (i + 1) x = true := by
  show (_ || _) = true
  rw [h]
  rfl
theorem rch_stay {pl : Int} {ms : List Mv} {bs : List Row} {i : Nat} (h : ∀ x, Good pl x → rch ms bs (i + 1) x = rch ms bs i x) : ∀ (k : Nat) (x : Row), Good pl x → rch ms bs (i + k) x = rch ms bs i x
  | 0, _, _ => rfl
  | k + 1, x, hx => by
    show (rch ms bs (i + k) x || _) = _
    rw [rch_stay h k x hx]
    refine Eq.trans ?_ (h x hx)
    show (rch ms bs i x || _) = (rch ms bs i x || _)
    congr 1
    rw [Bool.eq_iff_iff, List.any_eq_true, List.any_eq_true]
    have st := fun (m : Mv) (p : pos m x.1 x.2 = true) => rch_stay h k _ (hx.aft p)
    constructor
    · rintro ⟨m, hm, q⟩
      rw [Bool.and_eq_true] at q
      exact ⟨m, hm, by rw [Bool.and_eq_true, ← st m q.1]; exact q⟩
    · rintro ⟨m, hm, q⟩
      rw [Bool.and_eq_true] at q
      exact ⟨m, hm, by rw [Bool.and_eq_true]; exact ⟨q.1, (st m q.1).trans q.2⟩⟩

/-! layers -/
structure Lys (st pl : Int) (ms : List Mv) (bs : List Row) (T : Nat) (cs : List (List Row)) : Prop where
  len : ∀ L ∈ cs, L.length ≤ 2000
  row : ∀ j L, cs[j]? = some L → ∀ r ∈ L, RowU st pl (T + j) r
  lay : ∀ j L, cs[j]? = some L → ∀ x, Good pl x → abv L x = rch ms bs j x
theorem Lys.snoc {st pl : Int} {ms : List Mv} {bs L fr : List Row} {T : Nat} {cs : List (List Row)} (h : Lys st pl ms bs T cs) (c : Ch st pl ms bs T cs.length L fr) (hl : L.length ≤ 2000) : Lys st pl ms bs T (cs ++ [L]) := by
  have at_ : ∀ j M, (cs ++ [L])[j]? = some M → cs[j]? = some M ∨ (j = cs.length ∧ M = L) := fun j M e => by
    rw [List.getElem?_append] at e
    split at e
    · exact .inl e
    · next q =>
      have : j = cs.length := by
        have := (List.getElem?_eq_some_iff.mp e).1
        simp at this
        omega
      subst this
      simp at e
      exact .inr ⟨rfl, e.symm⟩
  refine ⟨fun M hM => ?_, fun j M e => ?_, fun j M e => ?_⟩
  · rcases List.mem_append.mp hM with hM | hM
    · exact h.len M hM
    · rw [List.mem_singleton.mp hM]; exact hl
  · rcases at_ j M e with e | ⟨rfl, rfl⟩
    · exact h.row j M e
    · exact c.row
  · rcases at_ j M e with e | ⟨rfl, rfl⟩
    · exact h.lay j M e
    · exact c.lay

def layP (ms : List Mv) : Nat → List (List Row) → List Row → List Row → Option (List (List Row))
  | 0, _, _, _ => none
  | n + 1, cs, last, fr => if 2000 < last.length then none else if nxt ms last fr = last then some (cs ++ [last]) else layP ms n (cs ++ [last]) (nxt ms last fr) ((nxt ms last fr).filter fun e => !decide (e ∈ last))
def lyR : Option (List (List Row)) → R TD | none => .ok (.sh, .none) | some Ls => .ok (.tr, lyD Ls)
structure LyOk (st pl : Int) (ms : List Mv) (bs : List Row) (T fu : Nat) (Ls : List (List Row)) : Prop where
  ne : 1 ≤ Ls.length ∧ Ls.length ≤ fu
  ly : Lys st pl ms bs T Ls
  fix : ∀ i L, Ls[min i (Ls.length - 1)]? = some L → ∀ x, Good pl x → abv L x = rch ms bs i x
theorem layP_ok {st pl : Int} {ms : List Mv} {bs : List Row} {T : Nat} (ok : MsOk st pl ms) : ∀ {n : Nat} {cs : List (List Row)} {last fr : List Row} {Ls : List (List Row)}, Lys st pl ms bs T cs → Ch st pl ms bs T cs.length last fr → dl (T + cs.length + n) pl.toNat < 16000000 → layP ms n cs last fr = some Ls → LyOk st pl ms bs T (cs.length + n) Ls
  | 0, _, _, _, _, _, _, _, h => by cases h
  | n + 1, cs, last, fr, Ls, k2, k3, hB, h => by
    have p1 := ok.p1
    unfold layP at h
    split at h
    · cases h
    · next q =>
      have q : last.length ≤ 2000 := by omega
      have d1 : dl (T + cs.length) pl.toNat ≤ dl (T + cs.length + (n + 1)) pl.toNat := dl_mono (by omega) (Nat.le_refl _) (by omega)
      have cN := ch_next ok k3 (by omega)
      split at h
      · next e =>
        obtain rfl := Option.some.inj h
        refine ⟨⟨by simp, by simp <;> omega⟩, k2.snoc k3 q, fun j L hL x hx => ?_⟩
        have st1 : ∀ x, Good pl x → rch ms bs (cs.length + 1) x = rch ms bs cs.length x := fun x hx => by rw [← cN.lay x hx, ← k3.lay x hx, e]
        by_cases hj : j ≤ cs.length
        · rw [show min j ((cs ++ [last]).length - 1) = j by simp; omega] at hL
          exact (k2.snoc k3 q).lay j L hL x hx
        · rw [show min j ((cs ++ [last]).length - 1) = cs.length by simp; omega] at hL
          rw [(k2.snoc k3 q).lay cs.length L hL x hx, show j = cs.length + (j - cs.length) by omega, rch_stay st1 _ x hx]
      · have lc : (cs ++ [last]).length = cs.length + 1 := by simp
        have := layP_ok ok (cs := cs ++ [last]) (k2.snoc k3 q) (by rw [lc]; exact cN) (by rw [lc, show T + (cs.length + 1) + n = T + cs.length + (n + 1) by omega]; exact hB) h
        rw [lc, show cs.length + 1 + n = cs.length + (n + 1) by omega] at this
        exact this
theorem layLp_ok {st pl s0 w : Int} {C : List Int} {ms : List Mv} {bs : List Row} {T : Nat} {B : D} {fu : Int} (ok : MsOk st pl ms) : ∀ {n : Nat} {r : List D} {cs : List (List Row)} {last fr : List Row} {z6 z7 z8 : Slot}, n ≤ r.length → (n = r.length ∨ layP ms n cs last fr ≠ none) → Ch st pl ms bs T cs.length last fr → last.length < 16000000 → fr.length ≤ last.length → T + cs.length + n ≤ 1000000 →
    dl (T + cs.length + n) pl.toNat < 16000000 → 2000 * ms.length * dl (T + cs.length + n) pl.toNat ≤ 15900000 →
    layLp G_next_layer x_layers r [.sh (mcD st pl s0 C w ms), .sh B, .sh (.int fu), .sh (rwsD last), .no, .sh (rwsD fr), z6, z7, z8] ((cs ++ [last]).map rwsD) = lyR (layP ms n cs last fr)
  | 0, r, cs, last, fr, z6, z7, z8, hn, ho, _, _, _, _, _, _ => by
    rcases ho with ho | ho
    · obtain rfl : r = [] := List.length_eq_zero_iff.mp ho.symm
      rfl
    · exact absurd rfl ho
  | n + 1, [], _, _, _, _, _, _, hn, _, _, _, _, _, _, _ => by simp at hn
  | n + 1, d :: r, cs, last, fr, z6, z7, z8, hn, ho, k3, k4, k5, hT, hB, hS => by
    have p1 := ok.p1
    have p2 := ok.p2
    have lr : ∀ t : Tag, evBi .len [(t, rwsD last)] = .ok (.sh, .int (last.length : Int)) := fun t => by
      show PV.R.ok (Tag.sh, PyData.int ((last.map rwD).length : Int)) = _
      simp
    have t1 : evT G_next_layer x_layers.c1 ([Slot.sh (mcD st pl s0 C w ms), .sh B, .sh (.int fu), .sh (rwsD last), .no, .sh (rwsD fr), z6, z7, z8].set x_layers.t (.sh d)) = .ok (decide ((2000 : Int) < last.length)) := by
      simp -implicitDefEqProofs [x_layers, lr]
    unfold layLp
    rw [t1]
    show (if decide ((2000 : Int) < last.length) = true then R.ok (Tag.sh, PyData.none) else _) = _
    unfold layP
    by_cases q : 2000 < last.length
    · rw [if_pos (by rw [decide_eq_true_eq]; omega), if_pos q]
      rfl
    rw [if_neg (by rw [decide_eq_true_eq]; omega), if_neg q]
    have d1 : dl (T + cs.length) pl.toNat ≤ dl (T + cs.length + (n + 1)) pl.toNat := dl_mono (by omega) (Nat.le_refl _) (by omega)
    have hB1 : dl (T + cs.length) pl.toNat < 16000000 := by omega
    have d2 : fr.length * ms.length * dl (T + cs.length) pl.toNat ≤ 2000 * ms.length * dl (T + cs.length + (n + 1)) pl.toNat := Nat.mul_le_mul (Nat.mul_le_mul_right _ (by omega)) d1
    have d3 := allp_len ok hB1 (M := fr) fun g hg => (k3.row g (k3.sub g hg)).ht
    have eN := next_ok (s0 := s0) (w := w) (C := C) ok (fun g hg => (k3.row g (k3.sub g hg)).ht) (fun g hg => (k3.row g hg).ht.len) (by omega) hB1 (by omega)
    have lN : (nxt ms last fr).length < 16000000 := by
      have h1 := least_len (l := last ++ (allp ms fr).filter fun r => !abv last r)
      have h2 := List.length_filter_le (fun r => !abv last r) (allp ms fr)
      rw [List.length_append] at h1
      unfold nxt
      omega
    have cN := ch_next ok k3 hB1
    have lf : ((nxt ms last fr).filter fun e => !decide (e ∈ last)).length ≤ (nxt ms last fr).length := List.length_filter_le _ _
    have lc : (cs ++ [last]).length = cs.length + 1 := by simp
    have ho2 : nxt ms last fr ≠ last → n = r.length ∨ layP ms n (cs ++ [last]) (nxt ms last fr) ((nxt ms last fr).filter fun e => !decide (e ∈ last)) ≠ none := fun ne => by
      rcases ho with ho | ho
      · exact .inl (by simpa using ho)
      · refine .inr fun z => ho ?_
        unfold layP
        rw [if_neg q, if_neg ne, z]
    have ih := fun (ne : nxt ms last fr ≠ last) (z7 z8 : Slot) => layLp_ok (s0 := s0) (w := w) (C := C) (B := B) (fu := fu) ok (n := n) (r := r) (cs := cs ++ [last]) (last := nxt ms last fr) (fr := (nxt ms last fr).filter fun e => !decide (e ∈ last)) (z6 := .sh d) (z7 := z7) (z8 := z8) (by simpa using hn) (ho2 ne) (by rw [lc]; exact cN) lN lf (by rw [lc]; omega)
      (by rw [lc, show T + (cs.length + 1) + n = T + cs.length + (n + 1) by omega]; exact hB) (by rw [lc, show T + (cs.length + 1) + n = T + cs.length + (n + 1) by omega]; exact hS)
    clear ho2
    generalize nxt ms last fr = N at eN lN cN lf ih
    have ctt : ∀ L : List Row, callTag .sh .tr (rwsD L) = .tr := fun _ => rfl
    have t2 : ev G_next_layer x_layers.e2 ([Slot.sh (mcD st pl s0 C w ms), .sh B, .sh (.int fu), .sh (rwsD last), .no, .sh (rwsD fr), z6, z7, z8].set x_layers.t (.sh d)) = .ok (.tr, rwsD N) := by
      simp -implicitDefEqProofs [x_layers, eN, ctt]
    have t3 : evT G_next_layer x_layers.c2 (([Slot.sh (mcD st pl s0 C w ms), .sh B, .sh (.int fu), .sh (rwsD last), .no, .sh (rwsD fr), z6, z7, z8].set x_layers.t (.sh d)).set 7 (.sh (rwsD N))) = .ok (decide (N = last)) := by
      simp -implicitDefEqProofs [x_layers, eq_rws]
    have ec : ev G_next_layer x_layers.e3 (([Slot.sh (mcD st pl s0 C w ms), .sh B, .sh (.int fu), .sh (rwsD last), .no, .sh (rwsD fr), z6, z7, z8].set x_layers.t (.sh d)).set 7 (.sh (rwsD N))) = .ok (.ow, rwsD (N.filter fun e => !decide (e ∈ last))) := by
      show ev G_next_layer (.cpr [("element", 8)] (.nm 8) (.lst (.var 7)) (.cons (.val (.cmp .nin (.var 8) (.var 3))) .nil) (.var 8)) _ = _
      refine e_filter (l := N) (w := rwD) (h := rwD) (p := fun e => !decide (e ∈ last)) (t := .sh) (by simp -implicitDefEqProofs [rwsD, x_layers]) (by show N.length ≤ 16000000; omega) fun o ho => ?_
      by_cases z : o ∈ last <;> simp -implicitDefEqProofs [cprItem, wipeE, nin_rw, z, x_layers]
    rw [t2]
    show ((nx0 (treeOf (.tr, rwsD N))).bind fun d2 => _) = _
    show ((nx0 (evT G_next_layer x_layers.c2 _)).bind fun b2 => _) = _
    rw [t3]
    show (if decide (N = last) = true then R.ok (Tag.tr, PyData.list _) else _) = _
    by_cases e : N = last
    · rw [if_pos (decide_eq_true e), if_pos e]
      rfl
    rw [if_neg (by rw [decide_eq_true_eq]; exact e), if_neg e, ec]
    show ((nx0 (shOnly (.ow, rwsD (N.filter fun e => !decide (e ∈ last))))).bind fun d3 => _) = _
    show (if ((cs ++ [last]).map rwsD).length < lim then layLp G_next_layer x_layers r _ _ else R.stuck) = _
    rw [if_pos (by rw [List.length_map, lc]; show _ < 16000000; omega)]
    have := ih e (.sh (rwsD N)) z8
    rw [← this]
    simp [x_layers]
def layF (ms : List Mv) (bs : List Row) (n : Nat) : Option (List (List Row)) := layP ms n [] (least bs) (least bs)
theorem layF_ok {st pl : Int} {ms : List Mv} {bs : List Row} {T n : Nat} {Ls : List (List Row)} (ok : MsOk st pl ms) (hb : ∀ r ∈ bs, RowU st pl T r) (hB : dl (T + n) pl.toNat < 16000000) (h : layF ms bs n = some Ls) : LyOk st pl ms bs T n Ls := by
  have := layP_ok ok (n := n) (cs := []) (last := least bs) (fr := least bs) (bs := bs) (T := T) ⟨by simp, by simp, by simp⟩ (ch_zero hb) hB h
  rwa [List.length_nil, Nat.zero_add] at this
abbrev lE0 (A B : D) (f : Int) : PV.Env := [Slot.sh A, .sh B, .sh (.int f), .no, .no, .no, .no, .no, .no]
theorem lay_c0 {A B : D} {f : Int} (h : 0 ≤ f) : evS G_next_layer 10000 x_layers.c0 (lE0 A B f) = .nx (lE0 A B f) := by
  have nf : ¬ f < 0 := by omega
  have tt : evT G_next_layer (.val (.cmp .lt (.var 2) (.cst (.int 0)))) (lE0 A B f) = .ok false := by simp -implicitDefEqProofs [nf, lE0]
  show Out.of _ (evT G_next_layer (.val (.cmp .lt (.var 2) (.cst (.int 0)))) (lE0 A B f)) _ = _
  rw [tt]
  rfl
theorem lay_c1 {A B : D} {f : Int} (h : f < 0) : evS G_next_layer 10000 x_layers.c0 (lE0 A B f) = .exc "OutOfRange" (lE0 A B f) := by
  have tt : evT G_next_layer (.val (.cmp .lt (.var 2) (.cst (.int 0)))) (lE0 A B f) = .ok true := by simp -implicitDefEqProofs [h, lE0]
  show Out.of _ (evT G_next_layer (.val (.cmp .lt (.var 2) (.cst (.int 0)))) (lE0 A B f)) _ = _
  rw [tt]
  rfl
theorem lay_gd {A B : D} {f : Int} : (shEnv' (lE0 A B f) && isNo4 (lE0 A B f) && decide (8 ≤ (lE0 A B f).length)) = true := rfl
theorem lay_un {G : Gam} {A B : D} {f : Int} {X : LayX} : evLay G 10000 9 3 X [A, B, .int f] = match evS G 10000 X.c0 (lE0 A B f) with
  | .exc c _ => .exc c
  | .nx e => if (shEnv' e && isNo4 e && decide (8 ≤ e.length)) = true then (nx0 (ev G X.e1 e)).bind fun x1 => (nx0 (treeOf x1)).bind fun d1 =>
      (nx0 (evSrc G X.src ((e.set 3 (.sh d1)).set 5 (.sh d1)))).bind fun s => match s.1.dm with
      | .sh => layLp G X s.2 ((e.set 3 (.sh d1)).set 5 (.sh d1)) [d1]
      | _ => .stuck
    else .stuck
  | _ => .stuck := by
  unfold evLay
  rw [if_neg (by simp)]
  rfl
theorem lay_go {G : Gam} {A B d1 : D} {f : Int} {X : LayX} {ds : List D} {R' : R TD} (h0 : evS G 10000 X.c0 (lE0 A B f) = .nx (lE0 A B f)) (h1 : ev G X.e1 (lE0 A B f) = .ok (.tr, d1)) (h2 : evSrc G X.src (((lE0 A B f).set 3 (.sh d1)).set 5 (.sh d1)) = .ok (.sh, ds)) (h3 : layLp G X ds (((lE0 A B f).set 3 (.sh d1)).set 5 (.sh d1)) [d1] = R') : evLay G 10000 9 3 X [A, B, .int f] = R' := by
  rw [lay_un, h0]
  simp only []
  rw [if_pos lay_gd, h1]
  simp only [nx0, PV.R.bind, tO_tr]
  rw [h2]
  exact h3
theorem layers_ok {st pl s0 w : Int} {C : List Int} {ms : List Mv} {bs : List Row} {T fu n : Nat} (ok : MsOk st pl ms) (hb : ∀ r ∈ bs, RowU st pl T r) (lb : bs.length < 16000000) (hT : T + n ≤ 1000000) (hfu : fu ≤ 1000000) (hB : dl (T + n) pl.toNat < 16000000) (hS : 2000 * ms.length * dl (T + n) pl.toNat ≤ 15900000)
    (hn : n ≤ fu) (ho : n = fu ∨ layF ms bs n ≠ none) : g_layers [mcD st pl s0 C w ms, rwsD bs, .int fu] = lyR (layF ms bs n) := by
  have p1 := ok.p1
  have p2 := ok.p2
  have eF := least_ok (k := pl.toNat) (l := bs) (fun r hr => (hb r hr).ht.len) (by omega) lb
  have ctt : ∀ L : List Row, callTag .sh .tr (rwsD L) = .tr := fun _ => rfl
  have lL := least_len (l := bs)
  have hl := layLp_ok (s0 := s0) (w := w) (C := C) (B := rwsD bs) (fu := fu) (bs := bs) (T := T) ok (n := n) (r := ranged 0 fu) (cs := []) (last := least bs) (fr := least bs) (z6 := .no) (z7 := .no) (z8 := .no) (by rw [ranged_len]; omega) (by rw [ranged_len]; rcases ho with ho | ho; exact .inl (by omega); exact .inr ho) (ch_zero hb) (by omega) (Nat.le_refl _) hT hB hS
  have e1 : ev G_next_layer x_layers.e1 (lE0 (mcD st pl s0 C w ms) (rwsD bs) fu) = .ok (.tr, rwsD (least bs)) := by
    simp -implicitDefEqProofs [x_layers, eF, ctt, lE0]
  have es : evSrc G_next_layer x_layers.src (((lE0 (mcD st pl s0 C w ms) (rwsD bs) fu).set 3 (.sh (rwsD (least bs)))).set 5 (.sh (rwsD (least bs)))) = .ok (.sh, ranged 0 fu) := by
    simp -implicitDefEqProofs (disch := omega) [x_layers, small_nat, lE0]
  exact lay_go (lay_c0 (by omega)) e1 es hl
theorem layers_no {st pl s0 w : Int} {C : List Int} {ms : List Mv} {B : D} {f : Int} (hf : f < 0) : g_layers [mcD st pl s0 C w ms, B, .int f] = .exc "OutOfRange" := by
  unfold g_layers
  rw [lay_un, lay_c1 hf]

/-! exactly so many steps -/
def exs (ms : List Mv) (bs : List Row) : Nat → Row → Bool
  | 0, x => abv bs x
  | n + 1, x => ms.any fun m => pos m x.1 x.2 && exs ms bs n (m.t, aft m x.2)
theorem rch_exs {ms : List Mv} {bs : List Row} : ∀ (n : Nat) (x : Row), rch ms bs n x = true ↔ ∃ j ≤ n, exs ms bs j x = true
  | 0, x => ⟨fun h => ⟨0, Nat.le_refl _, h⟩, fun ⟨j, hj, h⟩ => (by
    have e : j = 0 := by omega
    rw [e] at h
    exact h)⟩
  | n + 1, x => by
    show (rch ms bs n x || _) = true ↔ _
    rw [Bool.or_eq_true, rch_exs n x, List.any_eq_true]
    constructor
    · rintro (⟨j, hj, h⟩ | ⟨m, hm, q⟩)
      · exact ⟨j, by omega, h⟩
      · rw [Bool.and_eq_true, rch_exs n] at q
        obtain ⟨q1, j, hj, q2⟩ := q
        exact ⟨j + 1, by omega, List.any_eq_true.mpr ⟨m, hm, by rw [Bool.and_eq_true]; exact ⟨q1, q2⟩⟩⟩
    · rintro ⟨j, hj, h⟩
      cases j with
      | zero => exact .inl ⟨0, Nat.zero_le _, h⟩
      | succ j =>
        obtain ⟨m, hm, q⟩ := List.any_eq_true.mp h
        rw [Bool.and_eq_true] at q
        exact .inr ⟨m, hm, by rw [Bool.and_eq_true, rch_exs n]; exact ⟨q.1, j, by omega, q.2⟩⟩

/-! the least crew -/
def oth (C E : List Int) (w : Nat) : Bool := (List.range E.length).all fun j => decide (j = w) || decide (gi E j ≤ gi C j)
def cr (s0 : Int) (C : List Int) (w : Nat) (r : Row) : Option Int := if s0 = r.1 ∧ oth C r.2 w = true then some (if gi r.2 w - gi C w < 0 then 0 else gi r.2 w - gi C w) else none
def stp (l c : Option Int) : Option Int := match c with | none => l | some c => match l with | none => some c | some m => if c < m then some c else some m
def best (s0 : Int) (C : List Int) (w : Nat) (l : List Row) : Option Int := l.foldl (fun m r => stp m (cr s0 C w r)) none
theorem oth_not {C E : List Int} {w j : Nat} (h : j < E.length) (n : j ≠ w) (q : gi C j < gi E j) : oth C E w = false := by
  cases z : oth C E w with
  | false => rfl
  | true =>
    unfold oth at z
    rw [List.all_eq_true] at z
    have := z j (List.mem_range.mpr h)
    simp [n] at this
    omega
theorem oth_of {C E : List Int} {w : Nat} (h : ∀ j < E.length, j ≠ w → gi E j ≤ gi C j) : oth C E w = true := by
  unfold oth
  rw [List.all_eq_true]
  intro j hj
  have hj := List.mem_range.mp hj
  by_cases e : j = w
  · simp [e]
  · simp [h j hj e]
def crInv (M : D) (r : Row) (s0 : Int) (C : List Int) (w : Nat) (i : Nat) (e : PV.Env) : Prop := ∃ z1 z2 : Slot, e = [.sh M, .sh (rwD r), .sh (.int s0), .sh (il C), .sh (.int w), z1, z2] ∧ ∀ j < i, j ≠ w → gi r.2 j ≤ gi C j
theorem crew_ok {ms : List Mv} (st pl s0 : Int) (C : List Int) (w : Nat) (r : Row) (h : r.2.length = C.length) (hw : w < C.length) (hl : C.length ≤ 1000) : g_crew_for [mcD st pl s0 C w ms, rwD r] = .ok (.sh, oD (cr s0 C w r)) := by
  obtain ⟨s, E⟩ := r
  have h : E.length = C.length := h
  refine def_is rfl ?_
  unfold b_crew_for
  rw [ss_cons]; simp -implicitDefEqProofs [rwD]
  rw [ss_cons]; simp -implicitDefEqProofs
  refine s_if (t := decide (s ≠ s0)) (by simp) (fun c => ?_) fun c => ?_
  · have c : s ≠ s0 := of_decide_eq_true c
    have e : cr s0 C w (s, E) = none := if_neg fun z => c z.1.symm
    rw [e, List.cons_append, ss_cons]
    simp -implicitDefEqProofs [oD]
  have c : s = s0 := by simpa using c
  subst c
  simp -implicitDefEqProofs only [List.nil_append]
  refine s_for (t := .sh) (ds := enumD 0 (E.map .int)) (e0 := [.sh (mcD st pl s C w ms), .sh (rwD (s, E)), .sh (.int s), .sh (il C), .sh (.int w), .no, .no]) (I := crInv (mcD st pl s C w ms) (s, E) s C w) ?_ ?_ rfl ?_ ?_ ?_
  · simp -implicitDefEqProofs [rwD]
  · simp -implicitDefEqProofs [rwD, il_def]
  · exact ⟨_, _, rfl, fun j hj => absurd hj (Nat.not_lt_zero j)⟩
  · rintro i d e hd ⟨z1, z2, rfl, k⟩
    obtain ⟨x, hx, rfl⟩ := enum_get _ _ _ _ hd
    have hi : i < E.length := by
      have := (List.getElem?_eq_some_iff.mp hx).1
      rwa [List.length_map] at this
    rw [List.getElem?_map, gi_some hi] at hx
    obtain rfl := Option.some.inj hx
    rw [Nat.zero_add]
    refine ⟨_, by simp -implicitDefEqProofs; rfl, ?_⟩
    refine s_if (t := decide (i ≠ w) && decide (gi C i < gi E i)) ?_ (fun q => ?_) fun q => ?_
    · by_cases q : (i : Int) = w
      · have q2 : i = w := by omega
        simp -implicitDefEqProofs [q, q2]
      · have q2 : i ≠ w := by omega
        cases z : decide (gi C i < gi E i) <;> simp -implicitDefEqProofs (disch := omega) [q, q2, ixi, z]
    · simp only [Bool.and_eq_true, decide_eq_true_eq] at q
      have e : cr s C w (s, E) = none := if_neg fun z => by
        have := oth_not (C := C) hi q.1 q.2
        rw [z.2] at this
        cases this
      rw [e]
      simp -implicitDefEqProofs [oD, ss_cons]
    · simp only [List.nil_append, ss_nil]
      simp -implicitDefEqProofs
      refine ⟨_, _, rfl, fun j hj n => ?_⟩
      by_cases e : j = i
      · subst e
        rw [decide_eq_true n, Bool.true_and] at q
        exact Int.not_lt.mp (of_decide_eq_false q)
      · exact k j (by omega) n
  · rintro e ⟨z1, z2, rfl, k⟩
    rw [enum_len, List.length_map] at k
    have e : cr s C w (s, E) = some (if gi E w - gi C w < 0 then 0 else gi E w - gi C w) := if_pos ⟨rfl, oth_of k⟩
    rw [ss_cons, e]
    simp -implicitDefEqProofs (disch := omega) [rwD, ixi, oD]
    first | (split <;> split <;> omega) | skip
def lcInv (M : D) (l : List Row) (s0 : Int) (C : List Int) (w : Nat) (i : Nat) (e : PV.Env) : Prop := ∃ z1 z2 : Slot, e = [.sh M, .sh (rwsD l), .sh (oD (best s0 C w (l.take i))), z1, z2]
theorem best_snoc {s0 : Int} {C : List Int} {w : Nat} {l : List Row} {r : Row} : best s0 C w (l ++ [r]) = stp (best s0 C w l) (cr s0 C w r) := by
  unfold best
  rw [List.foldl_append]
  rfl
theorem leastc_ok {ms : List Mv} (st pl s0 : Int) (C : List Int) (w : Nat) (l : List Row) (h : ∀ r ∈ l, r.2.length = C.length) (hw : w < C.length) (hl : C.length ≤ 1000) : g_least_crew [mcD st pl s0 C w ms, rwsD l] = .ok (.sh, oD (best s0 C w l)) := by
  refine def_is rfl ?_
  unfold b_least_crew
  rw [ss_cons]; simp -implicitDefEqProofs
  refine s_for (t := .sh) (ds := l.map rwD) (e0 := [.sh (mcD st pl s0 C w ms), .sh (rwsD l), .sh .none, .no, .no]) (I := lcInv (mcD st pl s0 C w ms) l s0 C w) ?_ ?_ rfl ?_ ?_ ?_
  · simp -implicitDefEqProofs [frz_cons]
  · simp -implicitDefEqProofs [rwsD]
  · exact ⟨_, _, rfl⟩
  · rintro i d e hd ⟨z1, z2, rfl⟩
    rw [List.getElem?_map, Option.map_eq_some_iff] at hd
    obtain ⟨r, hr, rfl⟩ := hd
    refine ⟨_, by simp -implicitDefEqProofs; rfl, ?_⟩
    have e1 := crew_ok (ms := ms) st pl s0 C w r (h r (List.mem_of_getElem? hr)) hw hl
    rw [ss_cons]; simp -implicitDefEqProofs [frz_cons, e1]
    unfold lcInv
    rw [take_snoc hr, best_snoc]
    generalize best s0 C w (l.take i) = b
    generalize cr s0 C w r = c
    cases c with
    | none =>
      refine s_if (t := false) (by simp -implicitDefEqProofs [oD, isNone]) (fun z => by cases z) fun _ => ?_
      simp -implicitDefEqProofs [oD, stp]
    | some c =>
      cases b with
      | none =>
        refine s_if (t := true) (by simp -implicitDefEqProofs [oD, isNone]) (fun _ => ?_) fun z => by cases z
        rw [List.cons_append, ss_cons]; simp -implicitDefEqProofs [oD, stp, frz_cons]
      | some b =>
        refine s_if (t := decide (c < b)) (by cases z : decide (c < b) <;> simp -implicitDefEqProofs [oD, isNone, z]) (fun q => ?_) fun q => ?_
        · have q : c < b := of_decide_eq_true q
          rw [List.cons_append, ss_cons]; simp -implicitDefEqProofs [oD, stp, frz_cons, q]
        · have q : ¬ c < b := of_decide_eq_false q
          simp -implicitDefEqProofs [oD, stp, q]
  · rintro e ⟨z1, z2, rfl⟩
    rw [List.length_map, List.take_length]
    rw [ss_cons]
    simp -implicitDefEqProofs

/-! runs -/
theorem chkr_in {st pl s0 w : Int} {C : List Int} {ms : List Mv} {k : Int} (h1 : 0 ≤ k) (h2 : k < ms.length) : g_check_move_runs [mcD st pl s0 C w ms, .int k] = .ok (.sh, .none) := by
  refine def_is rfl ?_
  unfold b_check_move_runs
  refine s_if (t := false) (by simp -implicitDefEqProofs [h1, h2]) (fun z => by cases z) fun _ => ?_
  simp -implicitDefEqProofs
theorem poss_ok {st pl s0 w : Int} {C : List Int} {ms : List Mv} {m : Mv} {k : Nat} {s : Int} {X : List Int} (hm : ms[k]? = some m) (hX : X.length = pl.toNat) (ok : MvOk st pl m) : g_is_possible [mcD st pl s0 C w ms, rwD (s, X), .int k] = .ok (.sh, .bool (pos m s X)) := by
  have hk : k < ms.length := (List.getElem?_eq_some_iff.mp hm).1
  obtain ⟨_, ⟨p1, p2⟩, _⟩ := ok
  refine def_is rfl ?_
  unfold b_is_possible
  rw [ss_cons]; simp -implicitDefEqProofs [chkr_in (st := st) (pl := pl) (s0 := s0) (w := w) (C := C) (ms := ms) (k := k) (by omega) (by omega)]
  rw [ss_cons]; simp -implicitDefEqProofs [frz_cons]
  rw [ss_cons]
  by_cases e : m.s = s
  · simp -implicitDefEqProofs (disch := omega) [mv_at hm, ixi, pos, e]
  · simp -implicitDefEqProofs (disch := omega) [mv_at hm, ixi, pos, e]
def aInv (M : D) (s : Int) (X : List Int) (k : Nat) (m : Mv) (i : Nat) (e : PV.Env) : Prop := ∃ z1 z2 : Slot, e = [.sh M, .sh (rwD (s, X)), .sh (.int k), .sh (.int m.s), .sh (.int m.p), .sh (.int m.t), .sh (.int m.q), .sh (oD m.o), .sh (prsD m.sh), .ow (il (shf (X.set m.p.toNat (gi X m.p.toNat - 1)) (m.sh.take i))), z1, z2]
theorem after_ok {st pl s0 w : Int} {C : List Int} {ms : List Mv} {m : Mv} {k : Nat} {s : Int} {X : List Int} (hm : ms[k]? = some m) (hX : X.length = pl.toNat) (ok : MvOk st pl m) (hp : pos m s X = true) : g_after [mcD st pl s0 C w ms, rwD (s, X), .int k] = .ok (.sh, rwD (m.t, aft m X)) := by
  have e1 := poss_ok (s0 := s0) (w := w) (C := C) (s := s) hm hX ok
  rw [hp] at e1
  obtain ⟨_, ⟨p1, p2⟩, _, ⟨q1, q2⟩, o1, l1, r1⟩ := ok
  refine def_is rfl ?_
  unfold b_after
  refine s_if (t := false) (by simp -implicitDefEqProofs [e1]) (fun z => by cases z) fun _ => ?_
  rw [List.nil_append, ss_cons]; simp -implicitDefEqProofs [frz_cons, mv_at hm]
  rw [ss_cons]; simp -implicitDefEqProofs [frz_cons]
  rw [ss_cons]; simp -implicitDefEqProofs (disch := omega) [placed_i, -List.map_set, set_int, fold_il]
  refine s_for (t := .sh) (ds := m.sh.map prD) (I := aInv (mcD st pl s0 C w ms) s X k m) (by rw [frz_cons]; rfl) (src_prs (by simp -implicitDefEqProofs)) rfl ⟨_, _, rfl⟩ ?_ ?_
  · rintro i d e hd ⟨z1, z2, rfl⟩
    rw [List.getElem?_map, Option.map_eq_some_iff] at hd
    obtain ⟨r, hr, rfl⟩ := hd
    obtain ⟨b1, b2, b3, b4⟩ := r1 r (List.mem_of_getElem? hr)
    refine ⟨_, by simp -implicitDefEqProofs; rfl, ?_⟩
    have ln : (shf (X.set m.p.toNat (gi X m.p.toNat - 1)) (m.sh.take i)).length = pl.toNat := by rw [shf_len, List.length_set, hX]
    unfold aInv
    rw [take_snoc hr, shf_snoc]
    generalize shf (X.set m.p.toNat (gi X m.p.toNat - 1)) (m.sh.take i) = Y at ln
    rw [ss_cons]; simp -implicitDefEqProofs (disch := omega) [ixi, placed_i, -List.map_set, set_int, fold_il]
    have ln2 : (Y.set r.2.toNat (gi Y r.2.toNat + gi Y r.1.toNat)).length = pl.toNat := by rw [List.length_set, ln]
    rw [ss_cons]; simp -implicitDefEqProofs (disch := omega) [placed_i, -List.map_set, set_int, fold_il]
    first | exact ⟨_, _, rfl⟩ | rfl | simp [sh1]
  · rintro e ⟨z1, z2, rfl⟩
    rw [List.length_map, List.take_length]
    have ln : (shf (X.set m.p.toNat (gi X m.p.toNat - 1)) m.sh).length = pl.toNat := by rw [shf_len, List.length_set, hX]
    unfold aft
    generalize shf (X.set m.p.toNat (gi X m.p.toNat - 1)) m.sh = Y at ln
    rw [ss_cons]; simp -implicitDefEqProofs (disch := omega) [placed_i, -List.map_set, set_int, fold_il]
    have ln2 : (Y.set m.q.toNat (gi Y m.q.toNat + 1)).length = pl.toNat := by rw [List.length_set, ln]
    generalize Y.set m.q.toNat (gi Y m.q.toNat + 1) = Z at ln2
    cases ho : m.o with
    | none =>
      refine s_if (t := false) (by simp -implicitDefEqProofs [oD, isNone]) (fun z => by cases z) fun _ => ?_
      rw [List.nil_append, ss_cons]; simp -implicitDefEqProofs [frz_cons, opt1, rwD]
    | some x =>
      obtain ⟨x1, x2⟩ := o1 x ho
      refine s_if (t := true) (by simp -implicitDefEqProofs [oD, isNone]) (fun _ => ?_) (fun z => by cases z)
      rw [List.cons_append, ss_cons]; simp -implicitDefEqProofs (disch := omega) [oD, placed_i, -List.map_set, set_int, fold_il]
      rw [ss_cons]; simp -implicitDefEqProofs [frz_cons, opt1, rwD]
def canL (ms : List Mv) (s : Int) (X : List Int) : List Int := ((List.range ms.length).filter fun k => (ms[k]?.map fun m => pos m s X).getD false).map fun k : Nat => (k : Int)
theorem moves_ok {st pl s0 w : Int} {C : List Int} {ms : List Mv} {s : Int} {X : List Int} (hX : X.length = pl.toNat) (hl : ms.length ≤ 1000) (ok : ∀ m ∈ ms, MvOk st pl m) : g_possible_moves [mcD st pl s0 C w ms, rwD (s, X)] = .ok (.ow, il (canL ms s X)) := by
  refine def_is rfl ?_
  unfold b_possible_moves
  have hr : evSrc G_after (.rg1 (.bi .len (.cons (.ix (.var 0) (.cst (.int 4))) .nil))) [.sh (mcD st pl s0 C w ms), .sh (rwD (s, X)), .no] = .ok (.sh, (List.range ms.length).map fun x : Nat => .int x) := by
    simp -implicitDefEqProofs (disch := omega) [small_nat]
    simp [ranged]
  rw [ss_cons, y_ret, frz_nil, List.map_cons, List.map_cons, List.map_nil]
  rw [show ([Slot.sh (mcD st pl s0 C w ms), Slot.sh (rwD (s, X))] ++ List.replicate (3 - [mcD st pl s0 C w ms, rwD (s, X)].length) Slot.no : PV.Env) = [.sh (mcD st pl s0 C w ms), .sh (rwD (s, X)), .no] from rfl]
  rw [e_filter (l := List.range ms.length) (w := fun x : Nat => .int x) (h := fun x : Nat => .int x) (p := fun k => (ms[k]?.map fun m => pos m s X).getD false) hr (by rw [List.length_range]; show ms.length ≤ 16000000; omega) (fun x hx => by
    have hx := List.mem_range.mp hx
    have hm : ms[x]? = some ms[x] := List.getElem?_eq_getElem hx
    have e1 := poss_ok (s0 := s0) (w := w) (C := C) (s := s) hm hX (ok _ (List.getElem_mem hx))
    rw [hm]
    show cprItem _ _ _ _ _ _ _ = .ok (if pos ms[x] s X then _ else _)
    cases z : pos ms[x] s X <;> rw [z] at e1 <;> simp -implicitDefEqProofs [cprItem, wipeE, e1])]
  simp -implicitDefEqProofs [canL, il_def, Function.comp]
theorem start_ok {st pl s0 w : Int} {C : List Int} {ms : List Mv} {k : Int} (h : 0 ≤ k) (hw : 0 ≤ w) (hw2 : w < C.length) : g_start_with [mcD st pl s0 C w ms, .int k] = .ok (.sh, rwD (s0, C.set w.toNat (gi C w.toNat + k))) := by
  refine def_is rfl ?_
  unfold b_start_with
  refine s_if (t := false) (by simp -implicitDefEqProofs [h]) (fun z => by cases z) fun _ => ?_
  rw [List.nil_append, ss_cons]; simp -implicitDefEqProofs [frz_cons]
  rw [ss_cons]; simp -implicitDefEqProofs [frz_cons, il_def]
  rw [← il_def]
  rw [ss_cons]; simp -implicitDefEqProofs (disch := omega) [placed_i, -List.map_set, set_int, fold_il]
  rw [ss_cons]; simp -implicitDefEqProofs [frz_cons, rwD]
theorem mem_can {ms : List Mv} {s : Int} {X : List Int} {k : Nat} {m : Mv} (hm : ms[k]? = some m) : ((k : Int) ∈ canL ms s X) ↔ pos m s X = true := by
  unfold canL
  rw [List.mem_map]
  constructor
  · rintro ⟨j, hj, e⟩
    obtain rfl : j = k := by omega
    have := (List.mem_filter.mp hj).2
    rw [hm] at this
    exact this
  · intro h
    refine ⟨k, List.mem_filter.mpr ⟨List.mem_range.mpr (List.getElem?_eq_some_iff.mp hm).1, ?_⟩, rfl⟩
    rw [hm]
    exact h

/-! a shortest run -/
theorem ly_get {L : List (List Row)} {i : Nat} {d : D} (h : (L.map rwsD)[i]? = some d) : ∃ l, L[i]? = some l ∧ d = rwsD l := by
  rw [List.getElem?_map, Option.map_eq_some_iff] at h
  obtain ⟨l, hl, rfl⟩ := h
  exact ⟨l, hl, rfl⟩
def rkInv (A : D) (Ls : List (List Row)) (x : Row) (i : Nat) (e : PV.Env) : Prop := ∃ z2 z3 : Slot, e = [.sh A, .sh (lyD Ls), z2, z3] ∧ ∀ j < i, ∀ M, Ls[j]? = some M → abv M x = false
theorem rank_ok {Ls : List (List Row)} {x : Row} {n : Nat} {L : List Row} (hx : x.2.length ≤ 1000) (hl : ∀ L ∈ Ls, L.length ≤ 2000) (hn : Ls[n]? = some L) (ha : abv L x = true) (hb : ∀ j < n, ∀ M, Ls[j]? = some M → abv M x = false) : g_rank_of [rwD x, lyD Ls] = .ok (.sh, .int n) := by
  refine def_is rfl ?_
  unfold b_rank_of
  refine s_for (t := .sh) (ds := enumD 0 (Ls.map rwsD)) (I := rkInv (rwD x) Ls x) (by rw [frz_cons]; rfl) (by simp -implicitDefEqProofs [lyD]) rfl ⟨_, _, rfl, by simp⟩ ?_ ?_
  · rintro i d e hd ⟨z2, z3, rfl, k⟩
    obtain ⟨y, hy, rfl⟩ := enum_get _ _ _ _ hd
    obtain ⟨M, hM, rfl⟩ := ly_get hy
    have ea := above_ok (t := .sh) (r := x) (l := M) hx (by have := hl M (List.mem_of_getElem? hM); omega)
    have btl : ∀ {env : PV.Env} {i : Nat}, bindT (.tp [2, 3]) (.sh, .tuple [.int (i : Int), rwsD M]) env = some ((env.set 2 (.sh (.int i))).set 3 (.sh (rwsD M))) := fun {env i} => rfl
    rw [Nat.zero_add]
    refine ⟨_, btl, s_if (t := abv M x) (by simp -implicitDefEqProofs [ea]) (fun q => ?_) fun q => ?_⟩
    · have : i = n := by
        by_cases z : i < n
        · rw [hb i z M hM] at q; cases q
        · by_cases z2 : n < i
          · rw [k n z2 L hn] at ha; cases ha
          · omega
      subst this
      rw [List.cons_append, ss_cons]; simp -implicitDefEqProofs
    · rw [List.nil_append, ss_nil]
      refine ⟨_, _, rfl, fun j hj M' hM' => ?_⟩
      by_cases z : j = i
      · subst z
        rw [hM] at hM'
        obtain rfl := Option.some.inj hM'
        exact q
      · exact k j (by omega) M' hM'
  · rintro e ⟨z2, z3, rfl, k⟩
    rw [enum_len, List.length_map] at k
    have := k n (List.getElem?_eq_some_iff.mp hn).1 L hn
    rw [ha] at this
    cases this
def nsInv (q : Slot → Slot → PV.Env) (ms : List Mv) (L : List Row) (x : Row) (c : List Int) (i : Nat) (e : PV.Env) : Prop := ∃ z3 z4 : Slot, e = q z3 z4 ∧ ∀ k ∈ c.take i, ∀ m, ms[k.toNat]? = some m → abv L (m.t, aft m x.2) = false
theorem can_asc (ms : List Mv) (s : Int) (X : List Int) : (canL ms s X).Pairwise (· < ·) := by
  unfold canL
  rw [List.pairwise_map]
  refine List.Pairwise.imp (fun {a b} h => ?_) (List.Pairwise.filter _ List.pairwise_lt_range)
  omega
theorem pw_take {c : List Int} (h : c.Pairwise (· < ·)) {i : Nat} {n k : Int} (hi : c[i]? = some n) (hk : k ∈ c) (hlt : k < n) : k ∈ c.take i := by
  have hil := (List.getElem?_eq_some_iff.mp hi).1
  have e : c = c.take i ++ c.drop i := (List.take_append_drop i c).symm
  rw [e] at hk
  rcases List.mem_append.mp hk with hk | hk
  · exact hk
  · rw [List.drop_eq_getElem_cons hil, (List.getElem?_eq_some_iff.mp hi).2] at hk
    have h2 : (c.drop i).Pairwise (· < ·) := h.sublist (List.drop_sublist i c)
    rw [List.drop_eq_getElem_cons hil, (List.getElem?_eq_some_iff.mp hi).2] at h2
    rcases List.mem_cons.mp hk with hk | hk
    · omega
    · have := (List.pairwise_cons.mp h2).1 k hk
      omega
theorem step_ok {st pl s0 w : Int} {C : List Int} {ms : List Mv} {L : List Row} {x : Row} (ok : MsOk st pl ms) (hx : Good pl x) (hl : L.length ≤ 2000) (he : ∃ m ∈ ms, pos m x.1 x.2 = true ∧ abv L (m.t, aft m x.2) = true) :
    ∃ (k : Nat) (m : Mv), ms[k]? = some m ∧ pos m x.1 x.2 = true ∧ abv L (m.t, aft m x.2) = true ∧ (∀ k' < k, ∀ m', ms[k']? = some m' → pos m' x.1 x.2 = true → abv L (m'.t, aft m' x.2) = false) ∧ g_next_step [mcD st pl s0 C w ms, rwD x, rwsD L] = .ok (.sh, .tuple [.int k, rwD (m.t, aft m x.2)]) := by
  suffices hh : ∃ o d, g_next_step [mcD st pl s0 C w ms, rwD x, rwsD L] = .ok (o, d) ∧ o = .sh ∧ ∃ (k : Nat) (m : Mv), ms[k]? = some m ∧ pos m x.1 x.2 = true ∧ abv L (m.t, aft m x.2) = true ∧ (∀ k' < k, ∀ m', ms[k']? = some m' → pos m' x.1 x.2 = true → abv L (m'.t, aft m' x.2) = false) ∧ d = .tuple [.int k, rwD (m.t, aft m x.2)] by
    obtain ⟨_, _, e, rfl, k, m, h1, h2, h3, h4, rfl⟩ := hh
    exact ⟨k, m, h1, h2, h3, h4, e⟩
  have p2 := ok.p2
  have em := moves_ok (s0 := s0) (w := w) (C := C) (s := x.1) (X := x.2) hx.len ok.len ok.ok
  have hx' : (x.1, x.2) = x := rfl
  rw [hx'] at em
  have cm := fun {k : Nat} {m : Mv} (h : ms[k]? = some m) => mem_can (s := x.1) (X := x.2) h
  have cn : ∀ k ∈ canL ms x.1 x.2, 0 ≤ k ∧ k < ms.length := fun k hk => by
    unfold canL at hk
    obtain ⟨j, hj, rfl⟩ := List.mem_map.mp hk
    have := List.mem_range.mp (List.mem_filter.mp hj).1
    omega
  have ca := can_asc ms x.1 x.2
  refine def_ret rfl ?_
  unfold b_next_step
  generalize canL ms x.1 x.2 = c at em cm cn ca
  refine s_for (t := .ow) (ds := c.map .int) (I := nsInv (fun z3 z4 => [.sh (mcD st pl s0 C w ms), .sh (rwD x), .sh (rwsD L), z3, z4]) ms L x c) (by rw [frz_cons]; rfl) (by simp -implicitDefEqProofs [em, il_def]) rfl ⟨_, _, rfl, by simp⟩ ?_ ?_
  · rintro i d e hd ⟨z3, z4, rfl, h⟩
    rw [List.getElem?_map, Option.map_eq_some_iff] at hd
    obtain ⟨k, hk, rfl⟩ := hd
    have km := List.mem_of_getElem? hk
    obtain ⟨k1, k2⟩ := cn k km
    obtain ⟨n, rfl⟩ : ∃ n : Nat, k = n := ⟨k.toNat, by omega⟩
    have hm : ms[n]? = some (ms[n]'(by omega)) := List.getElem?_eq_getElem _
    generalize ms[n]'(by omega) = m at hm
    have mm := List.mem_of_getElem? hm
    have hp := (cm hm).mp km
    have ea := after_ok (s0 := s0) (w := w) (C := C) hm hx.len (ok.ok m mm) hp
    rw [hx'] at ea
    have gy := hx.aft hp
    refine ⟨_, by simp -implicitDefEqProofs; rfl, ?_⟩
    have ctr : ∀ y : Row, callTag .sh .sh (rwD y) = .sh := fun _ => rfl
    have prw : ∀ {e : PV.Env} {n : Nat} {y : Row}, put e n (.sh, rwD y) = .nx (e.set n (.sh (rwD y))) := fun {e n y} => rfl
    rw [ss_cons]; simp -implicitDefEqProofs [frz_cons, ea, ctr, prw]
    have eb := above_ok (t := .sh) (r := (m.t, aft m x.2)) (l := L) (by rw [gy.len]; omega) (by omega)
    refine s_if (t := abv L (m.t, aft m x.2)) (by simp -implicitDefEqProofs [eb]) (fun q => ?_) fun q => ?_
    · rw [List.cons_append, ss_cons]; simp -implicitDefEqProofs [frz_cons]
      exact ⟨n, m, hm, hp, q, fun k' hk' m' hm' hp' => h k' (pw_take ca hk ((cm hm').mpr hp') (by omega)) m' (by rw [Int.toNat_natCast]; exact hm'), rfl, rfl⟩
    · rw [List.nil_append, ss_nil]
      refine ⟨_, _, rfl, fun k' hk' m' hm' => ?_⟩
      rw [take_snoc hk] at hk'
      rcases List.mem_append.mp hk' with hk' | hk'
      · exact h k' hk' m' hm'
      · rw [List.mem_singleton.mp hk', Int.toNat_natCast, hm] at hm'
        obtain rfl := Option.some.inj hm'
        exact q
  · rintro e ⟨z3, z4, rfl, h⟩
    rw [List.length_map, List.take_length] at h
    obtain ⟨m, hm, hp, q⟩ := he
    obtain ⟨n, hn, e⟩ := List.mem_iff_getElem.mp hm
    have hm' : ms[n]? = some m := by rw [List.getElem?_eq_getElem hn, e]
    have := h n ((cm hm').mpr hp) m (by rw [Int.toNat_natCast]; exact hm')
    rw [q] at this
    cases this
def IsRun (ms : List Mv) (bs : List Row) : Row → List Int → Prop
  | x, [] => abv bs x = true
  | x, k :: r => ∃ m, 0 ≤ k ∧ ms[k.toNat]? = some m ∧ pos m x.1 x.2 = true ∧ IsRun ms bs (m.t, aft m x.2) r
theorem rch_step {ms : List Mv} {bs : List Row} {n : Nat} {x : Row} (h : rch ms bs (n + 1) x = true) (h2 : rch ms bs n x = false) : ∃ m ∈ ms, pos m x.1 x.2 = true ∧ rch ms bs n (m.t, aft m x.2) = true := by
  have h : (rch ms bs n x || ms.any fun m => pos m x.1 x.2 && rch ms bs n (m.t, aft m x.2)) = true := h
  rw [h2, Bool.false_or, List.any_eq_true] at h
  obtain ⟨m, hm, q⟩ := h
  rw [Bool.and_eq_true] at q
  exact ⟨m, hm, q⟩
theorem rch_back {ms : List Mv} {bs : List Row} {n : Nat} {x : Row} {m : Mv} (hm : m ∈ ms) (hp : pos m x.1 x.2 = true) (h : rch ms bs n (m.t, aft m x.2) = true) : rch ms bs (n + 1) x = true := by
  show (rch ms bs n x || ms.any fun m => pos m x.1 x.2 && rch ms bs n (m.t, aft m x.2)) = true
  rw [Bool.or_eq_true, List.any_eq_true]
  exact .inr ⟨m, hm, by rw [hp, h]; rfl⟩
theorem rch_mono {ms : List Mv} {bs : List Row} {n k : Nat} {x : Row} (hk : n ≤ k) (h : rch ms bs n x = true) : rch ms bs k x = true := by
  rw [rch_exs] at h ⊢
  obtain ⟨j, hj, e⟩ := h
  exact ⟨j, by omega, e⟩
/-- the least of the shortest runs -/
def LeRun (ms : List Mv) (bs : List Row) : Row → List Int → Prop
  | x, [] => abv bs x = true
  | x, k :: r => ∃ m, 0 ≤ k ∧ ms[k.toNat]? = some m ∧ pos m x.1 x.2 = true ∧ (∀ k' < k.toNat, ∀ m', ms[k']? = some m' → pos m' x.1 x.2 = true → exs ms bs r.length (m'.t, aft m' x.2) = false) ∧ LeRun ms bs (m.t, aft m x.2) r
theorem le_exs {ms : List Mv} {bs : List Row} : ∀ {r : List Int} {x : Row}, LeRun ms bs x r → exs ms bs r.length x = true
  | [], x, h => h
  | k :: r, x, ⟨m, _, hm, hp, _, q⟩ => List.any_eq_true.mpr ⟨m, List.mem_of_getElem? hm, by rw [hp, le_exs q]; rfl⟩
def srInv (A B : D) (pl : Int) (ms : List Mv) (bs : List Row) (x : Row) (n : Nat) (i : Nat) (e : PV.Env) : Prop := ∃ (y : Row) (run : List Int) (z4 z5 : Slot), e = [.sh A, .sh B, .sh (rwD y), .ow (il run), z4, z5] ∧ run.length = i ∧ Good pl y ∧ (∀ rest, rest.length = n - i → LeRun ms bs y rest → LeRun ms bs x (run ++ rest)) ∧ rch ms bs (n - i) y = true ∧ (∀ j < n - i, rch ms bs j y = false) ∧ ∀ k ∈ run, 0 ≤ k ∧ k < ms.length
theorem srun_ok {st pl s0 w : Int} {C : List Int} {ms : List Mv} {bs : List Row} {T : Nat} {Ls : List (List Row)} {x : Row} {n : Nat} (ok : MsOk st pl ms) (ly : Lys st pl ms bs T Ls) (hx : Good pl x) (hn : n < Ls.length) (hN : Ls.length ≤ 1000000) (h1 : rch ms bs n x = true) (h2 : ∀ j < n, rch ms bs j x = false) :
    ∃ run : List Int, run.length = n ∧ LeRun ms bs x run ∧ (∀ k ∈ run, 0 ≤ k ∧ k < ms.length) ∧ g_shortest_run [mcD st pl s0 C w ms, lyD Ls, rwD x] = .ok (.ow, il run) := by
  suffices hh : ∃ o d, g_shortest_run [mcD st pl s0 C w ms, lyD Ls, rwD x] = .ok (o, d) ∧ o = .ow ∧ ∃ run, d = il run ∧ run.length = n ∧ LeRun ms bs x run ∧ ∀ k ∈ run, 0 ≤ k ∧ k < ms.length by
    obtain ⟨_, _, e, rfl, run, rfl, q1, q2, q3⟩ := hh
    exact ⟨run, q1, q2, q3, e⟩
  have p2 := ok.p2
  have at_ : ∀ j, j < Ls.length → ∃ L, Ls[j]? = some L := fun j hj => ⟨Ls[j], List.getElem?_eq_getElem hj⟩
  obtain ⟨L, hL⟩ := at_ n hn
  have er := rank_ok (x := x) (by rw [hx.len]; omega) ly.len hL (by rw [ly.lay n L hL x hx]; exact h1) fun j hj M hM => by rw [ly.lay j M hM x hx]; exact h2 j hj
  refine def_ret rfl ?_
  unfold b_shortest_run
  rw [ss_cons]; simp -implicitDefEqProofs
  rw [show PyData.list [] = il [] from rfl]
  refine s_for (t := .sh) (ds := rangedD n 0) (I := srInv (mcD st pl s0 C w ms) (lyD Ls) pl ms bs x n) rfl (by simp -implicitDefEqProofs (disch := omega) [er, small_nat]) rfl ⟨x, [], _, _, rfl, rfl, hx, fun rest _ h => h, h1, h2, by simp⟩ ?_ ?_
  · rintro i d e hd ⟨y, run, z4, z5, rfl, k1, gy, k2, k3, k4, k5⟩
    have hi : i < n := by have := (List.getElem?_eq_some_iff.mp hd).1; rw [rangedD_len] at this; omega
    rw [rangedD_get (by omega)] at hd
    obtain rfl := Option.some.inj hd
    obtain ⟨M, hM⟩ := at_ (n - i - 1) (by omega)
    have lM := ly.len M (List.mem_of_getElem? hM)
    have ex : ∃ m ∈ ms, pos m y.1 y.2 = true ∧ abv M (m.t, aft m y.2) = true := by
      rw [show n - i = (n - i - 1) + 1 by omega] at k3
      obtain ⟨m, hm, hp, q⟩ := rch_step k3 (k4 _ (by omega))
      exact ⟨m, hm, hp, by rw [ly.lay _ M hM _ (gy.aft hp)]; exact q⟩
    obtain ⟨k, m, hm, hp, q, lst, es⟩ := step_ok (s0 := s0) (w := w) (C := C) ok gy lM ex
    rw [ly.lay _ M hM _ (gy.aft hp)] at q
    have mm := List.mem_of_getElem? hm
    have hk := (List.getElem?_eq_some_iff.mp hm).1
    have ix : evIx (.sh, lyD Ls) (.int ((n : Int) - i - 1)) = .ok (.sh, rwsD M) := by
      unfold lyD
      rw [ixl_at (n := n - i - 1) (d := rwsD M) (by omega) (by rw [List.getElem?_map, hM]; rfl)]
      rfl
    have h3 : ∀ j < n - i - 1, rch ms bs j (m.t, aft m y.2) = false := fun j hj => by
      cases z : rch ms bs j (m.t, aft m y.2) with
      | false => rfl
      | true =>
        have := rch_back mm hp z
        rw [k4 (j + 1) (by omega)] at this
        cases this
    have h4 : ∀ rest, rest.length = n - (i + 1) → LeRun ms bs (m.t, aft m y.2) rest → LeRun ms bs x (run ++ [(k : Int)] ++ rest) := fun rest lr hr => by
      rw [List.append_assoc]
      refine k2 (k :: rest) (by rw [List.length_cons, lr]; omega) ⟨m, by omega, by rw [Int.toNat_natCast]; exact hm, hp, fun k' hk' m' hm' hp' => ?_, hr⟩
      rw [Int.toNat_natCast] at hk'
      have := lst k' hk' m' hm' hp'
      rw [ly.lay _ M hM _ (gy.aft hp')] at this
      cases z : exs ms bs rest.length (m'.t, aft m' y.2) with
      | false => rfl
      | true =>
        rw [(rch_exs (n - i - 1) _).mpr ⟨rest.length, by omega, z⟩] at this
        cases this
    have gz := gy.aft hp
    generalize (m.t, aft m y.2) = v at es q h3 h4 gz
    have btv : ∀ {env : PV.Env}, bindT (.tp [5, 2]) (.sh, .tuple [.int (k : Int), rwD v]) env = some ((env.set 5 (.sh (.int k))).set 2 (.sh (rwD v))) := fun {env} => rfl
    have hr : run.length < 16000000 := by omega
    refine ⟨_, by simp -implicitDefEqProofs; rfl, ?_⟩
    rw [ss_cons]; simp -implicitDefEqProofs [frz_cons, ix, es, btv]
    have owl : ∀ {l : List Slot}, ownL (.ow (il run) :: l) 0 = .ok (run.map .int) := fun {l} => rfl
    have sn : PyData.list (run.map PyData.int ++ [.int k]) = il (run ++ [(k : Int)]) := il_snoc
    rw [ss_cons]; simp -implicitDefEqProofs [frz_cons, owl, hr, sn]
    refine ⟨v, run ++ [(k : Int)], _, _, rfl, by simp [k1], gz, h4, by rw [show n - (i + 1) = n - i - 1 by omega]; exact q, fun j hj => h3 j (by omega), fun a ha => ?_⟩
    rcases List.mem_append.mp ha with ha | ha
    · exact k5 a ha
    · rw [List.mem_singleton.mp ha]
      omega
  · rintro e ⟨y, run, z4, z5, rfl, k1, gy, k2, k3, k4, k5⟩
    rw [rangedD_len, show ((n : Int) - 0).toNat = n by omega] at k1 k3
    rw [Nat.sub_self] at k3
    rw [ss_cons]; simp -implicitDefEqProofs
    have := k2 [] (by rw [rangedD_len]; simp) k3
    rw [List.append_nil] at this
    exact ⟨run, rfl, k1, this, k5⟩

/-! which crews are covered -/
def stt (s0 : Int) (C : List Int) (w : Nat) (n : Int) : Row := (s0, C.set w (gi C w + n))
theorem stt_len {s0 : Int} {C : List Int} {w : Nat} {n : Int} : (stt s0 C w n).2.length = C.length := List.length_set
theorem cr_nn {s0 : Int} {C : List Int} {w : Nat} {r : Row} {c : Int} (h : cr s0 C w r = some c) : 0 ≤ c := by
  unfold cr at h
  split at h
  · have := Option.some.inj h
    split at this <;> omega
  · cases h
theorem cr_cov {s0 : Int} {C : List Int} {w : Nat} {r : Row} {n : Int} (hr : r.2.length = C.length) (hw : w < C.length) (hn : 0 ≤ n) : cvr (stt s0 C w n) r = true ↔ ∃ c, cr s0 C w r = some c ∧ c ≤ n := by
  rw [cvr_iff (by rw [stt_len, hr])]
  have gs : ∀ j < C.length, gi (stt s0 C w n).2 j = if j = w then gi C w + n else gi C j := fun j _ => gi_set hw
  have ge : oth C r.2 w = true ↔ ∀ j < r.2.length, j ≠ w → gi r.2 j ≤ gi C j := by
    constructor
    · intro q j hj n
      unfold oth at q
      rw [List.all_eq_true] at q
      have := q j (List.mem_range.mpr hj)
      simpa [n] using this
    · exact oth_of
  unfold cr
  constructor
  · rintro ⟨h1, h2⟩
    have h1 : s0 = r.1 := h1
    have o : oth C r.2 w = true := ge.mpr fun j hj n => by have := h2 j hj; rwa [gs j (by omega), if_neg n] at this
    refine ⟨_, if_pos ⟨h1, o⟩, ?_⟩
    have := h2 w (by omega)
    rw [gs w hw, if_pos rfl] at this
    split <;> omega
  · rintro ⟨c, hc, hcn⟩
    split at hc
    · next q =>
      have hc := Option.some.inj hc
      refine ⟨q.1, fun j hj => ?_⟩
      rw [gs j (by omega)]
      by_cases z : j = w
      · rw [if_pos z, z]
        split at hc <;> omega
      · rw [if_neg z]
        exact ge.mp q.2 j hj z
    · cases hc
theorem best_none {s0 : Int} {C : List Int} {w : Nat} : ∀ {n : Nat} {l : List Row}, l.length = n → (best s0 C w l = none ↔ ∀ r ∈ l, cr s0 C w r = none)
  | 0, l, h => by
    obtain rfl := List.length_eq_zero_iff.mp h
    simp [best]
  | n + 1, l, h => by
    obtain ⟨l', r, rfl⟩ : ∃ l' r, l = l' ++ [r] := by
      have : l ≠ [] := by intro z; rw [z] at h; cases h
      exact ⟨_, _, (List.dropLast_concat_getLast this).symm⟩
    have hl : l'.length = n := by simpa using h
    have ih := best_none (s0 := s0) (C := C) (w := w) hl
    rw [best_snoc]
    constructor
    · intro q
      cases hc : cr s0 C w r with
      | none =>
        rw [hc] at q
        intro x hx
        rcases List.mem_append.mp hx with hx | hx
        · exact ih.mp q x hx
        · rw [List.mem_singleton.mp hx]; exact hc
      | some c =>
        rw [hc] at q
        unfold stp at q
        cases hb : best s0 C w l' with
        | none => rw [hb] at q; cases q
        | some b => rw [hb] at q; simp only at q; split at q <;> cases q
    · intro q
      rw [q r (List.mem_append_right _ (List.mem_singleton.mpr rfl))]
      exact ih.mpr fun x hx => q x (List.mem_append_left _ hx)
theorem best_some {s0 : Int} {C : List Int} {w : Nat} : ∀ {n : Nat} {l : List Row} {c : Int}, l.length = n → best s0 C w l = some c → (∃ r ∈ l, cr s0 C w r = some c) ∧ ∀ r ∈ l, ∀ d, cr s0 C w r = some d → c ≤ d
  | 0, l, c, h, hb => by
    obtain rfl := List.length_eq_zero_iff.mp h
    cases hb
  | n + 1, l, c, h, hb => by
    obtain ⟨l', r, rfl⟩ : ∃ l' r, l = l' ++ [r] := by
      have : l ≠ [] := by intro z; rw [z] at h; cases h
      exact ⟨_, _, (List.dropLast_concat_getLast this).symm⟩
    have hl : l'.length = n := by simpa using h
    have rl : r ∈ l' ++ [r] := List.mem_append_right _ (List.mem_singleton.mpr rfl)
    rw [best_snoc] at hb
    cases hc : cr s0 C w r with
    | none =>
      rw [hc] at hb
      obtain ⟨⟨x, hx, e⟩, k⟩ := best_some hl hb
      refine ⟨⟨x, List.mem_append_left _ hx, e⟩, fun y hy d hd => ?_⟩
      rcases List.mem_append.mp hy with hy | hy
      · exact k y hy d hd
      · rw [List.mem_singleton.mp hy, hc] at hd; cases hd
    | some a =>
      rw [hc] at hb
      cases hp : best s0 C w l' with
      | none =>
        rw [hp] at hb
        obtain rfl := Option.some.inj hb
        refine ⟨⟨r, rl, hc⟩, fun y hy d hd => ?_⟩
        rcases List.mem_append.mp hy with hy | hy
        · rw [(best_none hl).mp hp y hy] at hd; cases hd
        · rw [List.mem_singleton.mp hy, hc] at hd
          have := Option.some.inj hd
          omega
      | some b =>
        rw [hp] at hb
        obtain ⟨⟨x, hx, e⟩, k⟩ := best_some hl hp
        unfold stp at hb
        simp only at hb
        split at hb
        · have := Option.some.inj hb
          refine ⟨⟨r, rl, by rw [hc, this]⟩, fun y hy d hd => ?_⟩
          rcases List.mem_append.mp hy with hy | hy
          · have := k y hy d hd; omega
          · rw [List.mem_singleton.mp hy, hc] at hd
            have := Option.some.inj hd
            omega
        · have := Option.some.inj hb
          refine ⟨⟨x, List.mem_append_left _ hx, by rw [e, this]⟩, fun y hy d hd => ?_⟩
          rcases List.mem_append.mp hy with hy | hy
          · have := k y hy d hd; omega
          · rw [List.mem_singleton.mp hy, hc] at hd
            have := Option.some.inj hd
            omega
theorem best_abv {s0 : Int} {C : List Int} {w : Nat} {l : List Row} {n : Int} (hl : ∀ r ∈ l, r.2.length = C.length) (hw : w < C.length) (hn : 0 ≤ n) : abv l (stt s0 C w n) = true ↔ ∃ c, best s0 C w l = some c ∧ c ≤ n := by
  rw [abv_iff]
  constructor
  · rintro ⟨r, hr, q⟩
    obtain ⟨c, hc, hcn⟩ := (cr_cov (hl r hr) hw hn).mp q
    cases hb : best s0 C w l with
    | none => rw [(best_none rfl).mp hb r hr] at hc; cases hc
    | some b => exact ⟨b, rfl, by have := (best_some rfl hb).2 r hr c hc; omega⟩
  · rintro ⟨c, hc, hcn⟩
    obtain ⟨⟨r, hr, e⟩, _⟩ := best_some rfl hc
    exact ⟨r, hr, (cr_cov (hl r hr) hw hn).mpr ⟨c, e, hcn⟩⟩
theorem rch_least {ms : List Mv} {bs : List Row} {x : Row} : ∀ {n : Nat}, rch ms bs n x = true → ∃ m ≤ n, rch ms bs m x = true ∧ ∀ j < m, rch ms bs j x = false
  | 0, h => ⟨0, Nat.le_refl _, h, by simp⟩
  | n + 1, h => by
    cases z : rch ms bs n x with
    | true =>
      obtain ⟨m, h1, h2, h3⟩ := rch_least z
      exact ⟨m, by omega, h2, h3⟩
    | false =>
      refine ⟨n + 1, Nat.le_refl _, h, fun j hj => ?_⟩
      cases y : rch ms bs j x with
      | false => rfl
      | true => rw [rch_mono (show j ≤ n by omega) y] at z; cases z
def neD (B : List Row) : D := .tuple [.str "never", rwsD B]
def poD (c : Int) (run : List Int) (B : List Row) : D := .tuple [.str "possible", .int c, il run, rwsD B]
def ukD : D := .tuple [.str "unknown"]

/-! decide, with trees -/
theorem stt_def {s0 : Int} {C : List Int} {w : Nat} {n : Int} : stt s0 C w n = (s0, C.set w (gi C w + n)) := rfl
theorem last_abv {st pl : Int} {ms : List Mv} {bs : List Row} {T fu : Nat} {Ls : List (List Row)} {B : List Row} (ly : LyOk st pl ms bs T fu Ls) (hB : Ls[Ls.length - 1]? = some B) {i : Nat} (hi : Ls.length - 1 ≤ i) {x : Row} (hx : Good pl x) : abv B x = rch ms bs i x := by
  have := ly.fix i B (by rw [show min i (Ls.length - 1) = Ls.length - 1 by omega]; exact hB) x hx
  exact this
theorem lstart_ok {st pl s0 : Int} {w : Nat} {C : List Int} {ms : List Mv} {k : Int} (hw : w < C.length) : g__law_start [mcD st pl s0 C w ms, .int k] = .ok (.sh, rwD (stt s0 C w k)) := by
  refine def_is rfl ?_
  unfold b__law_start
  rw [ss_cons]; simp -implicitDefEqProofs [fold_il]
  rw [ss_cons]; simp -implicitDefEqProofs (disch := omega) [ixi, placed_i, -List.map_set, set_int, fold_il]
  rw [ss_cons]; simp -implicitDefEqProofs [frz_cons, stt, rwD]
/-- what decide answers -/
inductive Ans (pl : Int) : D → Prop where
  | uk : Ans pl ukD
  | ne (B : List Row) (h : ∀ r ∈ B, r.2.length = pl.toNat) (hl : B.length ≤ 2000) : Ans pl (neD B)
  | po (c : Int) (run : List Int) (B : List Row) (h : ∀ r ∈ B, r.2.length = pl.toNat) (hl : B.length ≤ 2000) : Ans pl (poD c run B)
theorem ly_last {Ls : List (List Row)} {B : List Row} (h1 : 1 ≤ Ls.length) (hB : Ls[Ls.length - 1]? = some B) : L2.atI (Ls.map rwsD) (-1) = some (rwsD B) := by
  have h1' : ((Ls.map rwsD).length : Int) = Ls.length := by rw [List.length_map]
  have h2 : (Ls.map rwsD)[Ls.length - 1]? = some (rwsD B) := by rw [List.getElem?_map, hB]; rfl
  simp only [L2.atI, L2.ixN, h1']
  rw [if_neg (by omega), if_pos (by omega), show (-1 + (Ls.length : Int)).toNat = Ls.length - 1 by omega]
  exact h2
abbrev dE0 (A B : D) (f : Int) : PV.Env := [Slot.sh A, .sh B, .sh (.int f), .no, .no, .no, .no]
theorem dec_un {G : Gam} {A B : D} {f : Int} {X : DecX} : evDec G 7 3 X [A, B, .int f] = (ev G X.e1 (dE0 A B f)).bind fun x1 => (nx0 (treeOf x1)).bind fun d1 => evDecB G X (dE0 A B f) d1 := by
  unfold evDec
  rw [if_neg (by simp)]
  rfl
section
variable {G : Gam} {A B d1 b d4 : D} {f k : Int} {X : DecX} {t : Tag} {ls : List D} {j : Nat} {t5 : Tag} {d5 : D}
theorem dec_uk (h1 : ev G X.e1 (dE0 A B f) = .ok (t, d1)) (ht : treeOf (t, d1) = .ok d1) (h2 : evT G X.c1 ((dE0 A B f).set 3 (.sh d1)) = .ok true) : evDec G 7 3 X [A, B, .int f] = .ok (.tr, .tuple [.str X.u]) := by
  rw [dec_un, h1]
  simp only [nx0, PV.R.bind, ht]
  unfold evDecB
  rw [h2]
  simp only [nx0, PV.R.bind, if_true]
theorem dec_ne (h1 : ev G X.e1 (dE0 A B f) = .ok (t, d1)) (ht : treeOf (t, d1) = .ok d1) (h2 : evT G X.c1 ((dE0 A B f).set 3 (.sh d1)) = .ok false) (h3 : ev G X.e2 ((dE0 A B f).set 3 (.sh d1)) = .ok (.sh, .int k)) (h4 : itemsR d1 = .ok ls) (h5 : PV.placed ls k = .ok (j, b))
    (h6 : ev G X.e4 (((dE0 A B f).set 3 (.sh d1)).set 4 (.sh b)) = .ok (.sh, d4)) (h7 : scal d4 = true) (h8 : evT G X.c2 ((((dE0 A B f).set 3 (.sh d1)).set 4 (.sh b)).set 5 (.sh d4)) = .ok true) : evDec G 7 3 X [A, B, .int f] = .ok (.tr, .tuple [.str X.nv, b]) := by
  rw [dec_un, h1]
  simp only [nx0, PV.R.bind, ht]
  unfold evDecB
  rw [h2]
  have h7' : scalD (Tag.sh, d4) = .ok d4 := if_pos h7
  simp only [nx0, PV.R.bind, Bool.false_eq_true, if_false, h3, isInt, h4, h5, h6, h7', h8, if_true]
theorem dec_po (h1 : ev G X.e1 (dE0 A B f) = .ok (t, d1)) (ht : treeOf (t, d1) = .ok d1) (h2 : evT G X.c1 ((dE0 A B f).set 3 (.sh d1)) = .ok false) (h3 : ev G X.e2 ((dE0 A B f).set 3 (.sh d1)) = .ok (.sh, .int k)) (h4 : itemsR d1 = .ok ls) (h5 : PV.placed ls k = .ok (j, b))
    (h6 : ev G X.e4 (((dE0 A B f).set 3 (.sh d1)).set 4 (.sh b)) = .ok (.sh, d4)) (h7 : scal d4 = true) (h8 : evT G X.c2 ((((dE0 A B f).set 3 (.sh d1)).set 4 (.sh b)).set 5 (.sh d4)) = .ok false)
    (h9 : ev G X.e5 ((((dE0 A B f).set 3 (.sh d1)).set 4 (.sh b)).set 5 (.sh d4)) = .ok (t5, d5)) (h10 : treeOf (t5, d5) = .ok d5) : evDec G 7 3 X [A, B, .int f] = .ok (.tr, .tuple [.str X.po, d4, d5, b]) := by
  rw [dec_un, h1]
  simp only [nx0, PV.R.bind, ht]
  unfold evDecB
  rw [h2]
  have h7' : scalD (Tag.sh, d4) = .ok d4 := if_pos h7
  simp only [nx0, PV.R.bind, Bool.false_eq_true, if_false, h3, isInt, h4, h5, h6, h7', h8, h9, h10]
theorem dec_ex {c : Str} (h1 : ev G X.e1 (dE0 A B f) = .exc c) : evDec G 7 3 X [A, B, .int f] = .exc c := by
  rw [dec_un, h1]
  rfl
end
theorem decT {st pl s0 : Int} {w : Nat} {C : List Int} {ms : List Mv} {bs : List Row} {T fu : Nat} {o : Option (List (List Row))} (ok : MsOk st pl ms) (hC : C.length = pl.toNat) (nC : ∀ y ∈ C, 0 ≤ y) (hw : w < C.length) (hfu : fu ≤ 1000000) (ho : ∀ Ls, o = some Ls → LyOk st pl ms bs T fu Ls) :
    ∃ d, Ans pl d ∧ (o = none ↔ d = ukD) ∧ ∀ f : Int, g_layers [mcD st pl s0 C w ms, rwsD bs, .int f] = lyR o → g_decide [mcD st pl s0 C w ms, rwsD bs, .int f] = .ok (.tr, d) ∧ g__law_due [mcD st pl s0 C w ms, rwsD bs, .int f] = .ok (.sh, d) := by
  have p2 := ok.p2
  cases o with
  | none =>
    refine ⟨ukD, .uk, ⟨fun _ => rfl, fun _ => rfl⟩, fun f hf => ⟨?_, ?_⟩⟩
    · have e1 : ev G_shortest_run x_decide.e1 (dE0 (mcD st pl s0 C w ms) (rwsD bs) f) = .ok (.sh, .none) := by
        simp -implicitDefEqProofs [x_decide, x_callK lk_decide_layers, hf, lyR, dE0]
      exact dec_uk e1 rfl (by simp -implicitDefEqProofs [x_decide, isNone, dE0])
    · refine def_is rfl ?_
      unfold b__law_due
      rw [ss_cons]; simp -implicitDefEqProofs [frz_cons, x_callK lk__law_due_layers, hf, lyR, Tag.dm]
      refine s_if (t := true) (by simp -implicitDefEqProofs [isNone]) (fun _ => ?_) (fun z => by cases z)
      rw [List.cons_append, ss_cons]; simp -implicitDefEqProofs
      rfl
  | some Ls =>
    have ly := ho Ls rfl
    obtain ⟨ne1, ne2⟩ := ly.ne
    obtain ⟨B, hB⟩ : ∃ B, Ls[Ls.length - 1]? = some B := ⟨_, List.getElem?_eq_getElem (by omega)⟩
    have rB := ly.ly.row _ B hB
    have lB := ly.ly.len B (List.mem_of_getElem? hB)
    have lenB : ∀ r ∈ B, r.2.length = pl.toNat := fun r hr => (rB r hr).ht.len
    have nn : isNone (lyD Ls) = false := rfl
    have eC := leastc_ok (ms := ms) st pl s0 C w B (fun r hr => by rw [lenB r hr, hC]) hw (by omega)
    have len : ∀ t : Tag, evBi .len [(t, lyD Ls)] = .ok (.sh, .int (Ls.length : Int)) := fun t => by
      show PV.R.ok (Tag.sh, PyData.int ((Ls.map rwsD).length : Int)) = _
      simp
    have ix2 : evIx (.sh, lyD Ls) (.int ((Ls.length : Int) - 1)) = .ok (.sh, rwsD B) := by
      unfold lyD
      rw [ixl_at (n := Ls.length - 1) (d := rwsD B) (by omega) (by rw [List.getElem?_map, hB]; rfl)]
      rfl
    have pis : ∀ {e : PV.Env} {n : Nat} {L : List Row}, put e n (.sh, rwsD L) = .nx (e.set n (.sh (rwsD L))) := fun {e n L} => rfl
    have ply : ∀ {e : PV.Env} {n : Nat}, put e n (.sh, lyD Ls) = .nx (e.set n (.sh (lyD Ls))) := fun {e n} => rfl
    have ctl : callTag .sh .tr (lyD Ls) = .tr := rfl
    have ntl : nt .tr (lyD Ls) = .tr := rfl
    have ntw : ∀ t (L : List Row), nt t (rwsD L) = t := fun _ _ => rfl
    have hp : PV.placed (Ls.map rwsD) (-1) = .ok (Ls.length - 1, rwsD B) := by
      have h1 : L2.ixN (Ls.map rwsD).length (-1) = some (Ls.length - 1) := by
        unfold L2.ixN
        rw [List.length_map, if_neg (by omega), if_pos (by omega)]
        rw [show (-1 + (Ls.length : Int)).toNat = Ls.length - 1 by omega]
      unfold PV.placed
      rw [h1]
      show (match (Ls.map rwsD)[Ls.length - 1]? with | some d => PV.R.ok (Ls.length - 1, d) | none => .stuck) = _
      rw [List.getElem?_map, hB]
      rfl
    have e1 : ∀ f : Int, g_layers [mcD st pl s0 C w ms, rwsD bs, .int f] = lyR (some Ls) → ev G_shortest_run x_decide.e1 (dE0 (mcD st pl s0 C w ms) (rwsD bs) f) = .ok (.tr, lyD Ls) := fun f hf => by
      simp -implicitDefEqProofs [x_decide, x_callK lk_decide_layers, hf, lyR, ctl, dE0]
    have e2 : ∀ f : Int, evT G_shortest_run x_decide.c1 ((dE0 (mcD st pl s0 C w ms) (rwsD bs) f).set 3 (.sh (lyD Ls))) = .ok false := fun f => by
      simp -implicitDefEqProofs [x_decide, nn, dE0]
    have e3 : ∀ f : Int, ev G_shortest_run x_decide.e2 ((dE0 (mcD st pl s0 C w ms) (rwsD bs) f).set 3 (.sh (lyD Ls))) = .ok (.sh, .int (-1)) := fun f => by
      simp -implicitDefEqProofs [x_decide, dE0]
    cases hb : best s0 C w B with
    | none =>
      rw [hb] at eC
      have eC : g_least_crew [mcD st pl s0 C w ms, rwsD B] = .ok (.sh, .none) := eC
      refine ⟨neD B, .ne B lenB lB, ⟨fun z => (by cases z), fun z => by simp [neD, ukD] at z⟩, fun f hf => ⟨?_, ?_⟩⟩
      · exact dec_ne (e1 f hf) rfl (e2 f) (e3 f) rfl hp (d4 := .none) (by simp -implicitDefEqProofs [x_decide, eC, dE0]) rfl (by simp -implicitDefEqProofs [x_decide, isNone, dE0])
      · refine def_is rfl ?_
        unfold b__law_due
        rw [ss_cons]; simp -implicitDefEqProofs [frz_cons, x_callK lk__law_due_layers, hf, lyR, ctl, ntl, Tag.dm, ply]
        refine s_if (t := false) (by simp -implicitDefEqProofs [nn]) (fun z => by cases z) fun _ => ?_
        rw [List.nil_append, ss_cons]; simp -implicitDefEqProofs [len, ix2, pis]
        rw [ss_cons]; simp -implicitDefEqProofs [frz_cons, eC]
        refine s_if (t := true) (by simp -implicitDefEqProofs [isNone]) (fun _ => ?_) (fun z => by cases z)
        rw [List.cons_append, ss_cons]; simp -implicitDefEqProofs [frz_cons]
        rfl
    | some c =>
      rw [hb] at eC
      have eC : g_least_crew [mcD st pl s0 C w ms, rwsD B] = .ok (.sh, .int c) := eC
      obtain ⟨⟨r, hr, hcr⟩, _⟩ := best_some rfl hb
      have c0 : 0 ≤ c := cr_nn hcr
      have gx : Good pl (stt s0 C w c) := ⟨by rw [stt_len, hC], set_bd nC (by have := gi_bd (n := w) (P := fun y => 0 ≤ y) nC (by omega); omega)⟩
      have ab : abv B (stt s0 C w c) = true := abv_iff.mpr ⟨r, hr, (cr_cov (by rw [lenB r hr, hC]) hw c0).mpr ⟨c, hcr, Int.le_refl _⟩⟩
      rw [last_abv ly hB (Nat.le_refl _) gx] at ab
      obtain ⟨n, n1, n2, n3⟩ := rch_least ab
      obtain ⟨run, r1, r2, r3, eR⟩ := srun_ok (s0 := s0) (w := w) (C := C) ok ly.ly gx (show n < Ls.length by omega) (by omega) n2 n3
      have eS := start_ok (st := st) (pl := pl) (s0 := s0) (w := w) (C := C) (ms := ms) c0 (by omega) (by omega)
      have eS : g_start_with [mcD st pl s0 C w ms, .int c] = .ok (.sh, rwD (stt s0 C w c)) := eS
      have eS2 := lstart_ok (st := st) (pl := pl) (s0 := s0) (C := C) (ms := ms) (k := c) hw
      have ctr : ∀ x : Row, callTag .sh .sh (rwD x) = .sh := fun _ => rfl
      have cto : callTag .sh .ow (il run) = .ow := rfl
      generalize stt s0 C w c = x at eS eR eS2
      refine ⟨poD c run B, .po c run B lenB lB, ⟨fun z => (by cases z), fun z => by simp [poD, ukD] at z⟩, fun f hf => ⟨?_, ?_⟩⟩
      · exact dec_po (e1 f hf) rfl (e2 f) (e3 f) rfl hp (d4 := .int c) (d5 := il run) (by simp -implicitDefEqProofs [x_decide, eC, dE0]) rfl (by simp -implicitDefEqProofs [x_decide, isNone, dE0]) (by simp -implicitDefEqProofs [x_decide, eS, eR, ctr, cto, dE0]) tO_il
      · refine def_is rfl ?_
        unfold b__law_due
        rw [ss_cons]; simp -implicitDefEqProofs [frz_cons, x_callK lk__law_due_layers, hf, lyR, ctl, ntl, Tag.dm, ply]
        refine s_if (t := false) (by simp -implicitDefEqProofs [nn]) (fun z => by cases z) fun _ => ?_
        rw [List.nil_append, ss_cons]; simp -implicitDefEqProofs [len, ix2, pis]
        rw [ss_cons]; simp -implicitDefEqProofs [frz_cons, eC]
        refine s_if (t := false) (by simp -implicitDefEqProofs [isNone]) (fun z => by cases z) fun _ => ?_
        rw [List.nil_append, ss_cons]; simp -implicitDefEqProofs [frz_cons, eS2, eR, ctr, cto]
        rfl

/-! shifts drawn -/
def p3 : List Int := [1, 3, 9, 27, 81]
theorem p3_pos : ∀ x < 5, 0 < gi p3 x := by decide
def sel (c : Int) (n : Nat) (v : Int) : List Int := ((List.range n).filter fun x => decide (c / gi p3 x % 3 = v)).map fun x : Nat => (x : Int)
theorem sel_mem {c v x : Int} {n : Nat} : x ∈ sel c n v ↔ 0 ≤ x ∧ x < n ∧ c / gi p3 x.toNat % 3 = v := by
  unfold sel
  rw [List.mem_map]
  constructor
  · rintro ⟨a, ha, rfl⟩
    obtain ⟨h1, h2⟩ := List.mem_filter.mp ha
    have := List.mem_range.mp h1
    exact ⟨by omega, by omega, by simpa using h2⟩
  · rintro ⟨h1, h2, h3⟩
    refine ⟨x.toNat, List.mem_filter.mpr ⟨List.mem_range.mpr (by omega), by simpa using h3⟩, by omega⟩
theorem sel_nd {c v : Int} {n : Nat} : (sel c n v).Nodup := by
  unfold sel
  refine List.Pairwise.map _ (R := fun a b : Nat => a ≠ b) (fun a b h => by omega) ?_
  exact List.Pairwise.filter _ List.nodup_range
theorem sel_len {c v : Int} {n : Nat} : (sel c n v).length ≤ n := by
  unfold sel
  rw [List.length_map]
  have := List.length_filter_le (fun x => decide (c / gi p3 x % 3 = v)) (List.range n)
  rwa [List.length_range] at this
def shfs (c : Int) (n : Nat) : List Pr := if (sel c n 1).length = 0 then [] else (sel c n 2).map fun x => (x, gi (sel c n 1) (c / (83 + 7 * x) % (sel c n 1).length).toNat)
theorem shfs_ok {c : Int} {n : Nat} (h : n ≤ 5) : ShOk (shfs c n) ∧ PrsOk n (shfs c n) := by
  by_cases z : (sel c n 1).length = 0
  · have : shfs c n = [] := if_pos z
    rw [this]
    exact ⟨⟨by simp, by simp⟩, by simp [PrsOk]⟩
  have e : shfs c n = (sel c n 2).map fun x => (x, gi (sel c n 1) (c / (83 + 7 * x) % (sel c n 1).length).toNat) := if_neg z
  have sec : ∀ x, gi (sel c n 1) (c / (83 + 7 * x) % (sel c n 1).length).toNat ∈ sel c n 1 := fun x => by
    have h1 : 0 ≤ c / (83 + 7 * x) % ((sel c n 1).length : Int) := Int.emod_nonneg _ (by omega)
    have h2 : c / (83 + 7 * x) % ((sel c n 1).length : Int) < (sel c n 1).length := Int.emod_lt_of_pos _ (by omega)
    exact List.mem_of_getElem? (gi_some (by omega))
  rw [e]
  refine ⟨⟨?_, ?_⟩, ?_, ?_⟩
  · rw [List.map_map]
    have : ((fun p : Pr => p.1) ∘ fun x => (x, gi (sel c n 1) (c / (83 + 7 * x) % (sel c n 1).length).toNat)) = id := rfl
    rw [this, List.map_id]
    exact sel_nd
  · rintro p hp q hq
    obtain ⟨x, hx, rfl⟩ := List.mem_map.mp hp
    obtain ⟨y, hy, rfl⟩ := List.mem_map.mp hq
    have h1 := (sel_mem.mp (sec x)).2.2
    have h2 := (sel_mem.mp hy).2.2
    intro z
    simp only at z
    rw [z] at h1
    omega
  · rw [List.length_map]
    have := sel_len (c := c) (n := n) (v := 2)
    omega
  · rintro p hp
    obtain ⟨x, hx, rfl⟩ := List.mem_map.mp hp
    have h1 := sel_mem.mp (sec x)
    have h2 := sel_mem.mp hx
    exact ⟨h2.1, h2.2.1, h1.1, h1.2.1⟩
theorem shf_ok {c : Int} {n : Nat} (h0 : 0 ≤ c) (hc : c < 1073741824) (h : n ≤ 5) : g__law_shifts [.int c, .int n] = .ok (.ow, prsD (shfs c n)) := by
  have pp := p3_pos
  have ex : PyData.list [.int 1, .int 3, .int 9, .int 27, .int 81] = il p3 := rfl
  have l3 : p3.length = 5 := rfl
  have pb : ∀ x < 5, gi p3 x < 1073741824 := by decide
  refine def_is rfl ?_
  unfold b__law_shifts
  have fl : ∀ (v : Int) (z2 z3 z4 : Slot), ev G__law_digits (.cpr [("_law_place", 4)] (.nm 4) (.rg1 (.var 1)) (.cons (.val (.cmp .eq (.bin .mod (.bin .fdv (.var 0) (.ix (.lst (.cons (.cst (.int 1)) (.cons (.cst (.int 3)) (.cons (.cst (.int 9)) (.cons (.cst (.int 27)) (.cons (.cst (.int 81)) .nil)))))) (.var 4))) (.cst (.int 3))) (.cst (.int v)))) .nil) (.var 4)) [.sh (.int c), .sh (.int n), z2, z3, z4] = .ok (.ow, il (sel c n v)) := fun v z2 z3 z4 => by
    rw [e_filter (l := List.range n) (w := fun x : Nat => .int x) (h := fun x : Nat => .int x) (p := fun x => decide (c / gi p3 x % 3 = v)) (t := .sh) (by simp -implicitDefEqProofs (disch := omega) [small_nat, ranged]) (by rw [List.length_range]; show n ≤ 16000000; omega) fun x hx => by
      have hx := List.mem_range.mp hx
      have := pp x (by omega)
      have := pb x (by omega)
      by_cases e : c / gi p3 x % 3 = v <;> simp -implicitDefEqProofs (disch := omega) [cprItem, wipeE, ex, ixi, fdv_int, mod_int, e]]
    simp [il_def, sel, Function.comp_def]
  have pil : ∀ {e : PV.Env} {n : Nat} {l : List Int}, put e n (.ow, il l) = .nx (e.set n (.ow (il l))) := fun {e n l} => rfl
  rw [show (List.map Slot.sh [PyData.int c, PyData.int n] ++ List.replicate (5 - [PyData.int c, PyData.int n].length) Slot.no) = [.sh (.int c), .sh (.int n), .no, .no, .no] from rfl]
  rw [ss_cons, y_asg, frz_nil, fl 1]
  simp -implicitDefEqProofs [pil]
  refine s_if (t := decide ((sel c n 1).length = 0)) (by by_cases z : (sel c n 1).length = 0 <;> simp -implicitDefEqProofs [z]) (fun z => ?_) fun z => ?_
  · have e : shfs c n = [] := if_pos (of_decide_eq_true z)
    rw [List.cons_append, ss_cons]; simp -implicitDefEqProofs [e, prsD]
  have z : ¬ (sel c n 1).length = 0 := of_decide_eq_false z
  have e : shfs c n = (sel c n 2).map fun x => (x, gi (sel c n 1) (c / (83 + 7 * x) % (sel c n 1).length).toNat) := if_neg z
  have m2 := fun x => (sel_mem (c := c) (n := n) (v := 2) (x := x)).mp
  have l2 := sel_len (c := c) (n := n) (v := 2)
  have l1 := sel_len (c := c) (n := n) (v := 1)
  rw [e]
  rw [List.nil_append, ss_cons, y_asg, frz_nil, fl 2]
  generalize sel c n 2 = S2 at m2 l2
  generalize sel c n 1 = S1 at l1 z
  simp -implicitDefEqProofs [pil]
  rw [ss_cons, y_ret, frz_nil, e_map (l := S2) (w := fun x : Int => .int x) (h := fun x : Int => prD (x, gi S1 (c / (83 + 7 * x) % S1.length).toNat)) (t := .rt) (by simp -implicitDefEqProofs [il_def]) (by show S2.length ≤ 16000000; omega) fun x hx => by
    obtain ⟨x1, x2, _⟩ := m2 x hx
    have h1 : 0 ≤ c / (83 + 7 * x) % (S1.length : Int) := Int.emod_nonneg _ (by omega)
    have h2 : c / (83 + 7 * x) % (S1.length : Int) < S1.length := Int.emod_lt_of_pos _ (by omega)
    simp -implicitDefEqProofs (disch := omega) [cprItem, wipeE, ixi, fdv_int, mod_int, mul_r, mul_l, prD]]
  simp -implicitDefEqProofs [prsD, Function.comp_def]

/-! the machine -/
theorem mvs_snoc {l : List Mv} {m : Mv} : PyData.list (l.map mvD ++ [mvD m]) = .list ((l ++ [m]).map mvD) := by simp
structure MkOk (st pl s0 : Int) (C : List Int) (w : Int) (ms : List Mv) : Prop where
  hst : 1 ≤ st ∧ st ≤ 3
  hpl : 1 ≤ pl ∧ pl ≤ 4
  hs0 : 0 ≤ s0 ∧ s0 < st
  len : C.length = pl.toNat
  hc : ∀ y ∈ C, 0 ≤ y ∧ y ≤ 2
  hw : 0 ≤ w ∧ w < pl
  n : ms.length ≤ 8
  mv : ∀ m ∈ ms, MvOk st pl m ∧ ShOk m.sh
def Jo (pl : Int) (q : Option Int → PV.Env) (e : PV.Env) : Prop := ∃ o : Option Int, (∀ x, o = some x → 0 ≤ x ∧ x < pl) ∧ e = q o
def Js (pl : Int) (q : List Pr → PV.Env) (e : PV.Env) : Prop := ∃ l : List Pr, ShOk l ∧ PrsOk pl l ∧ e = q l
def mkInv (st pl : Int) (q : D → Slot → Slot → Slot → Slot → Slot → Slot → PV.Env) (i : Nat) (e : PV.Env) : Prop := ∃ (ms : List Mv) (z8 z9 z10 z11 z12 z13 : Slot), e = q (.list (ms.map mvD)) z8 z9 z10 z11 z12 z13 ∧ ms.length ≤ i ∧ ∀ m ∈ ms, MvOk st pl m ∧ ShOk m.sh
theorem machine_ok (a b : Int) (ha : 0 ≤ a) (hb : 0 ≤ b) : ∃ st pl s0 C w ms, MkOk st pl s0 C w ms ∧ g__law_machine [.int a, .int b] = .ok (.sh, mcD st pl s0 C w ms) := by
  suffices hh : ∃ o d, g__law_machine [.int a, .int b] = .ok (o, d) ∧ o = .sh ∧ ∃ st pl s0 C w ms, d = mcD st pl s0 C w ms ∧ MkOk st pl s0 C w ms by
    obtain ⟨_, _, e, rfl, st, pl, s0, C, w, ms, rfl, q⟩ := hh
    exact ⟨st, pl, s0, C, w, ms, q, e⟩
  refine def_ret rfl ?_
  unfold b__law_machine
  obtain ⟨S, hS, bS, eS⟩ := digits_ok a 2520 8 ha (by omega) (by omega) (by omega) (by omega)
  obtain ⟨T, hT, bT, eT⟩ := digits_ok b 27720 30 hb (by omega) (by omega) (by omega) (by omega)
  have md : ∀ (x y : Int), 0 < y → 0 ≤ x % y ∧ x % y < y := fun x y h => ⟨Int.emod_nonneg _ (by omega), Int.emod_lt_of_pos _ h⟩
  rw [ss_cons]; simp -implicitDefEqProofs (disch := omega) [frz_cons, eS]
  rw [ss_cons]; simp -implicitDefEqProofs (disch := omega) [ixi, mod_int]
  have hst : 1 ≤ 1 + gi S 0 % 3 ∧ 1 + gi S 0 % 3 ≤ 3 := by omega
  generalize 1 + gi S 0 % 3 = st at hst
  rw [ss_cons]; simp -implicitDefEqProofs (disch := omega) [ixi, mod_int]
  have hpl : 1 ≤ 1 + gi S 1 % 4 ∧ 1 + gi S 1 % 4 ≤ 4 := by omega
  generalize 1 + gi S 1 % 4 = pl at hpl
  rw [ss_cons]; simp -implicitDefEqProofs (disch := omega) [frz_cons, eT]
  rw [ss_cons]; simp -implicitDefEqProofs
  have hn : 1 ≤ 1 + gi S 2 % 8 ∧ 1 + gi S 2 % 8 ≤ 8 := by omega
  generalize hnn : 1 + gi S 2 % 8 = n at hn
  refine s_for (t := .sh) (ds := ranged 0 n) (I := mkInv st pl fun d z8 z9 z10 z11 z12 z13 => [.sh (.int a), .sh (.int b), .ow (il S), .sh (.int st), .sh (.int pl), .ow (il T), .ow d, z8, z9, z10, z11, z12, z13, .no]) rfl (by simp -implicitDefEqProofs (disch := omega) [ixi, mod_int, small_nat]; rw [hnn]) rfl ⟨[], _, _, _, _, _, _, rfl, by simp, by simp⟩ ?_ ?_
  · rintro i d e hd ⟨ms, z8, z9, z10, z11, z12, z13, rfl, k1, k2⟩
    have hi : i < n.toNat := by have := (List.getElem?_eq_some_iff.mp hd).1; rwa [ranged_len, Int.sub_zero] at this
    rw [ranged_get (by omega)] at hd
    obtain rfl := Option.some.inj hd
    rw [Int.zero_add]
    refine ⟨_, by simp -implicitDefEqProofs; rfl, ?_⟩
    have b1 := gi_bd (n := (3 * (i : Int)).toNat) (P := fun x => 0 ≤ x ∧ x < 27720) bT (by omega)
    have b2 := gi_bd (n := (3 * (i : Int) + 1).toNat) (P := fun x => 0 ≤ x ∧ x < 27720) bT (by omega)
    have b3 := gi_bd (n := (3 * (i : Int) + 2).toNat) (P := fun x => 0 ≤ x ∧ x < 27720) bT (by omega)
    rw [ss_cons]; simp -implicitDefEqProofs (disch := omega) [ixi, mul_l, mul_r, mod_int, fdv_int]
    rw [ss_cons]; simp -implicitDefEqProofs (disch := omega) [ixi, mul_l, mul_r, mod_int, fdv_int]
    generalize gi T (3 * (i : Int)).toNat = x at b1
    generalize gi T (3 * (i : Int) + 1).toNat = y at b2
    rw [ss_cons]; simp -implicitDefEqProofs
    refine s_if1 (t := decide (y % 7 = 3)) (J := Jo pl fun o => [.sh (.int a), .sh (.int b), .ow (il S), .sh (.int st), .sh (.int pl), .ow (il T), .ow (.list (ms.map mvD)), .sh (.int i), .sh (.int x), .sh (.int y), .sh (oD o), z12, z13, .no]) (by simp -implicitDefEqProofs (disch := omega) [mod_int]) (fun _ => ?_) (fun _ => ?_) ?_
    · rw [ss_cons]; simp -implicitDefEqProofs (disch := omega) [mod_int, fdv_int]
      exact ⟨some (y / 7 % pl), fun x hx => by cases hx; exact md _ _ (by omega), rfl⟩
    · simp -implicitDefEqProofs
      exact ⟨none, fun x hx => (by cases hx), rfl⟩
    rintro _ ⟨o, ho, rfl⟩
    rw [ss_cons]; simp -implicitDefEqProofs
    refine s_if1 (t := decide (y % 5 = 2)) (J := Js pl fun l => [.sh (.int a), .sh (.int b), .ow (il S), .sh (.int st), .sh (.int pl), .ow (il T), .ow (.list (ms.map mvD)), .sh (.int i), .sh (.int x), .sh (.int y), .sh (oD o), .ow (prsD l), z13, .no]) (by simp -implicitDefEqProofs (disch := omega) [mod_int]) (fun _ => ?_) (fun _ => ?_) ?_
    · have es := shf_ok (c := gi T (3 * (i : Int) + 2).toNat) (n := pl.toNat) b3.1 (by omega) (by omega)
      have so := shfs_ok (c := gi T (3 * (i : Int) + 2).toNat) (n := pl.toNat) (by omega)
      have epl : ((pl.toNat : Nat) : Int) = pl := by omega
      rw [epl] at es so
      generalize shfs (gi T (3 * (i : Int) + 2).toNat) pl.toNat = sh at es so
      have ctp : callTag .sh .ow (prsD sh) = .ow := rfl
      have ppr : ∀ {e : PV.Env} {n : Nat}, put e n (.ow, prsD sh) = .nx (e.set n (.ow (prsD sh))) := fun {e n} => rfl
      rw [ss_cons]; simp -implicitDefEqProofs (disch := omega) [frz_cons, ixi, mul_l, mul_r, mod_int, es, ctp, ppr]
      exact ⟨sh, so.1, so.2, rfl⟩
    · simp -implicitDefEqProofs
      exact ⟨[], ⟨by simp, by simp⟩, by simp [PrsOk], rfl⟩
    rintro _ ⟨sh, so, sp, rfl⟩
    rw [ss_cons]; simp -implicitDefEqProofs (disch := omega) [frz_cons, mod_int, fdv_int]
    obtain ⟨m, hm, bm⟩ : ∃ m : Mv, mvD m = .tuple [.int (x % st), .int (x / 3 % pl), .int (x / 12 % st), .int (x / 36 % pl), oD o, prsD sh] ∧ MvOk st pl m ∧ ShOk m.sh :=
      ⟨⟨x % st, x / 3 % pl, x / 12 % st, x / 36 % pl, o, sh⟩, rfl, ⟨md _ _ (by omega), md _ _ (by omega), md _ _ (by omega), md _ _ (by omega), ho, sp⟩, so⟩
    rw [← hm]
    have hlim : ms.length < 16000000 := by omega
    obtain ⟨b, hb⟩ := nin_mv (m := m) (l := ms)
    have sh_mv : shOnly (.sh, mvD m) = .ok (mvD m) := rfl
    refine s_if (t := b) (by simp -implicitDefEqProofs [hb]) (fun _ => ?_) fun _ => ?_
    · rw [List.cons_append, ss_cons]; simp -implicitDefEqProofs [frz_cons, sh_mv, hlim]
      refine ⟨ms ++ [m], _, _, _, _, _, _, by rw [← mvs_snoc], by simp [k1], fun x hx => ?_⟩
      rcases List.mem_append.mp hx with hx | hx
      · exact k2 x hx
      · rw [List.mem_singleton.mp hx]; exact bm
    · simp -implicitDefEqProofs
      exact ⟨ms, _, _, _, _, _, _, rfl, by omega, k2⟩
  · rintro e ⟨ms, z8, z9, z10, z11, z12, z13, rfl, k1, k2⟩
    rw [ranged_len] at k1
    rw [ss_cons]; simp -implicitDefEqProofs
    rw [rep_list (by omega) (by omega) (by simp; omega)]
    simp -implicitDefEqProofs
    rw [show List.replicate pl.toNat (PyData.int 0) = (List.replicate pl.toNat (0 : Int)).map .int from by simp]
    have hq := md (gi S 3) pl (by omega)
    have lR : (List.replicate pl.toNat (0 : Int)).length = pl.toNat := List.length_replicate
    have bR : ∀ y ∈ List.replicate pl.toNat (0 : Int), 0 ≤ y ∧ y ≤ 2 := fun y hy => by rw [List.eq_of_mem_replicate hy]; omega
    generalize List.replicate pl.toNat (0 : Int) = R0 at lR bR
    have w4 := md (gi S 4) st (by omega)
    have w5 := md (gi S 5) pl (by omega)
    rw [ss_cons]; simp -implicitDefEqProofs (disch := omega) [ixi, mod_int, fdv_int, placed_i, set_int, fold_il, -List.map_set]
    rw [ss_cons]; simp -implicitDefEqProofs (disch := omega) [frz_cons, ixi, mod_int]
    exact ⟨st, pl, gi S 4 % st, R0.set (gi S 3 % pl).toNat (gi S 3 / 4 % 3), gi S 5 % pl, ms, rfl, hst, hpl, w4, by rw [List.length_set]; exact lR, set_bd bR (by omega), w5, by omega, k2⟩

def RowOk (st pl most : Int) (r : Row) : Prop := 0 ≤ r.1 ∧ r.1 < st ∧ r.2.length = pl.toNat ∧ ∀ y ∈ r.2, 0 ≤ y ∧ y ≤ most

/-! bad rows drawn -/
theorem sum_bd : ∀ {X : List Int} {m : Int}, (∀ y ∈ X, y ≤ m) → X.sum ≤ X.length * m
  | [], m, _ => by simp
  | x :: r, m, h => by
    have h1 := h x List.mem_cons_self
    have h2 := sum_bd (X := r) (m := m) fun y hy => h y (List.mem_cons_of_mem _ hy)
    rw [List.sum_cons, List.length_cons]
    have : ((r.length + 1 : Nat) : Int) * m = r.length * m + m := by rw [Int.natCast_add, Int.add_mul]; simp
    omega
theorem rowt_of {st pl most : Int} {r : Row} {T : Nat} (h : RowOk st pl most r) (hT : (pl.toNat : Int) * most ≤ T) : RowT pl T r := by
  obtain ⟨_, _, h3, h4⟩ := h
  refine ⟨h3, fun y hy => (h4 y hy).1, ?_⟩
  have := sum_bd fun y hy => (h4 y hy).2
  rw [h3] at this
  omega
def bdInv (q : D → Slot → Slot → Slot → Slot → Slot → PV.Env) (st pl : Int) (i : Nat) (e : PV.Env) : Prop := ∃ (l : List Row) (z4 z5 z6 z7 z8 : Slot), e = q (rwsD l) z4 z5 z6 z7 z8 ∧ l.length = i ∧ ∀ r ∈ l, (0 ≤ r.1 ∧ r.1 < st) ∧ RowT pl 3 r
def Jc (pl : Int) (q : List Int → Slot → PV.Env) (e : PV.Env) : Prop := ∃ (X : List Int) (z8 : Slot), X.length = pl.toNat ∧ (∀ y ∈ X, 0 ≤ y) ∧ X.sum ≤ 3 ∧ e = q X z8
theorem bad_ok {c st pl s0 w : Int} {C : List Int} {ms : List Mv} (hc : 0 ≤ c) (h1 : 1 ≤ st) (h2 : st ≤ 1000) (h3 : 1 ≤ pl) (h4 : pl ≤ 1000) :
    ∃ l : List Row, (1 ≤ l.length ∧ l.length ≤ 2) ∧ (∀ r ∈ l, (0 ≤ r.1 ∧ r.1 < st) ∧ RowT pl 3 r) ∧ g__law_bad [.int c, mcD st pl s0 C w ms] = .ok (.ow, rwsD l) := by
  suffices hh : ∃ o d, g__law_bad [.int c, mcD st pl s0 C w ms] = .ok (o, d) ∧ o = .ow ∧ ∃ l : List Row, d = rwsD l ∧ (1 ≤ l.length ∧ l.length ≤ 2) ∧ ∀ r ∈ l, (0 ≤ r.1 ∧ r.1 < st) ∧ RowT pl 3 r by
    obtain ⟨_, _, e, rfl, L, rfl, q1, q2⟩ := hh
    exact ⟨L, q1, q2, e⟩
  refine def_ret rfl ?_
  unfold b__law_bad
  obtain ⟨L, hL, bL, eL⟩ := digits_ok c 2520 6 hc (by omega) (by omega) (by omega) (by omega)
  have md : ∀ (x y : Int), 0 < y → 0 ≤ x % y ∧ x % y < y := fun x y h => ⟨Int.emod_nonneg _ (by omega), Int.emod_lt_of_pos _ h⟩
  rw [ss_cons]; simp -implicitDefEqProofs (disch := omega) [frz_cons, eL]
  rw [ss_cons]; simp -implicitDefEqProofs
  have hn : 1 ≤ 1 + gi L 0 % 2 ∧ 1 + gi L 0 % 2 ≤ 2 := by omega
  refine s_for (t := .sh) (ds := ranged 0 (1 + gi L 0 % 2)) (I := bdInv (fun d z4 z5 z6 z7 z8 => [.sh (.int c), .sh (mcD st pl s0 C w ms), .ow (il L), .ow d, z4, z5, z6, z7, z8]) st pl) rfl (by simp -implicitDefEqProofs (disch := omega) [ixi, mod_int, small_nat]) rfl ⟨[], _, _, _, _, _, rfl, rfl, by simp⟩ ?_ ?_
  · rintro i d e hd ⟨l, z4, z5, z6, z7, z8, rfl, k1, k2⟩
    have hi : i < (1 + gi L 0 % 2).toNat := by have := (List.getElem?_eq_some_iff.mp hd).1; rwa [ranged_len, Int.sub_zero] at this
    rw [ranged_get (by omega)] at hd
    obtain rfl := Option.some.inj hd
    rw [Int.zero_add]
    refine ⟨_, by simp -implicitDefEqProofs; rfl, ?_⟩
    have b1 := gi_bd (n := (1 + 2 * (i : Int)).toNat) (P := fun x => 0 ≤ x ∧ x < 2520) bL (by omega)
    have b2 := gi_bd (n := (2 + 2 * (i : Int)).toNat) (P := fun x => 0 ≤ x ∧ x < 2520) bL (by omega)
    rw [ss_cons]; simp -implicitDefEqProofs
    rw [rep_list (by omega) (by omega) (by simp; omega)]
    simp -implicitDefEqProofs
    rw [show List.replicate pl.toNat (PyData.int 0) = (List.replicate pl.toNat (0 : Int)).map .int from by simp]
    have lR : (List.replicate pl.toNat (0 : Int)).length = pl.toNat := List.length_replicate
    have bR : ∀ y ∈ List.replicate pl.toNat (0 : Int), y = 0 := fun y hy => List.eq_of_mem_replicate hy
    have sR : (List.replicate pl.toNat (0 : Int)).sum = 0 := by simp
    generalize List.replicate pl.toNat (0 : Int) = R0 at lR bR sR
    rw [ss_cons]; simp -implicitDefEqProofs (disch := omega) [ixi, mul_l, mul_r]
    generalize gi L (1 + 2 * (i : Int)).toNat = x at b1
    have hq := md x pl (by omega)
    rw [ss_cons]; simp -implicitDefEqProofs (disch := omega) [ixi, mod_int, fdv_int, placed_i, set_int, fold_il, -List.map_set]
    rw [ss_cons]; simp -implicitDefEqProofs (disch := omega) [ixi, mul_l, mul_r]
    generalize gi L (2 + 2 * (i : Int)).toNat = y at b2
    have g0 := gi_bd (n := (x % pl).toNat) (P := fun v => v = 0) bR rfl
    have lR1 : (R0.set (x % pl).toNat (1 + x / 4 % 2)).length = pl.toNat := by rw [List.length_set]; exact lR
    have sR1 : (R0.set (x % pl).toNat (1 + x / 4 % 2)).sum ≤ 2 := by
      rw [sum_set (by omega), sR, g0]
      omega
    have bR1 : ∀ y ∈ R0.set (x % pl).toNat (1 + x / 4 % 2), 0 ≤ y := set_bd (fun y hy => by rw [bR y hy]; omega) (by omega)
    generalize R0.set (x % pl).toNat (1 + x / 4 % 2) = R1 at lR1 sR1 bR1
    refine s_if1 (t := decide (y % 2 = 1)) (J := Jc pl fun X z8 => [.sh (.int c), .sh (mcD st pl s0 C w ms), .ow (il L), .ow (rwsD l), .sh (.int i), .ow (il X), .sh (.int x), .sh (.int y), z8]) (by simp -implicitDefEqProofs (disch := omega) [mod_int]) (fun _ => ?_) (fun _ => ?_) ?_
    · have hq := md (y / 2) pl (by omega)
      have n1 := gi_bd (n := (y / 2 % pl).toNat) (P := fun v => 0 ≤ v) bR1 (by omega)
      rw [ss_cons]; simp -implicitDefEqProofs (disch := omega) [mod_int, fdv_int]
      rw [ss_cons]; simp -implicitDefEqProofs (disch := omega) [ixi, mod_int, fdv_int, placed_i, set_int, fold_il, -List.map_set]
      refine ⟨_, _, ?_, ?_, ?_, rfl⟩
      · rw [List.length_set]; exact lR1
      · exact set_bd bR1 (by split <;> omega)
      · rw [sum_set (by omega)]
        split <;> omega
    · simp -implicitDefEqProofs
      exact ⟨R1, _, lR1, bR1, by omega, rfl⟩
    rintro _ ⟨X, y8, x1, x2, x3, rfl⟩
    have hw := md (y / 8) st (by omega)
    have hl : l.length < 16000000 := by omega
    have owl : ∀ {l' : List Slot}, ownL (.ow (rwsD l) :: l') 0 = .ok (l.map rwD) := fun {l'} => rfl
    have sho : ∀ s : Int, shOnly (.sh, PyData.tuple [.int s, il X]) = .ok (rwD (s, X)) := fun _ => rfl
    have sn : ∀ r : Row, PyData.list (l.map rwD ++ [rwD r]) = rwsD (l ++ [r]) := fun r => by simp [rwsD]
    rw [ss_cons]; simp -implicitDefEqProofs (disch := omega) [frz_cons, mod_int, fdv_int, owl, hl, sho, sn]
    refine ⟨l ++ [(y / 8 % st, X)], _, _, _, _, _, rfl, by simp [k1], fun r hr => ?_⟩
    rcases List.mem_append.mp hr with hr | hr
    · exact k2 r hr
    · rw [List.mem_singleton.mp hr]
      exact ⟨hw, x1, x2, x3⟩
  · rintro e ⟨l, z4, z5, z6, z7, z8, rfl, k1, k2⟩
    rw [ranged_len] at k1
    rw [ss_cons]; simp -implicitDefEqProofs
    exact ⟨l, rfl, by omega, fun a b hab => k2 (a, b) hab⟩

/-! the repr of a machine and rows -/
theorem mk_repr2 {st pl s0 w : Int} {C : List Int} {ms : List Mv} {bs : List Row} (ok : MkOk st pl s0 C w ms) (lb : bs.length ≤ 30) (hb : ∀ r ∈ bs, RowU st pl 9 r) : reprOk (.list [mcD st pl s0 C w ms, rwsD bs]) = true := by
  obtain ⟨h1, h2, h3, h4, h5, h6, h7, h8⟩ := ok
  have rr : repAll (bs.map rwD) = true := rep_rows fun r hr => by
    have := hb r hr
    have h1 := this.hs
    have h2 := this.ht.bd
    exact ⟨by omega, by omega, fun x hx => by have := h2 x hx; omega⟩
  have br : bndAll (bs.map rwD) ≤ 30 * (4 * 1923 + 4000) := by
    have := bnd_rows (m := 4) (l := bs) fun r hr => by have := (hb r hr).ht.len; omega
    have := Nat.mul_le_mul_right (4 * 1923 + 4000) lb
    omega
  refine reprOk_of ?_ ?_ ?_
  · simp only [mcD, rwsD, rep, repAll, il_def, rr, rep_ints (xs := C) fun y hy => by have := h5 y hy; omega, rep_mvs (st := st) (pl := pl) (by omega) (by omega) fun m hm => (h8 m hm).1, Bool.and_true, decide_eq_true (small_log (i := st) (by omega) (by omega)), decide_eq_true (small_log (i := pl) (by omega) (by omega)), decide_eq_true (small_log (i := s0) (by omega) (by omega)), decide_eq_true (small_log (i := w) (by omega) (by omega))]
  · have b1 := bnd_mvs (st := st) (pl := pl) (l := ms) fun m hm => (h8 m hm).1
    simp [bnd, bndAll, mcD, rwsD, il_def, bnd_ints]
    omega
  · have d1 := dep_mvs ms
    have d2 := depth_rows bs
    simp [PyData.depth, PyData.depthAll, mcD, rwsD, il_def, depth_ints]
    omega

/-! the law -/
def r5 (r : Row) : D := .tuple [.int r.1, .list (r.2.map .int ++ [.int 5])]
theorem rowL_1' {r : Row} : rowL 1 (rwD r) = .ok (1, r.2.map .int) := rfl
theorem rowA5 {r : Row} (h : r.2.length < 16000000) : rowA 1 (.int 5) (rwD r) = .ok (r5 r) := by
  unfold rowA
  rw [rowL_1']
  show (if (r.2.map PyData.int).length < lim then R.ok (putAt (rwD r) 1 (.list (r.2.map .int ++ [.int 5]))) else .stuck) = _
  rw [if_pos (by rw [List.length_map]; exact h)]
  rfl
theorem each5 : ∀ {l : List Row}, (∀ r ∈ l, r.2.length < 16000000) → eachR (rowA 1 (.int 5)) (l.map rwD) = .ok (l.map r5)
  | [], _ => rfl
  | a :: r, h => by
    rw [List.map_cons]
    unfold eachR
    rw [rowA5 (h a List.mem_cons_self), each5 fun y hy => h y (List.mem_cons_of_mem _ hy)]
    rfl
theorem refused_ok {st pl s0 w : Int} {C : List Int} {ms : List Mv} {bs : List Row} {f : Int} (hf : f < 0) : g__law_refused [mcD st pl s0 C w ms, rwsD bs, .int f] = .ok (.sh, .bool true) := by
  have eD : g_decide [mcD st pl s0 C w ms, rwsD bs, .int f] = .exc "OutOfRange" := dec_ex (by simp -implicitDefEqProofs [x_decide, x_callK lk_decide_layers, layers_no hf, dE0])
  have ck : ∀ (e : PV.Env), (Out.exc "OutOfRange" e).caughtK "OutOfRange" ks true = .ret .sh (.bool true) := fun e => by
    show (if ("OutOfRange" : Str) ∈ ks then (if subE "OutOfRange" "OutOfRange" = true then Out.ret .sh (.bool true) else .exc "OutOfRange" e) else .stuck) = _
    rw [if_pos (by decide +kernel), if_pos (by decide +kernel)]
  refine def_is rfl ?_
  unfold b__law_refused
  rw [ss_cons]; simp -implicitDefEqProofs [x_callK lk__law_refused_decide, eD, ck]
structure AnsF (d : D) (B : List Row) : Prop where
  len : ∃ m : Nat, (∀ t : Tag, evBi .len [(t, d)] = .ok (.sh, .int m)) ∧ ∃ xs, itemsR d = .ok xs ∧ PV.placed xs ((m : Int) - 1) = .ok (m - 1, rwsD B)
  shp : Shp d
  tp : isT .tuple d = some true
  p1 : ∀ {e : PV.Env} {n : Nat}, put e n (.tr, d) = .nx (e.set n (.od d))
  p2 : ∀ {e : PV.Env} {n : Nat}, put e n (.sh, d) = .nx (e.set n (.sh d))
  c1 : callTag .sh .tr d = .tr
  c2 : callTag .sh .sh d = .sh
  n1 : nt .pk d = .pk
  n2 : nt .tr d = .tr
  uk : evCmp .ne d ukD = .ok true
theorem ansf_ne {B : List Row} : AnsF (neD B) B := by
  refine ⟨⟨2, fun t => rfl, _, rfl, rfl⟩, ?_, rfl, fun {e n} => rfl, fun {e n} => rfl, rfl, rfl, rfl, rfl, ?_⟩
  · exact shp_of (by have := lay_rws B; simp [PyData.canLay0, PyData.canLayAll0, neD, rwsD, this]; decide +kernel) (by have := depth_rows B; simp [PyData.depth, PyData.depthAll, neD, rwsD]; omega)
  · have sh : Shp (neD B) := shp_of (by have := lay_rws B; simp [PyData.canLay0, PyData.canLayAll0, neD, rwsD, this]; decide +kernel) (by have := depth_rows B; simp [PyData.depth, PyData.depthAll, neD, rwsD]; omega)
    show gB (both (neD B) ukD) (!PyData.eqv (neD B) ukD) = _
    unfold both
    rw [show SeqAt.shaped (neD B) = true from sh, show SeqAt.shaped ukD = true from by decide +kernel]
    have : PyData.eqv (neD B) ukD = false := by simp [neD, ukD, PyData.eqv, PyData.eqvAll]
    rw [this]
    rfl
theorem ansf_po {c : Int} {run : List Int} {B : List Row} : AnsF (poD c run B) B := by
  have sh : Shp (poD c run B) := shp_of (by have := lay_rws B; simp [PyData.canLay0, PyData.canLayAll0, poD, rwsD, this, il_def, lay_ints]; decide +kernel) (by have := depth_rows B; simp [PyData.depth, PyData.depthAll, poD, rwsD, il_def, depth_ints]; omega)
  refine ⟨⟨4, fun t => rfl, _, rfl, rfl⟩, sh, rfl, fun {e n} => rfl, fun {e n} => rfl, rfl, rfl, rfl, rfl, ?_⟩
  show gB (both (poD c run B) ukD) (!PyData.eqv (poD c run B) ukD) = _
  unfold both
  rw [show SeqAt.shaped (poD c run B) = true from sh, show SeqAt.shaped ukD = true from by decide +kernel]
  have : PyData.eqv (poD c run B) ukD = false := by simp [poD, ukD, PyData.eqv, PyData.eqvAll]
  rw [this]
  rfl
def bsJ (q : D → PV.Env) (st pl : Int) (e : PV.Env) : Prop := ∃ bs : List Row, e = q (rwsD bs) ∧ bs.length ≤ 2 ∧ ∀ r ∈ bs, RowU st pl 3 r
theorem law_holds (ns : List Int) (h : ns.length ≤ 63) : g_law [il ns] = .ok (.sh, .bool true) := by
  refine def_is rfl ?_
  unfold b_law
  obtain ⟨st, pl, s0, C, w, ms, ok, eM⟩ := machine_ok (cell ns 0) (cell ns 1) (cell_nn _ _) (cell_nn _ _)
  obtain ⟨t1, t2⟩ := ok.hst
  obtain ⟨p1, p2⟩ := ok.hpl
  obtain ⟨w1, w2⟩ := ok.hw
  obtain ⟨w, rfl⟩ : ∃ n : Nat, w = n := ⟨w.toNat, by omega⟩
  have nm := ok.n
  have lC := ok.len
  have nC := ok.hc
  have mo : MsOk st pl ms := ⟨fun m hm => (ok.mv m hm).1, fun m hm => (ok.mv m hm).2, p1, by omega, by omega⟩
  obtain ⟨bs, lbs, obs, eB⟩ := bad_ok (c := cell ns 2) (st := st) (pl := pl) (s0 := s0) (w := w) (C := C) (ms := ms) (cell_nn _ _) t1 (by omega) p1 (by omega)
  obtain ⟨S, hS, bS, eS⟩ := digits_ok (cell ns 3) 2520 2 (cell_nn _ _) (by omega) (by omega) (by omega) (by omega)
  have i0 : ∀ t : Tag, evIx (t, il S) (.int 0) = .ok (.sh, .int (gi S 0)) := fun t => ixi (by omega) (by omega)
  have i1 : ∀ t : Tag, evIx (t, il S) (.int 1) = .ok (.sh, .int (gi S 1)) := fun t => ixi (by omega) (by omega)
  have g0 := gi_bd (n := 0) (P := fun x => 0 ≤ x ∧ x < 2520) bS (by omega)
  have g1 := gi_bd (n := 1) (P := fun x => 0 ≤ x ∧ x < 2520) bS (by omega)
  generalize gi S 0 = d0 at g0 i0
  generalize gi S 1 = d1 at g1 i1
  have ctw : ∀ L : List Row, callTag .sh .ow (rwsD L) = .ow := fun _ => rfl
  have ctm : callTag .sh .sh (mcD st pl s0 C w ms) = .sh := rfl
  have pmc : ∀ {e : PV.Env} {n : Nat}, put e n (.sh, mcD st pl s0 C w ms) = .nx (e.set n (.sh (mcD st pl s0 C w ms))) := fun {e n} => rfl
  have pro : ∀ {e : PV.Env} {n : Nat} {l : List Row}, put e n (.ow, rwsD l) = .nx (e.set n (.ow (rwsD l))) := fun {e n l} => rfl
  rw [ss_cons]; simp -implicitDefEqProofs (disch := omega) [frz_cons, cell_ok ns 0, cell_ok ns 1, eM, ctm, pmc]
  rw [ss_cons]; simp -implicitDefEqProofs (disch := omega) [frz_cons, cell_ok ns 2, eB, ctw, pro]
  rw [ss_cons]; simp -implicitDefEqProofs (disch := omega) [frz_cons, cell_ok ns 3, eS]
  refine s_if1 (t := decide (d1 % 9 = 0)) (J := bsJ (fun d => [.sh (il ns), .sh (mcD st pl s0 C w ms), .ow d, .ow (il S), .no, .no, .no, .no, .no, .no, .no]) st pl) (by simp -implicitDefEqProofs (disch := omega) [i1, mod_int]) (fun _ => ?_) (fun _ => ?_) ?_
  · rw [ss_cons]; simp -implicitDefEqProofs
    exact ⟨[], rfl, by simp, by simp⟩
  · simp -implicitDefEqProofs
    exact ⟨bs, rfl, by omega, fun r hr => ⟨(obs r hr).1, (obs r hr).2⟩⟩
  clear obs lbs eB
  rintro e ⟨bs, rfl, lbs, hb⟩
  have hR : ∀ t : Tag, evBi .repr [(t, .list [mcD st pl s0 C w ms, rwsD bs])] = .ok (.sh, .str (PyData.shown (.list [mcD st pl s0 C w ms, rwsD bs]))) := fun t => repr_list (mk_repr2 ok (by omega) fun r hr => (hb r hr).up (by omega))
  generalize PyData.shown (.list [mcD st pl s0 C w ms, rwsD bs]) = R0 at hR
  have nst : ∀ s : Str, evCmp .ne (.str s) (.str s) = .ok false := fun s => by simp [evCmp, evNe]
  have est : ∀ s : Str, evCmp .eq (.str s) (.str s) = .ok true := fun s => by simp [evCmp, evEq]
  rw [ss_cons]; simp -implicitDefEqProofs (disch := omega) [i0, mod_int]
  have hf : 0 ≤ d0 % 7 ∧ d0 % 7 < 7 := by omega
  generalize d0 % 7 = f at hf
  obtain ⟨fu, rfl⟩ : ∃ n : Nat, f = n := ⟨f.toNat, by omega⟩
  rw [ss_cons]; simp -implicitDefEqProofs [hR]
  -- the layers and the answer
  have dl9 : dl (3 + fu) pl.toNat ≤ 220 := Nat.le_trans (dl_mono (show 3 + fu ≤ 9 by omega) (show pl.toNat ≤ 4 by omega) (by omega)) (by decide +kernel)
  have hS2 : 2000 * ms.length * dl (3 + fu) pl.toNat ≤ 15900000 := by
    have h2 : 2000 * ms.length ≤ 2000 * 8 := by omega
    have := Nat.mul_le_mul h2 dl9
    omega
  have L1 := layers_ok (s0 := s0) (w := w) (C := C) (bs := bs) (T := 3) (fu := fu) (n := fu) mo hb (by omega) (by omega) (by omega) (by omega) hS2 (Nat.le_refl _) (.inl rfl)
  have L2' := fun ne => layers_ok (s0 := s0) (w := w) (C := C) (bs := bs) (T := 3) (fu := 100) (n := fu) mo hb (by omega) (by omega) (by omega) (by omega) hS2 (by omega) (.inr ne)
  obtain ⟨d, an, ukd, hd⟩ := decT (s0 := s0) (w := w) (C := C) (bs := bs) (T := 3) (fu := fu) (o := layF ms bs fu) mo lC (fun y hy => (nC y hy).1) (by omega) (by omega) fun Ls hL => layF_ok mo hb (by omega) hL
  obtain ⟨eD, eU⟩ := hd fu L1
  have hd2 := fun ne => (hd 100 (L2' ne)).1
  clear hd L1 L2' hS2
  have eRf := refused_ok (st := st) (pl := pl) (s0 := s0) (w := w) (C := C) (ms := ms) (bs := bs) (f := -1 - d1 % 9) (by omega)
  have fin : ∀ z6 z8 z9 z10 : Slot, Sat (PV.Ret (fun o' d' => o' = Tag.sh ∧ d' = PyData.bool true) PV.NoX) (PV.evSs G__law_refused 10000 [.ret [] (.lan (.cons (.call "_law_refused" (.cons (.var 1) (.cons (.var 2) (.cons (.bin .sub (.neg (.cst (.int 1))) (.bin .mod (.ix (.var 3) (.cst (.int 1))) (.cst (.int 9)))) .nil)))) (.cons (.cmp .eq (.bi .repr (.cons (.lst (.cons (.var 1) (.cons (.var 2) .nil))) .nil)) (.var 5)) .nil)))]
      [.sh (il ns), .sh (mcD st pl s0 C w ms), .sh (rwsD bs), .ow (il S), .sh (.int fu), .sh (.str R0), z6, .sh d, z8, z9, z10]) := fun z6 z8 z9 z10 => by
    rw [ss_cons]; simp -implicitDefEqProofs (disch := omega) [i1, mod_int, eRf, hR, est]
  have key : d = ukD ∨ ∃ B, AnsF d B ∧ (∀ r ∈ B, r.2.length = pl.toNat) ∧ B.length ≤ 2000 ∧ d ≠ ukD := by
    cases an with
    | uk => exact .inl rfl
    | ne B h2 h3 => exact .inr ⟨B, ansf_ne, h2, h3, fun z => by simp [neD, ukD] at z⟩
    | po c run B h2 h3 => exact .inr ⟨B, ansf_po, h2, h3, fun z => by simp [poD, ukD] at z⟩
  clear an
  rcases key with rfl | ⟨B, af, h2, h3, nu⟩
  · have k1 : ∀ {e : PV.Env} {n : Nat}, put e n (.tr, ukD) = .nx (e.set n (.od ukD)) := fun {e n} => rfl
    have k2 : ∀ {e : PV.Env} {n : Nat}, put e n (.sh, ukD) = .nx (e.set n (.sh ukD)) := fun {e n} => rfl
    have k3 : callTag .sh .tr ukD = .tr := rfl
    have k4 : callTag .sh .sh ukD = .sh := rfl
    have k5 : nt .pk ukD = .pk := rfl
    have k6 : isT .tuple ukD = some true := rfl
    have k7 : evCmp .ne ukD ukD = .ok false := ne_same (by unfold Shp; decide +kernel)
    have k8 : evCmp .ne ukD (.tuple [.str "unknown"]) = .ok false := k7
    rw [ss_cons]; simp -implicitDefEqProofs [frz_cons, x_callK lk_law_decide, eD, k1, k3]
    rw [ss_cons]; simp -implicitDefEqProofs [frz_cons, eU, k2, k4]
    refine s_if (t := false) (by simp -implicitDefEqProofs [k5, k6, k7, hR, nst]) (fun z => by cases z) fun _ => ?_
    rw [List.nil_append]
    refine s_if (t := false) (by simp -implicitDefEqProofs [k8]) (fun z => by cases z) fun _ => ?_
    rw [List.nil_append]
    exact fin _ _ _ _
  have hd2 := hd2 fun z => nu (ukd.mp z)
  obtain ⟨⟨m, hm, xs, hx, hpl⟩, shp, tp, k1, k2, k3, k4, k5, k6, k7⟩ := af
  have k7 : evCmp .ne d (.tuple [.str "unknown"]) = .ok true := k7
  have k8 := ne_same shp
  have ntB : nt .pk (rwsD B) = .pk := rfl
  have lB : ∀ t : Tag, evBi .len [(t, rwsD B)] = .ok (.sh, .int (B.length : Int)) := fun t => by
    show PV.R.ok (Tag.sh, PyData.int ((B.map rwD).length : Int)) = _
    simp
  rw [ss_cons]; simp -implicitDefEqProofs [frz_cons, x_callK lk_law_decide, eD, k1, k3]
  rw [ss_cons]; simp -implicitDefEqProofs [frz_cons, eU, k2, k4]
  refine s_if (t := false) (by simp -implicitDefEqProofs [k5, tp, k8, hR, nst]) (fun z => by cases z) fun _ => ?_
  rw [List.nil_append]
  refine s_if (t := true) (by simp -implicitDefEqProofs [k7]) (fun _ => ?_) (fun z => by cases z)
  rw [List.cons_append]
  refine s_if (t := false) (by simp -implicitDefEqProofs [x_callD lkD_law_decide, hd2, k8]) (fun z => by cases z) fun _ => ?_
  rw [List.nil_append, List.cons_append, ss_cons]; simp -implicitDefEqProofs [hm, hx, hpl, k5]
  rw [ss_cons]; simp -implicitDefEqProofs [frz_cons, x_callK lk_law_decide, eD, k3, k6, Tag.dm, k2]
  refine s_if (t := decide (0 < B.length)) (by simp -implicitDefEqProofs [lB, ntB]) (fun _ => ?_) fun _ => ?_
  · have aB : asL (rwsD B) = .ok (B.map rwD) := rfl
    have e5 := each5 (l := B) fun r hr => by rw [h2 r hr]; omega
    rw [List.cons_append, ss_cons]; simp -implicitDefEqProofs [aB, e5, constD]
    have ec : ∀ (z6 z9 z10 : Slot), ev G__law_refused (.cpr [("_law_row", 10)] (.nm 10) (.lst (.var 8)) (.cons (.val (.cmp .ne (.bi .len (.cons (.ix (.var 10) (.cst (.int 1))) .nil)) (.bin .add (.ix (.var 1) (.cst (.int 1))) (.cst (.int 1))))) .nil) (.var 10)) [.sh (il ns), .sh (mcD st pl s0 C w ms), .sh (rwsD bs), .ow (il S), .sh (.int fu), .sh (.str R0), z6, .sh d, .sh (.list (B.map r5)), z9, z10] = .ok (.ow, .list ((B.filter fun _ => false).map r5)) := fun z6 z9 z10 => by
      refine e_filter (l := B) (w := r5) (h := r5) (p := fun _ => false) (t := .sh) (by simp -implicitDefEqProofs) (by show B.length ≤ 16000000; omega) fun o ho => ?_
      have lo := h2 o ho
      have m1 : evIx (.sh, mcD st pl s0 C w ms) (.int 1) = .ok (.sh, .int pl) := rfl
      have o1 : evIx (.sh, r5 o) (.int 1) = .ok (.sh, .list (o.2.map .int ++ [.int 5])) := rfl
      have lo2 : ∀ t : Tag, evBi .len [(t, .list (o.2.map PyData.int ++ [PyData.int 5]))] = .ok (.sh, .int (pl + 1)) := fun t => by
        show PV.R.ok (Tag.sh, PyData.int ((o.2.map PyData.int ++ [PyData.int 5]).length : Int)) = _
        rw [List.length_append, List.length_map, lo]
        simp
        omega
      simp -implicitDefEqProofs [cprItem, wipeE, m1, o1, lo2]
    refine s_if (t := false) ?_ (fun z => by cases z) fun _ => ?_
    · have fn : B.filter (fun _ => false) = [] := by simp
      simp -implicitDefEqProofs [frzI, ec, fn]
      rfl
    have hl : B.length < lim := by show B.length < 16000000; omega
    rw [List.nil_append, ss_cons]; simp -implicitDefEqProofs [frz_cons, hl]
    refine s_if (t := false) (by simp -implicitDefEqProofs [k8, x_callK lk_law_decide, eD]) (fun z => by cases z) fun _ => ?_
    rw [List.nil_append]
    exact fin _ _ _ _
  · rw [List.nil_append]
    exact fin _ _ _ _

end K48

open PySem PySem.W PyProof.Rows
set_option maxRecDepth 100000 in
set_option maxHeartbeats 0 in
theorem PySem.Challenge.cw_legion_k48_answers_decided_holds : PySem.Challenge.rw_legion_k48_answers_decided.Holds := by
  w_on; o_law; k_head; (case hw => w_witness2)
  k_fill
  refine PV.walk_g (l := PySem.Challenge.rw_legion_k48_answers_decided) (n := 63) (k := 45) (x := "_law_script") (g := K48.g_law) rfl (by decide) rfl ⟨rfl, by decide, by decide⟩ (fun w h Y => PySem.W.kIn_of Y) K48.law_holds ?F
  case F =>
    intro w mg fa h KX Gl hmg
    refine' K48.all_mk KX Gl hmg ?a1 ?l1 ?c1 ?k1 ?a2 ?l2 ?c2 ?k2 ?a3 ?l3 ?c3 ?k3 ?a4 ?l4 ?c4 ?k4 ?a5 ?l5 ?c5 ?k5 ?a6 ?l6 ?c6 ?k6 ?a7 ?l7 ?c7 ?k7 ?a8 ?l8 ?c8 ?k8 ?a9 ?l9 ?c9 ?k9 ?a10 ?l10 ?c10 ?k10 ?a11 ?l11 ?c11 ?k11 ?a12 ?l12 ?c12 ?k12 ?a13 ?l13 ?c13 ?k13 ?a14 ?l14 ?c14 ?k14 ?a15 ?l15 ?c15 ?k15 ?a16 ?l16 ?c16 ?k16 ?a17 ?l17 ?c17 ?k17 ?a18 ?l18 ?c18 ?k18 ?a19 ?l19 ?c19 ?k19 ?a20 ?l20 ?c20 ?k20 ?a21 ?l21 ?c21 ?k21 ?a22 ?l22 ?c22 ?k22 ?a23 ?l23 ?c23 ?k23 ?a24 ?l24 ?c24 ?k24 ?a25 ?l25 ?c25 ?k25 ?e25 ?re25 ?a26 ?l26 ?c26 ?k26 ?a27 ?l27 ?c27 ?k27 ?a28 ?l28 ?c28 ?k28 ?a29 ?l29 ?c29 ?k29 ?a30 ?l30 ?c30 ?k30 ?a31 ?l31 ?c31 ?k31 ?a32 ?l32 ?c32 ?k32 ?a33 ?l33 ?c33 ?k33 ?a34 ?l34 ?c34 ?k34 ?qc_MOST_ELEMENTS ?rc_MOST_ELEMENTS ?z__try ?z_abs ?z_all ?z_any ?z_enumerate ?z_int ?z_isinstance ?z_len ?z_list ?z_max ?z_range ?z_repr ?z_sorted ?z_sum ?z_tuple ?z_zip ?y0 ?x0 ?w0 ?v0 ?t0 ?y1 ?x1 ?w1 ?v1 ?t1 ?yL ?hn0 ?ht0 ?hg0 ?hk0 ?hs0 ?hd0 ?ha0 ?hm0 ?mm0_0 ?ss0_0 ?mm0_1 ?ss0_1 ?mL0 ?mV0 ?hg1 ?hk1 ?hs1 ?hd1 ?ha1 ?hm1 ?mm1_0 ?ss1_0 ?mm1_1 ?ss1_1 ?mL1 ?mV1
    (case a1 => k_is); (case l1 => k_is); (case c1 => k_is); (case k1 => k_is)
    (case a2 => k_is); (case l2 => k_is); (case c2 => k_is); (case k2 => k_is)
    (case a3 => k_is); (case l3 => k_is); (case c3 => k_is); (case k3 => k_is)
    (case a4 => k_is); (case l4 => k_is); (case c4 => k_is); (case k4 => k_is)
    (case a5 => k_is); (case l5 => k_is); (case c5 => k_is); (case k5 => k_is)
    (case a6 => k_is); (case l6 => k_is); (case c6 => k_is); (case k6 => k_is)
    (case a7 => k_is); (case l7 => k_is); (case c7 => k_is); (case k7 => k_is)
    (case a8 => k_is); (case l8 => k_is); (case c8 => k_is); (case k8 => k_is)
    (case a9 => k_is); (case l9 => k_is); (case c9 => k_is); (case k9 => k_is)
    (case a10 => k_is); (case l10 => k_is); (case c10 => k_is); (case k10 => k_is)
    (case a11 => k_is); (case l11 => k_is); (case c11 => k_is); (case k11 => k_is)
    (case a12 => k_is); (case l12 => k_is); (case c12 => k_is); (case k12 => k_is)
    (case a13 => k_is); (case l13 => k_is); (case c13 => k_is); (case k13 => k_is)
    (case a14 => k_is); (case l14 => k_is); (case c14 => k_is); (case k14 => k_is)
    (case a15 => k_is); (case l15 => k_is); (case c15 => k_is); (case k15 => k_is)
    (case a16 => k_is); (case l16 => k_is); (case c16 => k_is); (case k16 => k_is)
    (case a17 => k_is); (case l17 => k_is); (case c17 => k_is); (case k17 => k_is)
    (case a18 => k_is); (case l18 => k_is); (case c18 => k_is); (case k18 => k_is)
    (case a19 => k_is); (case l19 => k_is); (case c19 => k_is); (case k19 => k_is)
    (case a20 => k_is); (case l20 => k_is); (case c20 => k_is); (case k20 => k_is)
    (case a21 => k_is); (case l21 => k_is); (case c21 => k_is); (case k21 => k_is)
    (case a22 => k_is); (case l22 => k_is); (case c22 => k_is); (case k22 => k_is)
    (case a23 => k_is); (case l23 => k_is); (case c23 => k_is); (case k23 => k_is)
    (case a24 => k_is); (case l24 => k_is); (case c24 => k_is); (case k24 => k_is)
    (case a25 => k_is); (case l25 => k_is); (case c25 => k_is); (case k25 => k_is)
    (case e25 => k_is); (case re25 => exact ⟨_, rfl⟩)
    (case a26 => k_is); (case l26 => k_is); (case c26 => k_is); (case k26 => k_is)
    (case a27 => k_is); (case l27 => k_is); (case c27 => k_is); (case k27 => k_is)
    (case a28 => k_is); (case l28 => k_is); (case c28 => k_is); (case k28 => k_is)
    (case a29 => k_is); (case l29 => k_is); (case c29 => k_is); (case k29 => k_is)
    (case a30 => k_is); (case l30 => k_is); (case c30 => k_is); (case k30 => k_is)
    (case a31 => k_is); (case l31 => k_is); (case c31 => k_is); (case k31 => k_is)
    (case a32 => k_is); (case l32 => k_is); (case c32 => k_is); (case k32 => k_is)
    (case a33 => k_is); (case l33 => k_is); (case c33 => k_is); (case k33 => k_is)
    (case a34 => k_is); (case l34 => k_is); (case c34 => k_is); (case k34 => k_is)
    (case qc_MOST_ELEMENTS => k_is); (case rc_MOST_ELEMENTS => exact ⟨_, rfl⟩)
    (case z__try => k_is)
    (case z_abs => k_is)
    (case z_all => k_is)
    (case z_any => k_is)
    (case z_enumerate => k_is)
    (case z_int => k_is)
    (case z_isinstance => k_is)
    (case z_len => k_is)
    (case z_list => k_is)
    (case z_max => k_is)
    (case z_range => k_is)
    (case z_repr => k_is)
    (case z_sorted => k_is)
    (case z_sum => k_is)
    (case z_tuple => k_is)
    (case z_zip => k_is)
    (case y0 => k_is); (case x0 => k_exc); (case w0 => k_is); (case v0 => k_is); (case t0 => k_is)
    (case y1 => k_is); (case x1 => k_exc); (case w1 => k_is); (case v1 => k_is); (case t1 => k_is)
    (case yL => k_is)
    (case hn0 => k_is)
    (case ht0 => k_is)
    (case hg0 => k_is)
    (case hk0 => k_is)
    (case hs0 => k_is)
    (case hd0 => k_is)
    (case ha0 => k_is)
    (case hm0 => k_is)
    (case mm0_0 => kit_is)
    (case ss0_0 => k_is)
    (case mm0_1 => kit_is)
    (case ss0_1 => k_is)
    (case mL0 => kit_is)
    (case mV0 => kit_is)
    (case hg1 => k_is)
    (case hk1 => k_is)
    (case hs1 => k_is)
    (case hd1 => k_is)
    (case ha1 => k_is)
    (case hm1 => k_is)
    (case mm1_0 => kit_is)
    (case ss1_0 => k_is)
    (case mm1_1 => kit_is)
    (case ss1_1 => k_is)
    (case mL1 => kit_is)
    (case mV1 => kit_is)
