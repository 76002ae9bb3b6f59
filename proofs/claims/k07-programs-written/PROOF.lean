import PyProof.Rows.All
import KE.SortKeyHeap
import HandS.SortKw
import HandS.TupAny
import HandS.Rev
import HandS.Conv
import KE.KDictList
import HandS.Defaults
import Wide.All
import OpenK.AllK
import Wide.FinOn
import HandS.ForMost
import HandS.ForExc
import HandS.Deep
import HandS.IsInst
import HandS.Zip
import HandS.Text
import HandS.FStr
import HandS.RaiseMore
import PyProof.StrBlock2
import HandS.Dict
import HandS.DictComp
import HandS.Small
import HandS.More
import HandS.ExcIs
import HandS.TryOnly
import HandS.TryMany
import KE.SortData
import KE.SortKeyHeap
import HandS.SortKw
import KE.DataMinMax
import HandS.SetKeys
import HandS.Style
import PySem.Challenge.RW_legion_k07_programs_written
set_option Elab.async false
set_option linter.all false
set_option maxRecDepth 100000
set_option maxHeartbeats 8000000
/-! PvCore: own small language over pure data, its reckoning, and the look that says which piece of the text it stands for. -/
namespace PV
open PySem

abbrev D := PyData
/-- how a value is held: shared for good, a peek that holds now, the root of an owned slot, a root that was just made, a tree that was just made -/
inductive Tag where | sh | pk | rt | ow | tr
  deriving DecidableEq, Repr
def Tag.kid : Tag → Tag | .pk => .pk | .tr => .pk | _ => .sh
def Tag.dm : Tag → Tag | .sh => .sh | .ow => .sh | .tr => .sh | _ => .pk
def Tag.root : Tag → Tag | .sh => .ow | _ => .pk
def Tag.jn : Tag → Tag → Tag | .sh, .sh => .sh | _, _ => .pk
inductive R (α : Type) where | ok (a : α) | exc (c : Str) | stuck
def R.bind {α β : Type} : R α → (α → R β) → R β | .ok a, f => f a | .exc c, _ => .exc c | .stuck, _ => .stuck
abbrev TD := Tag × D
abbrev Gam := Str → Option (List D → R TD)
/-- od: a tree that is owned, all its lists and tuples -/
inductive Slot where | no | sh (d : D) | ow (d : D) | od (d : D)
abbrev Env := List Slot
inductive Bop where | add | sub | mul | fdv | mod | pow | band | shl | shr
  deriving DecidableEq
inductive Cop where | eq | ne | lt | le | gt | ge | is | isn | inn | nin
  deriving DecidableEq
inductive Bi where | len | abs | min | max | int | list | tuple | sum | any | all | sorted | repr | str
  deriving DecidableEq
inductive Ty where | int | bool | str | list | tuple
  deriving DecidableEq
inductive Tg where | nm (i : Nat) | tp (is : List Nat)
  deriving DecidableEq
mutual
inductive Ex where
  | var (i : Nat)
  | cst (c : Const)
  | bin (o : Bop) (a b : Ex)
  | neg (a : Ex)
  | cmp (o : Cop) (a b : Ex)
  | chn (o p : Cop) (a b c : Ex)
  | lan (es : Exs) | lor (es : Exs) | lno (a : Ex)
  | ife (c : Te) (a b : Ex)
  | tup (es : Exs) | lst (es : Exs)
  | ix (a b : Ex)
  | sli (a : Ex) (lo hi : Pt)
  | call (f : Str) (es : Exs)
  | bi (b : Bi) (es : Exs)
  | isi (a : Ex) (t : Ty)
  | join (a b : Ex)
  | dnew | dix (a b : Ex) | dcpy (a : Ex)
  | prT (es : Exs) | frz (a : Ex)
  | cpr (own : List (Str × Nat)) (tg : Tg) (src : Src) (c : Tes) (e : Ex)
  | srk (f : Str) (a : Ex)
  | callK (f k : Str) (es : Exs) (v : Ex)
  | glo (x : Str) | callD (f : Str) (es : Exs) | srd (a : Ex) | lsT (a : Ex) | lrv (a : Ex) | trI (a : Ex) | tmp (i : Nat) (a : Ex) | fst (es : Exs)
inductive Exs where | nil | cons (e : Ex) (es : Exs)
inductive Pt where | no | at (e : Ex)
inductive Te where
  | val (e : Ex) | tru (e : Ex) | and (ts : Tes) | or (ts : Tes) | not (a : Te)
inductive Tes where | nil | cons (t : Te) (ts : Tes)
inductive Src where
  | lst (e : Ex) | tup (e : Ex) | rg1 (a : Ex) | rg2 (a b : Ex) | enu (e : Ex) | zip (a b : Ex) | rev (e : Ex) | rgd (a b : Ex)
end
/-- in an except suite: what is asked of the error -/
inductive Ub where | isE (cs : List Str) | not (a : Ub) | and2 (a b : Ub) | and3 (a b c : Ub)
/-- an except suite -/
inductive Sux where | ret (u : Ub) | rets (u : Ub) (x y : Str) | addI (j : Nat) (u : Ub) | pas | retE (u v w : Ub) (p q : Ex)
inductive Sx where
  | asg (fz : List Nat) (i : Nat) (e : Ex)
  | asgT (fz : List Nat) (is : List Nat) (e : Ex)
  | aug (i : Nat) (o : Bop) (e : Ex)
  | augX (i : Nat) (o : Bop) (x e : Ex)
  | setX (fz : List Nat) (i : Nat) (x e : Ex)
  | app (fz : List Nat) (i : Nat) (e : Ex)
  | setD (fz : List Nat) (i : Nat) (x e : Ex)
  | exp (e : Ex)
  | ifs (c : Te) (a b : List Sx)
  | whl (c : Te) (b : List Sx)
  | lop (fz : List Nat) (tg : Tg) (src : Src) (b : List Sx)
  | ret (fz : List Nat) (e : Ex)
  | rtv (i : Nat)
  | rtn | brk | cnt | pas
  | asgO (fz : List Nat) (i : Nat) (e : Ex)
  | appO (fz : List Nat) (i : Nat) (e : Ex)
  | rtp (a : Ex) (i : Nat)
  | appP (i : Nat) (a : Ex) (j : Nat)
  | mov (i j : Nat)
  | setXX (i : Nat) (k x e : Ex)
  | appX (i : Nat) (k e : Ex)
  | movX (i j : Nat) (e : Ex)
  | appXO (i : Nat) (k e : Ex)
  | lopX (i j : Nat) (kk : Ex) (k : Int) (c : Const)
  | lopA (i j : Nat) (k : Int) (c : Const)
  | lopS (i j : Nat) (k : Int) (x e : Ex)
  | chg (i : Nat) (x e : Ex)
  | ins (fz : List Nat) (i : Nat) (k e : Ex)
  | tryA (i : Nat) (ks : List Str) (hs : List (Str × Sux)) (b : Sx)
  | tryK (x : Str) (ks : List Str) (v : Bool) (b : Sx)
  | rai (c : Str)
  | sda (i : Nat) (k e : Ex)
  | appT (i j : Nat)
  | lopP (fz : List Nat) (i j : Nat) (e x : Ex) (c : Int)
  | alS (i j c pl : Nat) (k q e : Ex)
  | apc (e c : Ex)
  | rts (f : Str) (i : Nat)
  | rtc (x : Str) (j i : Nat) (a : Ex)

/-! ### the reckoning -/
abbrev lim : Nat := 16000000
def scal : D → Bool | .none => true | .bool _ => true | .int _ => true | .str _ => true | _ => false
def nt (t : Tag) (d : D) : Tag := if scal d then .sh else t
def constD : Const → Option D
  | .none => some .none | .bool b => some (.bool b) | .int i => some (.int i) | .str s => some (.str s) | _ => none
def ok1 (d : D) : R TD := .ok (.sh, d)
def guard (b : Bool) (r : R TD) : R TD := if b then r else .stuck
def mulOk (i j : Int) : Bool := (decide (i.natAbs < 2 ^ 4000) && decide (j.natAbs < 2 ^ 4000)) || (decide (-(2 ^ 64) < i) && decide (i < 2 ^ 64)) || (decide (-(2 ^ 64) < j) && decide (j < 2 ^ 64))
def powOk (i j : Int) : Bool := decide (0 ≤ j) && decide (j ≤ 1000000) && decide (i.natAbs < 2 ^ 64)
def tgT : Tag → Bool | .sh => true | .pk => true | _ => false
def isRt : Tag → Bool | .rt => true | .ow => true | _ => false
def evBin : Bop → TD → TD → R TD
  | .add, (_, .int i), (_, .int j) => ok1 (.int (i + j))
  | .add, (s, .list xs), (t, .list ys) => guard (decide (xs.length + ys.length ≤ lim)) (.ok ((s.kid.jn t.kid).root, .list (xs ++ ys)))
  | .add, (s, .tuple xs), (t, .tuple ys) => guard (tgT s && tgT t && decide (xs.length + ys.length ≤ lim)) (.ok (s.jn t, .tuple (xs ++ ys)))
  | .add, (_, .str x), (_, .str y) => guard (decide (x.length + y.length ≤ lim)) (ok1 (.str (x ++ y)))
  | .sub, (_, .int i), (_, .int j) => ok1 (.int (i - j))
  | .mul, (_, .int i), (_, .int j) => guard (mulOk i j) (ok1 (.int (i * j)))
  | .mul, (_, .str x), (_, .int k) => guard (decide (0 ≤ k) && decide (k ≤ (lim : Int)) && decide (x.length * k.toNat ≤ lim)) (ok1 (.str (Txt.mul x k)))
  | .mul, (s, .list xs), (_, .int k) => guard (isRt s && decide (0 ≤ k) && decide (k ≤ (lim : Int)) && decide (xs.length * k.toNat ≤ lim)) (.ok (.ow, .list (List.replicate k.toNat xs).flatten))
  | .fdv, (_, .int i), (_, .int j) => guard (decide (0 < j) && decide (j < 1073741824)) (ok1 (.int (i / j)))
  | .mod, (_, .int i), (_, .int j) => guard (decide (0 < j)) (ok1 (.int (i % j)))
  | .pow, (_, .int i), (_, .int j) => guard (powOk i j) (ok1 (.int (i ^ j.toNat)))
  | .band, (_, .int i), (_, .int j) => ok1 (.int (Builtin.bitAnd i j))
  | .shl, (_, .int i), (_, .int j) => guard (powOk i j) (ok1 (.int (i * 2 ^ j.toNat)))
  | .shr, (_, .int i), (_, .int j) => guard (decide (0 ≤ j)) (ok1 (.int (i / 2 ^ j.toNat)))
  | _, _, _ => .stuck
def evNeg : D → R TD | .int i => ok1 (.int (-i)) | _ => .stuck
def isNone : D → Bool | .none => true | _ => false
def gB (c : Bool) (b : Bool) : R Bool := if c then .ok b else .stuck
def both (d e : D) : Bool := SeqAt.shaped d && SeqAt.shaped e
def dkey : D → Option L2.Key | .int i => some (Sum.inl i) | .str s => some (Sum.inr s) | _ => none
def dKey (k : L2.Key) : D := match k with | Sum.inl i => .int i | Sum.inr s => .str s
def dGetK (kvs : List (D × D)) (k : L2.Key) : Option D := (kvs.find? fun kv => decide (dkey kv.1 = some k)).map (·.2)
def dPutK (kvs : List (D × D)) (k : L2.Key) (d : D) : List (D × D) :=
  if (kvs.any fun kv => decide (dkey kv.1 = some k)) = true then kvs.map (fun kv => if dkey kv.1 = some k then (kv.1, d) else kv) else kvs ++ [(dKey k, d)]
def intKV : List (D × D) → Option (List (L2.Key × Int))
  | [] => some []
  | (k, .int i) :: r => match dkey k, intKV r with | some k, some l => some ((k, i) :: l) | _, _ => none
  | _ :: _ => none
def dSame (a b : List (D × D)) : Bool := match intKV a, intKV b with | some x, some y => decide (x = y) && decide ((x.map (·.1)).Nodup) | _, _ => false
def evEq : D → D → R Bool
  | .str x, .str y => .ok (decide (x = y))
  | .dict a, .dict b => if dSame a b then .ok true else .stuck
  | d, e => gB (both d e) (PyData.eqv d e)
def evNe : D → D → R Bool
  | .str x, .str y => .ok (!decide (x = y))
  | .dict a, .dict b => if dSame a b then .ok false else .stuck
  | d, e => gB (both d e) (!PyData.eqv d e)
def evCmp : Cop → D → D → R Bool
  | .eq, d, e => evEq d e
  | .ne, d, e => evNe d e
  | .lt, .int i, .int j => .ok (decide (i < j))
  | .le, .int i, .int j => .ok (decide (i ≤ j))
  | .gt, .int i, .int j => .ok (decide (j < i))
  | .ge, .int i, .int j => .ok (decide (j ≤ i))
  | .is, d, .none => .ok (isNone d)
  | .isn, d, .none => .ok (!isNone d)
  | .is, .bool a, .bool b => .ok (decide (a = b))
  | .is, .int _, .bool _ => .ok false
  | .is, .str _, .bool _ => .ok false
  | .isn, .bool a, .bool b => .ok (!decide (a = b))
  | .inn, d, .list xs => gB (both d (.list xs)) (xs.any fun z => PyData.eqv z d)
  | .nin, d, .list xs => gB (both d (.list xs)) (!xs.any fun z => PyData.eqv z d)
  | _, _, _ => .stuck
def truth : D → R Bool
  | .bool b => .ok b
  | .int i => .ok (i != 0)
  | .none => .ok false
  | .list xs => .ok (!xs.isEmpty)
  | .tuple xs => .ok (!xs.isEmpty)
  | .str z => gB (decide (z.length ≤ lim)) ((z.length : Int) != 0)
  | _ => .stuck
def isBool : D → R Bool | .bool b => .ok b | _ => .stuck
def evIx : TD → D → R TD
  | (t, .list xs), .int i => match L2.atI xs i with | some d => .ok (nt t.kid d, d) | none => .stuck
  | (t, .tuple xs), .int i => match L2.atI xs i with | some d => .ok (nt t.kid d, d) | none => .stuck
  | (_, .str z), .int i => guard (decide (z.length ≤ lim)) (match L2.atI z.cps.toList i with | some c => ok1 (.str ⟨#[c]⟩) | none => .stuck)
  | _, _ => .stuck
def cutD (xs : List D) (lo hi : Option Int) : List D := (xs.drop (HT.sIx xs.length 0 lo)).take (HT.sIx xs.length xs.length hi - HT.sIx xs.length 0 lo)
def evSl : TD → Option Int → Option Int → R TD
  | (t, .list xs), lo, hi => .ok (t.kid.root, .list (cutD xs lo hi))
  | (t, .tuple xs), lo, hi => .ok (t.kid, .tuple (cutD xs lo hi))
  | (_, .str z), lo, hi => guard (decide (z.length ≤ lim)) (ok1 (.str (L2.cutS z lo hi)))
  | _, _, _ => .stuck
def evRev : TD → R TD
  | (t, .list xs) => .ok (t.kid.root, .list xs.reverse)
  | _ => .stuck
def isInt : D → R Int | .int i => .ok i | _ => .stuck
def intL : List D → Option (List Int)
  | [] => some []
  | .int i :: r => (intL r).map (i :: ·)
  | _ :: _ => none
def boolL : List D → Option (List Bool)
  | [] => some []
  | .bool i :: r => (boolL r).map (i :: ·)
  | _ :: _ => none
def leD : D → D → Bool := PySem.W.dataLe false id
def sortOk (xs : List D) : Bool := (xs.all fun d => xs.all fun e => PySem.W.alike d e) && ((xs.all fun d => match d with | .tuple (_ :: _) => true | _ => false) || (xs.all fun d => match d with | .none => false | .tuple _ => false | _ => true)) && (xs.all fun d => decide (d.depth ≤ 60) && d.canLay0)
def reprOk (d : D) : Bool := d.showable && d.canLay0 && decide (d.shown.length ≤ lim) && decide (d.depth ≤ 60)
def evBi : Bi → List TD → R TD
  | .len, [(_, .list xs)] => ok1 (.int xs.length)
  | .len, [(_, .tuple xs)] => ok1 (.int xs.length)
  | .len, [(_, .str z)] => guard (decide (z.length ≤ lim)) (ok1 (.int z.length))
  | .abs, [(_, .int i)] => ok1 (.int (if i < 0 then -i else i))
  | .min, [(_, .int i), (_, .int j)] => ok1 (.int (if j < i then j else i))
  | .max, [(_, .int i), (_, .int j)] => ok1 (.int (if j > i then j else i))
  | .min, [(_, .list xs)] => match intL xs with | some (n :: r) => ok1 (.int (r.foldl min n)) | _ => .stuck
  | .max, [(_, .list xs)] => match intL xs with | some (n :: r) => ok1 (.int (r.foldl max n)) | _ => .stuck
  | .int, [(_, .int i)] => ok1 (.int i)
  | .int, [(_, .bool b)] => ok1 (.int (if b then 1 else 0))
  | .list, [(t, .list xs)] => .ok (t.kid.root, .list xs)
  | .list, [(t, .tuple xs)] => .ok (t.kid.root, .list xs)
  | .tuple, [(t, .list xs)] => .ok (t.kid, .tuple xs)
  | .sum, [(_, .list xs)] => match intL xs with | some ns => ok1 (.int ns.sum) | none => .stuck
  | .any, [(_, .list xs)] => match boolL xs with | some bs => ok1 (.bool (bs.any id)) | none => .stuck
  | .all, [(_, .list xs)] => match boolL xs with | some bs => ok1 (.bool (bs.all id)) | none => .stuck
  | .sorted, [(t, .list xs)] => guard (sortOk xs) (.ok (t.kid.root, .list (xs.mergeSort leD)))
  | .repr, [(_, .list xs)] => guard (reprOk (.list xs)) (ok1 (.str (PyData.shown (.list xs))))
  | .repr, [(_, .tuple xs)] => guard (reprOk (.tuple xs)) (ok1 (.str (PyData.shown (.tuple xs))))
  | .str, [(_, .int i)] => guard (decide (i.natAbs.log2 < 1920)) (ok1 (.str (toString i)))
  | .str, [(_, .str z)] => ok1 (.str z)
  | _, _ => .stuck
def strL : List D → Option (List Str)
  | [] => some []
  | .str i :: r => (strL r).map (i :: ·)
  | _ :: _ => none
def isStr : D → R Str | .str s => .ok s | _ => .stuck
def evJoin (a : Str) : D → R TD
  | .list xs => match strL xs with
    | some ys => guard (decide ((ys.map (·.length)).sum + ys.length * a.length ≤ lim)) (ok1 (.str (Txt.join a ys)))
    | none => .stuck
  | _ => .stuck
def evDix : TD → D → R TD
  | (t, .dict kvs), y => match dkey y with
    | some k => match dGetK kvs k with | some d => .ok (nt t.kid d, d) | none => .stuck
    | none => .stuck
  | _, _ => .stuck
def evDcp : TD → R TD
  | (t, .dict kvs) => .ok (t.kid.root, .dict kvs)
  | _ => .stuck
def isT : Ty → D → Option Bool
  | .int, .int _ => some true | .int, .bool _ => some true
  | .bool, .bool _ => some true
  | .str, .str _ => some true
  | .list, .list _ => some true
  | .tuple, .tuple _ => some true
  | _, .dict _ => none
  | _, _ => some false
def jnL : List TD → Tag | [] => .sh | x :: r => x.1.dm.jn (jnL r)
def bindT : Tg → TD → Env → Option Env
  | .nm i, (.sh, d), env => some (env.set i (.sh d))
  | .tp is, (.sh, .tuple ds), env => if ds.length = is.length then some ((is.zip ds).foldl (fun e p => e.set p.1 (.sh p.2)) env) else none
  | _, _, _ => none
/-- the items of a comprehension -/
def cpl (f : D → R (Option D)) : List D → R (List D)
  | [] => .ok []
  | d :: r => (f d).bind fun o => (cpl f r).bind fun s => match o with | none => .ok s | some x => .ok (x :: s)
def nox {α : Type} : R α → R α | .ok a => .ok a | _ => .stuck
def shOnly (x : TD) : R D := match (nt x.1 x.2).dm with | .sh => .ok x.2 | _ => .stuck
/-- two sources walked at once -/
def zt : Tag → Tag → Tag | .pk, _ => .pk | _, .pk => .pk | .tr, _ => .pk | _, .tr => .pk | .rt, _ => .rt | _, .rt => .rt | _, _ => .sh
def wipeE (env : Env) : List Nat → Env | [] => env | v :: vs => (wipeE env vs).set v .no
def ranged (a b : Int) : List D := (List.range (b - a).toNat).map fun k => .int (a + (k : Nat))
def enumD (k : Nat) : List D → List D | [] => [] | d :: r => .tuple [.int k, d] :: enumD (k + 1) r
def zipD : List D → List D → List D | a :: r, b :: s => .tuple [a, b] :: zipD r s | _, _ => []
def small (i : Int) : Bool := decide (-(2 ^ 62) ≤ i) && decide (i < 2 ^ 62)
def callTag (t o : Tag) (d : D) : Tag := nt (match t with | .sh => o | _ => .pk) d
/-- what is new all through -/
def treeOf : TD → R D
  | (.tr, d) => .ok d
  | (.ow, .list ds) => if ds.all scal then .ok (.list ds) else .stuck
  | (.ow, .dict []) => .ok (.dict [])
  | (_, d) => if scal d then .ok d else .stuck
def items : D → Option (List D) | .list ds => some ds | .tuple ds => some ds | _ => none
def putAt : D → Nat → D → D | .list ds, i, d => .list (ds.set i d) | .tuple ds, i, d => .tuple (ds.set i d) | e, _, _ => e
def scalD (x : TD) : R D := if scal x.2 then .ok x.2 else .stuck
def prD : List TD → R TD | [x, y] => (scalD x).bind fun d => (treeOf y).bind fun e => .ok (.tr, .tuple [d, e]) | _ => .stuck
/-- names that are no names of the program -/
def bang (x : Str) : Bool := x.cps.toList.head? == some 33 || x.cps.toList.head? == some 34 || x.cps.toList.head? == some 35
/-- f called with the last argument by the keyword k -/
def kwn (f k : Str) : Str := ⟨(33 :: f.cps.size :: (f.cps.toList ++ k.cps.toList)).toArray⟩
theorem bang_kwn (f k : Str) : bang (kwn f k) = true := by simp [bang, kwn]
theorem kwn_inj {f k f' k' : Str} (h : kwn f k = kwn f' k') : f = f' ∧ k = k' := by
  have h1 : (33 :: f.cps.size :: (f.cps.toList ++ k.cps.toList)) = 33 :: f'.cps.size :: (f'.cps.toList ++ k'.cps.toList) := by
    have := congrArg (fun s : Str => s.cps.toList) h
    simpa [kwn] using this
  obtain ⟨h2, h3⟩ := List.cons.inj (List.cons.inj h1).2
  obtain ⟨h4, h5⟩ := List.append_inj h3 (by simpa using h2)
  obtain ⟨⟨a⟩⟩ := f
  obtain ⟨⟨b⟩⟩ := k
  obtain ⟨⟨c⟩⟩ := f'
  obtain ⟨⟨d⟩⟩ := k'
  simp at h4 h5
  subst h4 h5
  exact ⟨rfl, rfl⟩
/-- the name of a constant of the module; of a def called with its default -/
def cgn (x : Str) : Str := ⟨(34 :: x.cps.toList).toArray⟩
def dfn (x : Str) : Str := ⟨(35 :: x.cps.toList).toArray⟩
theorem bang_cgn (x : Str) : bang (cgn x) = true := by simp [bang, cgn]
theorem bang_dfn (x : Str) : bang (dfn x) = true := by simp [bang, dfn]
theorem cps_inj {x y : Str} (h : x.cps.toList = y.cps.toList) : x = y := by
  obtain ⟨⟨a⟩⟩ := x
  obtain ⟨⟨b⟩⟩ := y
  simp at h
  subst h
  rfl
theorem cgn_inj {x y : Str} (h : cgn x = cgn y) : x = y := by
  have := congrArg (fun s : Str => s.cps.toList) h
  exact cps_inj (by simpa [cgn] using this)
theorem dfn_inj {x y : Str} (h : dfn x = dfn y) : x = y := by
  have := congrArg (fun s : Str => s.cps.toList) h
  exact cps_inj (by simpa [dfn] using this)
theorem cgn_kwn {x y z : Str} : cgn x ≠ kwn y z := fun h => by
  have := congrArg (fun s : Str => s.cps.toList.head?) h
  simp [cgn, kwn] at this
theorem dfn_kwn {x y z : Str} : dfn x ≠ kwn y z := fun h => by
  have := congrArg (fun s : Str => s.cps.toList.head?) h
  simp [dfn, kwn] at this
theorem cgn_dfn {x y : Str} : cgn x ≠ dfn y := fun h => by
  have := congrArg (fun s : Str => s.cps.toList.head?) h
  simp [dfn, cgn] at this
theorem chg_head : (("!changed" : Str).cps.toList.head?) = some 33 := by decide +kernel
theorem cgn_chg {x : Str} : cgn x ≠ "!changed" := fun h => by
  have := congrArg (fun s : Str => s.cps.toList.head?) h
  rw [chg_head] at this
  simp [cgn] at this
theorem dfn_chg {x : Str} : dfn x ≠ "!changed" := fun h => by
  have := congrArg (fun s : Str => s.cps.toList.head?) h
  rw [chg_head] at this
  simp [dfn] at this
/-- sorted(d), all keys ints -/
def intKs : List (D × D) → Option (List Int)
  | [] => some []
  | (.int i, _) :: r => (intKs r).map (i :: ·)
  | _ :: _ => none
def evSrd : TD → R TD
  | (_, .dict kvs) => match intKs kvs with
    | some ks => guard (decide (ks.length < 64)) (.ok (.ow, .list ((ks.mergeSort fun a b => decide (a ≤ b)).map .int)))
    | none => .stuck
  | _ => .stuck
def rangedD (a b : Int) : List D := (List.range (a - b).toNat).map fun k => .int (a - (k : Nat))
/-- the items in the order of their keys -/
def sortV {α : Type} (ws : List α) (ks : List D) : List α := ((ws.zip ks).mergeSort (PySem.W.dataLe false fun p : α × D => p.2)).map (·.1)
def keysOf (g : List D → R TD) : List D → Option (List D)
  | [] => some []
  | d :: r => match g [d] with | .ok (_, k) => (keysOf g r).map (k :: ·) | _ => none
def evSrk (G : Gam) (f : Str) : TD → R TD
  | (t, .list xs) => match G f with
    | some g => match keysOf g xs with | some ks => guard (sortOk ks) (.ok (t.kid.root, .list (sortV xs ks))) | none => .stuck
    | none => .stuck
  | _ => .stuck
/-- an item of a comprehension that is a new pair: a tree -/
def isPr : Ex → Bool | .prT _ => true | .trI _ => true | _ => false
def itm (e : Ex) (x : TD) : R D := if isPr e = true then treeOf x else shOnly x
def cpTag (e : Ex) : Tag := if isPr e = true then .tr else .ow
/-- an own slot held as shared for a while -/
def frzI (i : Nat) (env : Env) : Env := match env[i]? with | some (.ow d) => env.set i (.sh d) | some (.od d) => env.set i (.sh d) | _ => env
/-- a field of an f-string -/
def fmtD : D → Option Str | .str z => if z.length ≤ lim then some z else none | .int i => if i.natAbs.log2 < 1920 then some (toString i) else none | _ => none
def isSC : Ex → Bool | .cst (.str _) => true | _ => false
mutual
def ev (G : Gam) : Ex → Env → R TD
  | .var i, env => match env[i]? with | some (.sh d) => .ok (.sh, d) | some (.ow d) => .ok (.rt, d) | some (.od d) => .ok (nt .pk d, d) | _ => .stuck
  | .cst c, _ => match constD c with | some d => .ok (.sh, d) | none => .stuck
  | .bin o a b, env => (ev G a env).bind fun x => (ev G b env).bind fun y => evBin o x y
  | .neg a, env => (ev G a env).bind fun x => evNeg x.2
  | .cmp o a b, env => (ev G a env).bind fun x => (ev G b env).bind fun y => (evCmp o x.2 y.2).bind fun r => ok1 (.bool r)
  | .chn o p a b c, env => (ev G a env).bind fun x => (ev G b env).bind fun y => (evCmp o x.2 y.2).bind fun r =>
      match r with
      | true => (ev G c env).bind fun z => (evCmp p y.2 z.2).bind fun r => ok1 (.bool r)
      | false => ok1 (.bool false)
  | .lan es, env => evAnd G es env
  | .lor es, env => evOr G es env
  | .lno a, env => (ev G a env).bind fun x => (isBool x.2).bind fun b => ok1 (.bool (!b))
  | .ife c a b, env => (evT G c env).bind fun t => match t with | true => ev G a env | false => ev G b env
  | .tup es, env => (evs G es env).bind fun l => guard (decide (l.length ≤ lim)) (.ok (jnL l, .tuple (l.map (·.2))))
  | .lst es, env => (evs G es env).bind fun l => guard (decide (l.length ≤ lim)) (.ok ((jnL l).root, .list (l.map (·.2))))
  | .ix a b, env => (ev G a env).bind fun x => (ev G b env).bind fun y => evIx x y.2
  | .sli a lo hi, env => (ev G a env).bind fun x => (evP G lo env).bind fun l => (evP G hi env).bind fun h => evSl x l h
  | .call f es, env => match G f with | none => .stuck | some g => (evs G es env).bind fun l => (g (l.map (·.2))).bind fun r => .ok (callTag (jnL l) r.1 r.2, r.2)
  | .callK f k es v, env => match G (kwn f k) with | none => .stuck | some g => (evs G es env).bind fun l => (ev G v env).bind fun y => (g ((l ++ [y]).map (·.2))).bind fun r => .ok (callTag (jnL (l ++ [y])) r.1 r.2, r.2)
  | .bi b es, env => (evs G es env).bind fun l => evBi b l
  | .glo x, _ => match G (cgn x) with | none => .stuck | some g => g []
  | .callD f es, env => match G (dfn f) with | none => .stuck | some g => (evs G es env).bind fun l => (g (l.map (·.2))).bind fun r => .ok (callTag (jnL l) r.1 r.2, r.2)
  | .srd a, env => (ev G a env).bind fun x => evSrd x
  | .lsT a, env => (ev G a env).bind fun x => (treeOf x).bind fun d => .ok (.tr, .list [d])
  | .lrv a, env => (ev G a env).bind fun x => evRev x
  | .trI a, env => (ev G a env).bind fun x => (treeOf x).bind fun d => .ok (.tr, d)
  | .isi a t, env => (ev G a env).bind fun x => match isT t x.2 with | some b => ok1 (.bool b) | none => .stuck
  | .join a b, env => (ev G a env).bind fun x => (isStr x.2).bind fun s => (ev G b env).bind fun y => evJoin s y.2
  | .dnew, _ => .ok (.ow, .dict [])
  | .dix a b, env => (ev G a env).bind fun x => (ev G b env).bind fun y => evDix x y.2
  | .dcpy a, env => (ev G a env).bind fun x => evDcp x
  | .prT es, env => (evs G es env).bind fun l => prD l
  | .srk f a, env => match G f with | none => .stuck | some _ => (ev G a env).bind fun x => evSrk G f x
  | .tmp i a, env => (ev G a (frzI i env)).bind fun x => if scal x.2 = true then .ok (.sh, x.2) else .stuck
  | .frz a, env => (ev G a env).bind fun x => match (nt x.1 x.2).dm with | .sh => .ok (.sh, x.2) | _ => .stuck
  | .fst es, env => (evFs G es Str.empty env).bind fun z => ok1 (.str z)
  | .cpr own tg src c e, env => (evSrc G src env).bind fun s =>
      (nox (cpl (fun d => match bindT tg (nt s.1.kid d, d) (wipeE env (own.map (·.2))) with
        | none => .stuck
        | some env2 => (evTA G c env2).bind fun t => match t with | true => (ev G e env2).bind fun x => (itm e x).bind fun d => .ok (some d) | false => .ok none) s.2)).bind fun r => guard (decide (s.2.length ≤ lim)) (.ok (cpTag e, .list r))
def evP (G : Gam) : Pt → Env → R (Option Int)
  | .no, _ => .ok none
  | .at e, env => (ev G e env).bind fun x => (isInt x.2).bind fun i => .ok (some i)
def evs (G : Gam) : Exs → Env → R (List TD)
  | .nil, _ => .ok []
  | .cons e es, env => (ev G e env).bind fun x => (evs G es env).bind fun l => .ok (x :: l)
def evFs (G : Gam) : Exs → Str → Env → R Str
  | .nil, acc, _ => .ok acc
  | .cons e es, acc, env => (nox (ev G e env)).bind fun x => match fmtD x.2 with | some y => if (acc ++ y).length ≤ lim then evFs G es (acc ++ y) env else .stuck | none => .stuck
def evAnd (G : Gam) : Exs → Env → R TD
  | .nil, _ => .stuck
  | .cons e .nil, env => ev G e env
  | .cons e es, env => (ev G e env).bind fun x => (isBool x.2).bind fun b => match b with | true => evAnd G es env | false => ok1 (.bool false)
def evOr (G : Gam) : Exs → Env → R TD
  | .nil, _ => .stuck
  | .cons e .nil, env => ev G e env
  | .cons e es, env => (ev G e env).bind fun x => (isBool x.2).bind fun b => match b with | false => evOr G es env | true => ok1 (.bool true)
def evT (G : Gam) : Te → Env → R Bool
  | .val e, env => (ev G e env).bind fun x => isBool x.2
  | .tru e, env => (ev G e env).bind fun x => truth x.2
  | .and ts, env => evTA G ts env
  | .or ts, env => evTO G ts env
  | .not a, env => (evT G a env).bind fun t => .ok (!t)
def evTA (G : Gam) : Tes → Env → R Bool
  | .nil, _ => .ok true
  | .cons a ts, env => (evT G a env).bind fun t => match t with | true => evTA G ts env | false => .ok false
def evTO (G : Gam) : Tes → Env → R Bool
  | .nil, _ => .ok false
  | .cons a ts, env => (evT G a env).bind fun t => match t with | true => .ok true | false => evTO G ts env
def evSrc (G : Gam) : Src → Env → R (Tag × List D)
  | .lst e, env => (ev G e env).bind fun x => match x.2 with | .list ds => .ok (x.1, ds) | _ => .stuck
  | .tup e, env => (ev G e env).bind fun x => match x.2 with | .tuple ds => .ok (x.1, ds) | _ => .stuck
  | .rg1 a, env => (ev G a env).bind fun x => (isInt x.2).bind fun j => if small j then .ok (.sh, ranged 0 j) else .stuck
  | .rg2 a b, env => (ev G a env).bind fun x => (ev G b env).bind fun y => (isInt x.2).bind fun i => (isInt y.2).bind fun j => if small i && small j then .ok (.sh, ranged i j) else .stuck
  | .enu e, env => (ev G e env).bind fun x => match x.2 with | .list ds => .ok (x.1, enumD 0 ds) | _ => .stuck
  | .rgd a b, env => (ev G a env).bind fun x => (ev G b env).bind fun y => (isInt x.2).bind fun i => (isInt y.2).bind fun j => if small i && small j then .ok (.sh, rangedD i j) else .stuck
  | .zip a b, env => (ev G a env).bind fun x => (ev G b env).bind fun y => match x.2, y.2 with | .list ds, .list es => .ok (zt x.1 y.1, zipD ds es) | _, _ => .stuck
  | .rev e, env => (ev G e env).bind fun x => match x.2 with | .list ds => .ok (x.1, ds.reverse) | _ => .stuck
end
/-! ### statements -/
inductive Out where | nx (e : Env) | ret (t : Tag) (d : D) | brk (e : Env) | cnt (e : Env) | exc (c : Str) (e : Env) | stuck
def frz : List Nat → Env → Env
  | [], env => env
  | i :: r, env => match env[i]? with | some (.ow d) => frz r (env.set i (.sh d)) | some (.od d) => frz r (env.set i (.sh d)) | _ => frz r env
def put (env : Env) (i : Nat) (x : TD) : Out := match nt x.1 x.2, x.2 with
  | .sh, d => .nx (env.set i (.sh d))
  | .ow, .list ds => .nx (env.set i (.ow (.list ds)))
  | .ow, .dict ds => .nx (env.set i (.ow (.dict ds)))
  | .tr, d => .nx (env.set i (.od d))
  | _, _ => .stuck
def Out.of {α : Type} (env : Env) : R α → (α → Out) → Out | .ok a, f => f a | .exc c, _ => .exc c env | .stuck, _ => .stuck
def ownL (env : Env) (i : Nat) : R (List D) := match env[i]? with | some (.ow (.list ds)) => .ok ds | _ => .stuck
def ownD (env : Env) (i : Nat) : R (List (D × D)) := match env[i]? with | some (.ow (.dict ds)) => .ok ds | _ => .stuck
def odD (env : Env) (i : Nat) : R D := match env[i]? with | some (.od d) => .ok d | _ => .stuck
/-- an own slot given up as a tree -/
def ownT (env : Env) (i : Nat) : R D := match env[i]? with | some (.od d) => .ok d | some (.ow (.list ds)) => if ds.all scal then .ok (.list ds) else .stuck | _ => .stuck
def itemsR (d : D) : R (List D) := match items d with | some ds => .ok ds | none => .stuck
def asL : D → R (List D) | .list ds => .ok ds | _ => .stuck
def allS (ds : List D) : R (List D) := if ds.all scal then .ok ds else .stuck
def shD (env : Env) (i : Nat) : R D := match env[i]? with | some (.sh d) => .ok d | _ => .stuck
def placed (ds : List D) (k : Int) : R (Nat × D) := match L2.ixN ds.length k with | some j => (match ds[j]? with | some d => .ok (j, d) | none => .stuck) | none => .stuck
def augB : Bop → D → D → R D
  | .add, .int i, .int j => .ok (.int (i + j))
  | .sub, .int i, .int j => .ok (.int (i - j))
  | _, _, _ => .stuck
/-- the list at d[k] -/
def rowL (k : Int) (d : D) : R (Nat × List D) := (itemsR d).bind fun es => (placed es k).bind fun p => (asL p.2).bind fun ws => .ok (p.1, ws)
/-- for row in rows: row[k].append(c) -/
def rowA (k : Int) (c : D) (d : D) : R D := (rowL k d).bind fun p => if p.2.length < lim then .ok (putAt d p.1 (.list (p.2 ++ [c]))) else .stuck
/-- row[k][x] = y -/
def rowS (p : Nat × List D) (x : Int) (y : D) (d : D) : R D := (allS p.2).bind fun ws => (placed ws x).bind fun q => .ok (putAt d p.1 (.list (ws.set q.1 y)))
def eachR (f : D → R D) : List D → R (List D) | [] => .ok [] | d :: r => (f d).bind fun e => (eachR f r).bind fun s => .ok (e :: s)
def chgV (ds : List D) (k c : Int) : R (List D) := (placed ds k).bind fun p => match p.2 with | .none => .ok ds | .int m => .ok (ds.set p.1 (.int (m + c))) | _ => .stuck
def asD : D → R (List (D × D)) | .dict kvs => .ok kvs | _ => .stuck
/-- the list at a key, or a new one -/
def sdRow (kvs : List (D × D)) (k : L2.Key) : R (List D) := match dGetK kvs k with | none => .ok [] | some d => asL d
/-- a list of plain things, one of its numbers raised -/
def bump (x c : Int) (d : D) : R D := (asL d).bind fun ws => (allS ws).bind fun ws => (placed ws x).bind fun q => (augB .add q.2 (.int c)).bind fun r => .ok (.list (ws.set q.1 r))
/-- a for over items -/
def lp (f : D → Env → Out) : List D → Env → Out
  | [], env => .nx env
  | d :: r, env => match f d env with
    | .nx e => lp f r e
    | .cnt e => lp f r e
    | .brk e => .nx e
    | .ret t d => .ret t d
    | .exc c e => .exc c e
    | .stuck => .stuck
/-- a while of at most so many turns -/
def wh (c : Env → R Bool) (f : Env → Out) : Nat → Env → Out
  | 0, _ => .stuck
  | n + 1, env => Out.of env (c env) fun t => match t with
    | false => .nx env
    | true => match f env with
      | .nx e => wh c f n e
      | .cnt e => wh c f n e
      | .brk e => .nx e
      | .ret t d => .ret t d
      | .exc c e => .exc c e
      | .stuck => .stuck
/-- the rest behind a statement -/
def Out.then (o : Out) (f : Env → Out) : Out := match o with | .nx e => f e | o => o
/-- an error of class c is one of class x -/
def subE (c x : Str) : Bool := decide (x = c) || decide (x = "LegionError") || decide (x = "ValueError")
def Ub.is (c : Str) : Ub → Bool | .isE cs => cs.any (subE c) | .not a => !(a.is c) | .and2 a b => a.is c && b.is c | .and3 a b d => a.is c && (b.is c && d.is c)
def Sux.ev (c : Str) (s : Sux) (env : Env) : Out := match s with
  | .ret u => .ret .sh (.bool (u.is c))
  | .rets u x y => .ret .sh (.str (if u.is c then x else y))
  | .addI j u => match env[j]? with | some (.sh (.int n)) => .nx (env.set j (.sh (.int (n + (if u.is c then 1 else 0))))) | _ => .stuck
  | .pas => .nx env
  | .retE u v w p q => if (u.is c && (v.is c && w.is c)) = true then (match PV.ev (fun _ => none) p env with
    | .ok (_, .bool a) => if a = true then (match PV.ev (fun _ => none) q env with | .ok (_, .bool b) => .ret .sh (.bool b) | _ => .stuck) else .ret .sh (.bool false)
    | _ => .stuck) else .ret .sh (.bool false)
/-- the handler of an error of class c -/
def hdl (c : Str) : List (Str × Sux) → Option Sux | [] => none | h :: r => if subE c h.1 then some h.2 else hdl c r
def Out.caught (i : Nat) (ks : List Str) (hs : List (Str × Sux)) : Out → Out
  | .exc c e => if c ∈ ks ∧ i < e.length then (match hdl c hs with | some s => s.ev c (e.set i .no) | none => .exc c e) else .stuck
  | o => o
/-- except x: return v -/
def Out.caughtK (x : Str) (ks : List Str) (v : Bool) : Out → Out
  | .exc c e => if c ∈ ks then (if subE c x = true then .ret .sh (.bool v) else .exc c e) else .stuck
  | o => o
/-- one = x[k]; c = one[1]; p = q; c[p] = e: a list of plain things within an own tree, changed through two names -/
def alV (G : Gam) (i j c pl : Nat) (k q e : Ex) (env : Env) : R Env :=
  (odD env i).bind fun t => (asL t).bind fun ds => (ev G k env).bind fun a => (isInt a.2).bind fun a => (placed ds a).bind fun p => (rowL 1 p.2).bind fun w =>
  (ev G q ((env.set j .no).set c .no)).bind fun b => (isInt b.2).bind fun b =>
  (ev G e (((((env.set j .no).set c .no).set pl (.sh (.int b))).set i .no).set c (.od (.list w.2)))).bind fun y => (scalD y).bind fun z => (rowS w b z p.2).bind fun d2 =>
  if (i ≠ j ∧ i ≠ c ∧ i ≠ pl ∧ j ≠ c ∧ j ≠ pl ∧ c ≠ pl) ∧ j < env.length ∧ c < env.length ∧ pl < env.length then .ok ((((env.set j .no).set c .no).set pl (.sh (.int b))).set i (.od (.list (ds.set p.1 d2)))) else .stuck
mutual
def evS (G : Gam) (W : Nat) : Sx → Env → Out
  | .asg fz i e, env => Out.of (frz fz env) (ev G e (frz fz env)) fun x => put (frz fz env) i x
  | .asgT fz is e, env => Out.of (frz fz env) (ev G e (frz fz env)) fun x => match bindT (.tp is) ((nt x.1 x.2).dm, x.2) (frz fz env) with | some e2 => .nx e2 | none => .stuck
  | .aug i o e, env => Out.of env (shD env i) fun a => Out.of env (ev G e env) fun x => Out.of env (augB o a x.2) fun r => .nx (env.set i (.sh r))
  | .augX i o x e, env => Out.of env (ownL env i) fun ds => Out.of env (ev G x env) fun k => Out.of env (isInt k.2) fun k => Out.of env (placed ds k) fun p =>
      Out.of env (ev G e env) fun y => Out.of env (augB o p.2 y.2) fun r => .nx (env.set i (.ow (.list (ds.set p.1 r))))
  | .setX fz i x e, env => Out.of (frz fz env) (ev G e (frz fz env)) fun y => Out.of (frz fz env) (shOnly y) fun r => Out.of (frz fz env) (ownL (frz fz env) i) fun ds =>
      Out.of (frz fz env) (ev G x (frz fz env)) fun k => Out.of (frz fz env) (isInt k.2) fun k => Out.of (frz fz env) (placed ds k) fun p => .nx ((frz fz env).set i (.ow (.list (ds.set p.1 r))))
  | .app fz i e, env => Out.of (frz fz env) (ownL (frz fz env) i) fun ds => Out.of (frz fz env) (ev G e (frz fz env)) fun y => Out.of (frz fz env) (shOnly y) fun r =>
      if ds.length < lim then .nx ((frz fz env).set i (.ow (.list (ds ++ [r])))) else .stuck
  | .setD fz i x e, env => Out.of (frz fz env) (ev G e (frz fz env)) fun y => Out.of (frz fz env) (shOnly y) fun r => Out.of (frz fz env) (ownD (frz fz env) i) fun ds =>
      Out.of (frz fz env) (ev G x (frz fz env)) fun k => match dkey k.2 with
        | some kk => if ds.length < lim then .nx ((frz fz env).set i (.ow (.dict (dPutK ds kk r)))) else .stuck
        | none => .stuck
  | .exp e, env => Out.of env (ev G e env) fun _ => .nx env
  | .ifs c a b, env => Out.of env (evT G c env) fun t => match t with | true => evSs G W a env | false => evSs G W b env
  | .whl c b, env => wh (fun e => evT G c e) (fun e => evSs G W b e) W env
  | .lop fz tg src b, env => Out.of (frz fz env) (evSrc G src (frz fz env)) fun s => match s.1.dm with
      | .sh => lp (fun d e => match bindT tg (.sh, d) e with | some e2 => evSs G W b e2 | none => .stuck) s.2 (frz fz env)
      | _ => .stuck
  | .ret fz e, env => Out.of (frz fz env) (ev G e (frz fz env)) fun x => match nt x.1 x.2 with | .sh => .ret .sh x.2 | .ow => .ret .ow x.2 | .tr => .ret .tr x.2 | _ => .stuck
  | .rtv i, env => match env[i]? with | some (.ow d) => .ret .ow d | some (.sh d) => .ret .sh d | some (.od d) => .ret .tr d | _ => .stuck
  | .asgO fz i e, env => Out.of (frz fz env) (ev G e (frz fz env)) fun x => Out.of (frz fz env) (treeOf x) fun d => .nx ((frz fz env).set i (.od d))
  | .appO fz i e, env => Out.of (frz fz env) (odD (frz fz env) i) fun t => Out.of (frz fz env) (asL t) fun ds => Out.of (frz fz env) (ev G e (frz fz env)) fun y => Out.of (frz fz env) (treeOf y) fun r =>
      if ds.length < lim then .nx ((frz fz env).set i (.od (.list (ds ++ [r])))) else .stuck
  | .rtp a i, env => Out.of env (ev G a env) fun x => Out.of env (scalD x) fun c => Out.of env (ownT env i) fun d => .ret .tr (.tuple [c, d])
  | .appP i a j, env => Out.of env (odD env i) fun t => Out.of env (asL t) fun ds => Out.of env (ev G a env) fun x => Out.of env (scalD x) fun c => Out.of env (ownT env j) fun d =>
      if i ≠ j ∧ ds.length < lim then .nx ((env.set j .no).set i (.od (.list (ds ++ [.tuple [c, d]])))) else .stuck
  | .mov i j, env => Out.of env (odD env j) fun d => if i ≠ j then .nx ((env.set j .no).set i (.od d)) else .stuck
  | .setXX i k x e, env => Out.of env (ev G e env) fun y => Out.of env (scalD y) fun c => Out.of env (odD env i) fun d => Out.of env (ev G k env) fun a => Out.of env (isInt a.2) fun a => Out.of env (rowL a d) fun p =>
      Out.of env (ev G x env) fun b => Out.of env (isInt b.2) fun b => Out.of env (rowS p b c d) fun d2 => .nx (env.set i (.od d2))
  | .appX i k e, env => Out.of env (odD env i) fun d => Out.of env (ev G k env) fun a => Out.of env (isInt a.2) fun a => Out.of env (rowL a d) fun p => Out.of env (ev G e env) fun y => Out.of env (scalD y) fun c =>
      if p.2.length < lim then .nx (env.set i (.od (putAt d p.1 (.list (p.2 ++ [c]))))) else .stuck
  | .movX i j e, env => Out.of env (odD env j) fun t => Out.of env (ev G e env) fun a => Out.of env (isInt a.2) fun a => Out.of env (itemsR t) fun ds => Out.of env (placed ds a) fun p => if i ≠ j then .nx ((env.set j .no).set i (.od p.2)) else .stuck
  | .appXO i k e, env => Out.of env (odD env i) fun d => Out.of env (ev G k env) fun a => Out.of env (isInt a.2) fun a => Out.of env (rowL a d) fun p => Out.of env (ev G e env) fun y => Out.of env (treeOf y) fun c =>
      if p.2.length < lim then .nx (env.set i (.od (putAt d p.1 (.list (p.2 ++ [c]))))) else .stuck
  | .lopX i j kk k c, env => Out.of env (odD env i) fun t => Out.of env (ev G kk env) fun a => Out.of env (isInt a.2) fun a => Out.of env (rowL a t) fun p => match constD c with
      | some c => if i ≠ j ∧ j < env.length then Out.of env (eachR (rowA k c) p.2) fun es => .nx ((env.set j .no).set i (.od (putAt t p.1 (.list es)))) else .stuck
      | none => .stuck
  | .lopA i j k c, env => Out.of env (odD env i) fun t => Out.of env (asL t) fun ds => match constD c with
      | some c => if i ≠ j ∧ j < env.length then Out.of env (eachR (rowA k c) ds) fun es => .nx ((env.set j .no).set i (.od (.list es))) else .stuck
      | none => .stuck
  | .lopS i j k x e, env => Out.of env (odD env i) fun t => Out.of env (asL t) fun ds => if i ≠ j ∧ j < env.length then
      Out.of env (nox (eachR (fun d => (ev G e ((env.set i .no).set j (.od d))).bind fun y => (scalD y).bind fun c => (rowL k d).bind fun p => (ev G x ((env.set i .no).set j (.od d))).bind fun b => (isInt b.2).bind fun b => rowS p b c d) ds)) fun es =>
        .nx ((env.set j .no).set i (.od (.list es))) else .stuck
  | .chg i x e, env => match G "!changed" with
    | none => .stuck
    | some _ => Out.of env (ownL env i) fun ds => Out.of env (ev G x env) fun a => Out.of env (isInt a.2) fun a => Out.of env (ev G e env) fun b => Out.of env (isInt b.2) fun b => Out.of env (chgV ds a b) fun es => .nx (env.set i (.ow (.list es)))
  | .rtn, _ => .ret .sh .none
  | .brk, env => .brk env
  | .cnt, env => .cnt env
  | .pas, env => .nx env
  | .rai c, env => .exc c env
  | .sda i k e, env => Out.of env (odD env i) fun d => Out.of env (asD d) fun kvs => Out.of env (ev G k env) fun a => match dkey a.2 with
      | none => .stuck
      | some kk => Out.of env (sdRow kvs kk) fun ws => Out.of env (nox (ev G e (env.set i .no))) fun y => Out.of env (scalD y) fun c =>
        if kvs.length < lim ∧ ws.length < lim then .nx (env.set i (.od (.dict (dPutK kvs kk (.list (ws ++ [c])))))) else .stuck
  | .appT i j, env => Out.of env (odD env i) fun t => Out.of env (asL t) fun ds => Out.of env (ownT env j) fun d => if i ≠ j ∧ ds.length < lim then .nx ((env.set j .no).set i (.od (.list (ds ++ [d])))) else .stuck
  | .lopP fz i j e x c, env => Out.of (frz fz env) (ev G e (frz fz env)) fun s => Out.of (frz fz env) (treeOf s) fun t => Out.of (frz fz env) (asL t) fun ds => Out.of (frz fz env) (odD (frz fz env) i) fun u => Out.of (frz fz env) (asL u) fun fs =>
      if i ≠ j ∧ j < (frz fz env).length ∧ fs.length + ds.length < lim then
        Out.of (frz fz env) (nox (eachR (fun d => (ev G x (((frz fz env).set i .no).set j .no)).bind fun b => (isInt b.2).bind fun b => bump b c d) ds)) fun es => .nx (((frz fz env).set j .no).set i (.od (.list (fs ++ es)))) else .stuck
  | .ins fz i k e, env => Out.of (frz fz env) (ownL (frz fz env) i) fun ds => Out.of (frz fz env) (ev G k (frz fz env)) fun a => Out.of (frz fz env) (isInt a.2) fun a => Out.of (frz fz env) (ev G e (frz fz env)) fun y => Out.of (frz fz env) (shOnly y) fun r =>
      if 0 ≤ a ∧ a ≤ 1000000 ∧ ds.length < lim then .nx ((frz fz env).set i (.ow (.list (ds.take a.toNat ++ [r] ++ ds.drop a.toNat)))) else .stuck
  | .tryA i ks hs b, env => (evS G W b env).caught i ks hs
  | .tryK x ks v b, env => (evS G W b env).caughtK x ks v
  | .rts f i, env => match G f with
    | none => .stuck
    | some g => Out.of env (odD env i) fun t => Out.of env (asL t) fun ds => match keysOf g ds with
      | some ks => if sortOk ks = true then .ret .tr (.list (sortV ds ks)) else .stuck
      | none => .stuck
  | .rtc _ j i a, env => Out.of env (odD env i) fun t => Out.of env (asL t) fun ds => Out.of env (nox (ev G a (env.set j .no))) fun y => Out.of env (scalD y) fun c =>
      if sortOk ds = true ∧ i ≠ j ∧ j < env.length ∧ ds.length ≤ lim then .ret .tr (.list ((sortV ds ds).map fun d => .tuple [c, d])) else .stuck
  | .apc e c, env => Out.of env (ev G e env) fun x => match x with
    | (.ow, .list ds) => Out.of env (nox (ev G c env)) fun y => Out.of env (scalD y) fun _ => if ds.length < lim then .nx env else .stuck
    | _ => .stuck
  | .alS i j c pl k q e, env => match alV G i j c pl k q e env with | .ok e2 => .nx e2 | _ => .stuck
def evSs (G : Gam) (W : Nat) : List Sx → Env → Out
  | [], env => .nx env
  | s :: r, env => (evS G W s env).then fun e => evSs G W r e
end
/-- a def: its value from its arguments' -/
def evDef (G : Gam) (W sz k : Nat) (b : List Sx) (ds : List D) : R TD :=
  if ds.length ≠ k then .stuck else match evSs G W b (ds.map Slot.sh ++ List.replicate (sz - ds.length) Slot.no) with
  | .ret .sh d => .ok (.sh, d)
  | .ret .ow d => .ok (.ow, d)
  | .ret .tr d => .ok (.tr, d)
  | .nx _ => .ok (.sh, .none)
  | .exc c _ => .exc c
  | _ => .stuck

/-! ### the look: which text a piece stands for -/
open L2 (relS)
def visB (sc : Scope) (x : Str) : Bool := match sc.names.lookup x with | some .local => true | some .cell => true | some .free => true | _ => false
def glB (sc : Scope) (x : Str) : Bool := match sc.names.lookup x with | some .globalImplicit => true | _ => false
def nmB (x : Str) : Bool := !(x == "__debug__") && !(x == "__classdict__")
/-- a name that may be stored: its slot; in a block only the block's own cells -/
def stB (N : List Str) (sc : Scope) (cok : Str → Bool) (i : Nat) (x : Str) : Bool :=
  decide (N[i]? = some x) && (match sc.names.lookup x with | some .local => true | some .cell => cok x | _ => false)
def bopE : Bop → Operator | .add => .Add | .sub => .Sub | .mul => .Mult | .fdv => .FloorDiv | .mod => .Mod | .pow => .Pow | .band => .BitAnd | .shl => .LShift | .shr => .RShift
def copE : Cop → CmpOp | .eq => .Eq | .ne => .NotEq | .lt => .Lt | .le => .LtE | .gt => .Gt | .ge => .GtE | .is => .Is | .isn => .IsNot | .inn => .In | .nin => .NotIn
def Bi.name : Bi → Str | .len => "len" | .abs => "abs" | .min => "min" | .max => "max" | .int => "int" | .list => "list" | .tuple => "tuple" | .sum => "sum" | .any => "any" | .all => "all" | .sorted => "sorted" | .repr => "repr" | .str => "str"
def Bi.calm : Bi → Bool | .min => false | .max => false | .sum => false | .any => false | .all => false | _ => true
def Ty.name : Ty → String | .int => "int" | .bool => "bool" | .str => "str" | .list => "list" | .tuple => "tuple"
def glN (sc : Scope) (bs : List Str) (x : Str) : Bool := glB sc x && decide (x ∈ bs)
def chkTg (N : List Str) (sc : Scope) (cok : Str → Bool) : Tg → Expr → Bool
  | .nm i, .Name x _ => stB N sc cok i x
  | .tp is, .Tuple es _ _ => go is es
  | _, _ => false
where go : List Nat → List Expr → Bool
  | [], [] => true
  | i :: is, .Name x _ :: es => stB N sc cok i x && go is es
  | _, _ => false
def tgIn : Tg → List Nat → Bool | .nm i, vs => vs.contains i | .tp is, vs => is.all fun i => vs.contains i
def isTupE : Expr → Bool | .Tuple _ _ _ => true | _ => false
def noSet : Expr → Bool | .Set .. => false | _ => true
def valE : Expr → Bool | .Compare .. => true | .Call .. => true | _ => false
def truE : Expr → Bool | .Name .. => true | .Subscript .. => true | .Call .. => true | _ => false
def attrOk : Expr → Bool | .Constant .. => true | .Name .. => true | _ => false
def frzE : Expr → Bool | .Call .. => true | _ => false
def isTI : Ex → Bool | .trI _ => true | _ => false
def isLC : Expr → Bool | .ListComp .. => true | _ => false
def isM1 : Expr → Bool | .UnaryOp .USub (.Constant c _ _) _ => decide (c = .int 1) | _ => false
def noSl : Expr → Bool | .Slice .. => false | _ => true
mutual
def chkE (N : List Str) (bs : List Str) : Ex → Scope → Expr → Bool
  | .var i, sc, .Name x _ => decide (N[i]? = some x) && visB sc x && nmB x
  | .cst c, _, .Constant c' _ _ => decide (c = c') && (constD c).isSome
  | .bin o a b, sc, .BinOp l op r _ => decide (op = bopE o) && chkE N bs a sc l && chkE N bs b sc r
  | .neg a, sc, .UnaryOp .USub x _ => chkE N bs a sc x
  | .cmp o a b, sc, .Compare l [op] [r] _ => decide (op = copE o) && chkE N bs a sc l && chkE N bs b sc r
  | .chn o p a b c, sc, .Compare l [op, op'] [m, r] _ => decide (op = copE o) && decide (op' = copE p) && chkE N bs a sc l && chkE N bs b sc m && chkE N bs c sc r
  | .lan es, sc, .BoolOp .And vs _ => chkEs N bs es sc vs
  | .lor es, sc, .BoolOp .Or vs _ => chkEs N bs es sc vs
  | .lno a, sc, .UnaryOp .Not x _ => chkE N bs a sc x
  | .ife c a b, sc, .IfExp t l r _ => chkT N bs c sc t && chkE N bs a sc l && chkE N bs b sc r
  | .tup es, sc, .Tuple xs _ _ => chkEs N bs es sc xs
  | .lst es, sc, .List xs _ => chkEs N bs es sc xs
  | .ix a b, sc, .Subscript v s _ => noSl s && chkE N bs a sc v && chkE N bs b sc s
  | .sli a lo hi, sc, .Subscript v (.Slice l h none _) _ => chkE N bs a sc v && chkP N bs lo sc l && chkP N bs hi sc h
  | .call f es, sc, .Call (.Name x _) (y :: ys) [] _ => decide (x = f) && !bang f && glB sc x && nmB x && chkEs N bs es sc (y :: ys)
  | .callK f k es v, sc, .Call (.Name x _) (y :: ys) [⟨some z, u, _⟩] _ => decide (x = f) && decide (z = k) && glB sc x && nmB x && chkEs N bs es sc (y :: ys) && chkE N bs v sc u
  | .glo x, sc, .Name y _ => decide (x = y) && glB sc y && nmB y
  | .callD f es, sc, .Call (.Name x _) (y :: ys) [] _ => decide (x = f) && glB sc x && nmB x && chkEs N bs es sc (y :: ys)
  | .lsT a, sc, .List [x] _ => chkE N bs a sc x
  | .lrv a, sc, .Call (.Name x _) [.Call (.Name z _) [y] [] _] [] _ => decide (x = "list") && glN sc bs x && decide (z = "reversed") && glN sc bs z && decide (("range" : Str) ∈ bs) && chkE N bs a sc y
  | .srd a, sc, .Call (.Name x _) [y] [] _ => decide (x = "sorted") && glN sc bs x && decide (("range" : Str) ∈ bs) && chkE N bs a sc y
  | .bi b es, sc, .Call (.Name x _) (y :: ys) [] _ => decide (x = b.name) && glN sc bs x && (b.calm || decide (("range" : Str) ∈ bs)) && chkEs N bs es sc (y :: ys)
  | .isi a t, sc, .Call (.Name x _) [y, .Name z _] [] _ => decide (x = "isinstance") && glN sc bs x && decide (z = t.name) && glN sc bs z && chkE N bs a sc y
  | .join a b, sc, .Call (.Attribute o m ap) [y] [] p => decide (m = "join") && decide (ap.endLine = p.line) && attrOk o && chkE N bs a sc o && chkE N bs b sc y
  | .dnew, _, .Dict [] [] _ => true
  | .dix a b, sc, .Subscript v s _ => noSl s && chkE N bs a sc v && chkE N bs b sc s
  | .dcpy a, sc, .Call (.Name x _) [y] [] _ => decide (x = "dict") && glN sc bs x && chkE N bs a sc y
  | .prT es, sc, .Tuple xs _ _ => chkEs N bs es sc xs
  | .srk f a, sc, .Call (.Name x _) [y] [⟨some k, .Name z _, _⟩] _ => decide (x = "sorted") && glN sc bs x && decide (k = "key") && decide (z = f) && !bang f && glB sc z && nmB z && chkE N bs a sc y
  | .tmp _ a, sc, x => frzE x && chkE N bs a sc x
  | .frz a, sc, x => frzE x && chkE N bs a sc x
  | .trI a, sc, x => isLC x && chkE N bs a sc x
  | .fst es, sc, .JoinedStr vs _ => decide (2 ≤ vs.length) && chkFs N bs es sc vs
  | .cpr own tg src c e, sc, .ListComp elt [⟨t, it, ifs, z⟩] scope _ => decide (z = 0) && decide (("range" : Str) ∈ bs) && L2.blkC N sc scope own && chkTg N (relS scope sc) (fun x => scope.names.lookup x == some .cell) tg t && chkSrc N bs src sc it t &&
      chkTs N bs c (relS scope sc) ifs && decide (ifs.length ≤ 1) && chkE N bs e (relS scope sc) elt && tgIn tg (own.map (·.2))
  | _, _, _ => false
def chkEs (N : List Str) (bs : List Str) : Exs → Scope → List Expr → Bool
  | .nil, _, [] => true
  | .cons e es, sc, x :: xs => chkE N bs e sc x && chkEs N bs es sc xs
  | _, _, _ => false
def chkFs (N : List Str) (bs : List Str) : Exs → Scope → List Expr → Bool
  | .nil, _, [] => true
  | .cons e es, sc, .Constant c k p :: r => isSC e && chkE N bs e sc (.Constant c k p) && chkFs N bs es sc r
  | .cons e es, sc, .FormattedValue u c none _ :: r => decide (c = -1) && !isSC e && chkE N bs e sc u && chkFs N bs es sc r
  | _, _, _ => false
def chkP (N : List Str) (bs : List Str) : Pt → Scope → Option Expr → Bool
  | .no, _, none => true
  | .at e, sc, some x => chkE N bs e sc x
  | _, _, _ => false
def chkT (N : List Str) (bs : List Str) : Te → Scope → Expr → Bool
  | .val e, sc, x => valE x && chkE N bs e sc x
  | .tru e, sc, x => truE x && chkE N bs e sc x
  | .not a, sc, .UnaryOp .Not x _ => chkT N bs a sc x
  | .and ts, sc, .BoolOp .And xs _ => !xs.isEmpty && chkTs N bs ts sc xs
  | .or ts, sc, .BoolOp .Or xs _ => !xs.isEmpty && chkTs N bs ts sc xs
  | _, _, _ => false
def chkTs (N : List Str) (bs : List Str) : Tes → Scope → List Expr → Bool
  | .nil, _, [] => true
  | .cons t ts, sc, x :: xs => chkT N bs t sc x && chkTs N bs ts sc xs
  | _, _, _ => false
def chkSrc (N : List Str) (bs : List Str) : Src → Scope → Expr → Expr → Bool
  | .lst e, sc, x, _ => noSet x && chkE N bs e sc x
  | .tup e, sc, x, _ => noSet x && chkE N bs e sc x
  | .rg1 a, sc, .Call (.Name x _) [y] [] _, _ => decide (x = "range") && glN sc bs x && chkE N bs a sc y
  | .rg2 a b, sc, .Call (.Name x _) [y, z] [] _, _ => decide (x = "range") && glN sc bs x && chkE N bs a sc y && chkE N bs b sc z
  | .rgd a b, sc, .Call (.Name x _) [y, z, u] [] _, _ => isM1 u && decide (x = "range") && glN sc bs x && chkE N bs a sc y && chkE N bs b sc z
  | .enu a, sc, .Call (.Name x _) [y] [] _, tg => decide (x = "enumerate") && glN sc bs x && chkE N bs a sc y && isTupE tg
  | .zip a b, sc, .Call (.Name x _) [y, z] [] _, tg => decide (x = "zip") && glN sc bs x && chkE N bs a sc y && chkE N bs b sc z && isTupE tg
  | .rev a, sc, .Call (.Name x _) [y] [] _, _ => decide (x = "reversed") && glN sc bs x && chkE N bs a sc y
  | _, _, _, _ => false
end
def augO : Bop → Bool | .add => true | .sub => true | _ => false
def chkR (sc : Scope) (cs : List Str) (c : Str) : Expr → Bool
  | .Call (.Name x _) [.Constant (.str _) _ _] [] _ => decide (x = c) && glB sc x && nmB x && decide (x ∈ cs)
  | _ => false
def isPlainV : Expr → Bool | .ListComp .. => false | _ => true
def isCallE : Expr → Bool | .Call .. => true | _ => false
def vr (N : List Str) (sc : Scope) (i : Nat) (x : Str) : Bool := decide (N[i]? = some x) && visB sc x && nmB x
def kAsgO (N bs : List Str) (sc : Scope) (i : Nat) (e : Ex) : Stmt → Bool
  | .Assign [.Name x _] v _ => isPlainV v && stB N sc (fun _ => true) i x && chkE N bs e sc v
  | _ => false
def kApp (N bs : List Str) (sc : Scope) (i : Nat) (e : Ex) : Stmt → Bool
  | .Expr (.Call (.Attribute (.Name x _) m ap) [y] [] p) _ => decide (m = "append") && decide (ap.endLine = p.line) && vr N sc i x && chkE N bs e sc y
  | _ => false
def kRtp (N bs : List Str) (sc : Scope) (a : Ex) (i : Nat) : Stmt → Bool
  | .Return (some (.Tuple [y, .Name x _] _ _)) _ => chkE N bs a sc y && vr N sc i x
  | _ => false
def kAppP (N bs : List Str) (sc : Scope) (i : Nat) (a : Ex) (j : Nat) : Stmt → Bool
  | .Expr (.Call (.Attribute (.Name x _) m ap) [.Tuple [y, .Name z _] _ _] [] p) _ => decide (m = "append") && decide (ap.endLine = p.line) && vr N sc i x && chkE N bs a sc y && vr N sc j z
  | _ => false
def kMov (N : List Str) (sc : Scope) (i j : Nat) : Stmt → Bool
  | .Assign [.Name x _] (.Name z _) _ => stB N sc (fun _ => true) i x && vr N sc j z
  | _ => false
def kMovX (N bs : List Str) (sc : Scope) (i j : Nat) (e : Ex) : Stmt → Bool
  | .Assign [.Name x _] (.Subscript (.Name y _) s _) _ => stB N sc (fun _ => true) i x && vr N sc j y && noSl s && chkE N bs e sc s
  | _ => false
def kSetXX (N bs : List Str) (sc : Scope) (i : Nat) (k l e : Ex) : Stmt → Bool
  | .Assign [.Subscript (.Subscript (.Name x _) s _) u _] v _ => vr N sc i x && noSl s && noSl u && chkE N bs k sc s && chkE N bs l sc u && chkE N bs e sc v
  | _ => false
def kAppX (N bs : List Str) (sc : Scope) (i : Nat) (k e : Ex) : Stmt → Bool
  | .Expr (.Call (.Attribute (.Subscript (.Name x _) s _) m ap) [y] [] p) _ => decide (m = "append") && decide (ap.endLine = p.line) && vr N sc i x && noSl s && chkE N bs k sc s && chkE N bs e sc y
  | _ => false
def kLopA (N bs : List Str) (sc : Scope) (i j : Nat) (k : Int) (c : Const) : Stmt → Bool
  | .For (.Name r _) (.Name x _) [.Expr (.Call (.Attribute (.Subscript (.Name r2 _) s _) m ap) [y] [] p) _] [] _ => decide (("range" : Str) ∈ bs) && decide (m = "append") && decide (ap.endLine = p.line) &&
      vr N sc i x && stB N sc (fun _ => true) j r && vr N sc j r2 && noSl s && chkE N bs (.cst (.int k)) sc s && chkE N bs (.cst c) sc y
  | _ => false
def kLopX (N bs : List Str) (sc : Scope) (i j : Nat) (kk : Ex) (k : Int) (c : Const) : Stmt → Bool
  | .For (.Name r _) (.Subscript (.Name x _) s0 _) [.Expr (.Call (.Attribute (.Subscript (.Name r2 _) s _) m ap) [y] [] p) _] [] _ => decide (("range" : Str) ∈ bs) && decide (m = "append") && decide (ap.endLine = p.line) &&
      vr N sc i x && noSl s0 && chkE N bs kk sc s0 && stB N sc (fun _ => true) j r && vr N sc j r2 && noSl s && chkE N bs (.cst (.int k)) sc s && chkE N bs (.cst c) sc y
  | _ => false
def kLopS (N bs : List Str) (sc : Scope) (i j : Nat) (k : Int) (l e : Ex) : Stmt → Bool
  | .For (.Name r _) (.Name x _) [.Assign [.Subscript (.Subscript (.Name r2 _) s _) u _] v _] [] _ => decide (("range" : Str) ∈ bs) &&
      vr N sc i x && stB N sc (fun _ => true) j r && vr N sc j r2 && noSl s && noSl u && chkE N bs (.cst (.int k)) sc s && chkE N bs l sc u && chkE N bs e sc v
  | _ => false
def kChg (N bs : List Str) (sc : Scope) (i : Nat) (l e : Ex) : Stmt → Bool
  | .Expr (.Call (.Name f _) [.Name x _, y, z] [] _) _ => decide (f = "changed") && glB sc f && nmB f && vr N sc i x && chkE N bs l sc y && chkE N bs e sc z
  | _ => false
/-- a class that may be named: an own one, or ValueError -/
def kCls (sc : Scope) (bs cs : List Str) (x : Str) : Bool := if x = "ValueError" then glN sc bs x else glB sc x && nmB x && (decide (x ∈ cs) || decide (x = "LegionError"))
def kClss (sc : Scope) (bs cs : List Str) : List Str → List Expr → Bool
  | [], [] => true
  | c :: r, .Name z _ :: es => decide (z = c) && kCls sc bs cs z && kClss sc bs cs r es
  | _, _ => false
def kUb (N bs cs : List Str) (sc : Scope) (i : Nat) : Ub → Expr → Bool
  | .isE xs, .Call (.Name x _) [.Name y _, .Tuple zs _ _] [] _ => decide (x = "isinstance") && glN sc bs x && vr N sc i y && kClss sc bs cs xs zs && decide (xs.length < 1000)
  | .isE xs, .Call (.Name x _) [.Name y _, z] [] _ => decide (x = "isinstance") && glN sc bs x && vr N sc i y && kClss sc bs cs xs [z]
  | .not a, .UnaryOp .Not x _ => kUb N bs cs sc i a x
  | .and2 a b, .BoolOp .And [x, y] _ => kUb N bs cs sc i a x && kUb N bs cs sc i b y
  | .and3 a b c, .BoolOp .And [x, y, z] _ => kUb N bs cs sc i a x && kUb N bs cs sc i b y && kUb N bs cs sc i c z
  | _, _ => false
def kUt (N bs cs : List Str) (sc : Scope) (i : Nat) : Ub → Expr → Bool
  | .and2 a b, .BoolOp .And [x, y] _ => kUt N bs cs sc i a x && kUt N bs cs sc i b y
  | .not a, .UnaryOp .Not x _ => kUt N bs cs sc i a x
  | .isE xs, .Call f a k p => kUb N bs cs sc i (.isE xs) (.Call f a k p)
  | _, _ => false
def kSux (N bs cs : List Str) (sc : Scope) (i : Nat) : Sux → Stmt → Bool
  | .ret u, .Return (some e) _ => kUb N bs cs sc i u e
  | .rets u x y, .Return (some (.IfExp e (.Constant (.str a) _ _) (.Constant (.str b) _ _) _)) _ => kUt N bs cs sc i u e && decide (a = x) && decide (b = y)
  | .addI j u, .Assign [.Name x _] (.BinOp (.Name y _) .Add (.Call (.Name f _) [e] [] _) _) _ => decide (i ≠ j) && stB N sc (fun _ => true) j x && vr N sc j y && decide (f = "int") && glN sc bs f && kUb N bs cs sc i u e
  | .pas, .Pass _ => true
  | .retE u v w p q, .Return (some (.BoolOp .And [x1, x2, x3, x4, x5] _)) _ => decide (("repr" : Str) ∈ bs) && kUb N bs cs sc i u x1 && kUb N bs cs sc i v x2 && kUb N bs cs sc i w x3 && chkE N ["repr"] p sc x4 && chkE N ["repr"] q sc x5
  | _, _ => false
def kHs (N bs cs : List Str) (sc : Scope) (i : Nat) : List (Str × Sux) → List ExceptHandler → Bool
  | [], [] => true
  | h :: r, .ExceptHandler (some (.Name x _)) (some n) [st] _ :: hs => decide (x = h.1) && decide (x ∈ cs) && glB sc x && nmB x && decide (N[i]? = some n) && (sc.names.lookup n == some .local) && kSux N bs cs sc i h.2 st && kHs N bs cs sc i r hs
  | _, _ => false
def kIns (N bs : List Str) (sc : Scope) (i : Nat) (k e : Ex) : Stmt → Bool
  | .Expr (.Call (.Attribute (.Name x _) m ap) [u, y] [] p) _ => decide (m = "insert") && decide (ap.endLine = p.line) && vr N sc i x && chkE N bs k sc u && chkE N bs e sc y
  | _ => false
def kSda (N bs : List Str) (sc : Scope) (i : Nat) (k e : Ex) : Stmt → Bool
  | .Expr (.Call (.Attribute (.Call (.Attribute (.Name x _) m1 ap1) [u, .List [] _] [] p1) m ap) [y] [] p) _ => decide (m1 = "setdefault") && decide (ap1.endLine = p1.line) && decide (m = "append") && decide (ap.endLine = p.line) &&
      vr N sc i x && chkE N bs k sc u && chkE N bs e sc y
  | _ => false
def kAppT (N bs : List Str) (sc : Scope) (i j : Nat) : Stmt → Bool
  | .Expr (.Call (.Attribute (.Name x _) m ap) [.Name z _] [] p) _ => decide (m = "append") && decide (ap.endLine = p.line) && vr N sc i x && vr N sc j z
  | _ => false
def kLopP (N bs : List Str) (sc : Scope) (i j : Nat) (e x : Ex) (c : Int) : Stmt → Bool
  | .For (.Name r _) it [.AugAssign (.Subscript (.Name r2 _) s _) op v _, .Expr (.Call (.Attribute (.Name f _) m ap) [.Name r3 _] [] p) _] [] _ => decide (("range" : Str) ∈ bs) && decide (op = .Add) && decide (m = "append") && decide (ap.endLine = p.line) &&
      noSet it && chkE N bs e sc it && stB N sc (fun _ => true) j r && vr N sc j r2 && vr N sc j r3 && vr N sc i f && noSl s && chkE N bs x sc s && chkE N bs (.cst (.int c)) sc v
  | _ => false
def kAlS (N bs : List Str) (sc : Scope) (i j c pl : Nat) (k q e : Ex) : Stmt → Stmt → Stmt → Stmt → Bool
  | .Assign [.Name o1 _] (.Subscript (.Name m1 _) s1 _) _, .Assign [.Name c1 _] (.Subscript (.Name o2 _) s2 _) _, .Assign [.Name p1 _] v3 _, .Assign [.Subscript (.Name c2 _) (.Name p2 _) _] v4 _ =>
      stB N sc (fun _ => true) j o1 && vr N sc i m1 && noSl s1 && chkE N bs k sc s1 && stB N sc (fun _ => true) c c1 && vr N sc j o2 && noSl s2 && chkE N bs (.cst (.int 1)) sc s2 && stB N sc (fun _ => true) pl p1 && isPlainV v3 && chkE N bs q sc v3 && vr N sc c c2 && vr N sc pl p2 && chkE N bs e sc v4
  | _, _, _, _ => false
def kApc (N bs : List Str) (sc : Scope) (e c : Ex) : Stmt → Bool
  | .Expr (.Call (.Attribute (.Call (.Name f pf) (a :: as) ks p2) m ap) [y] [] p) _ => decide (m = "append") && decide (ap.endLine = p.line) && chkE N bs e sc (.Call (.Name f pf) (a :: as) ks p2) && chkE N bs c sc y
  | _ => false
def kRts (N bs : List Str) (sc : Scope) (f : Str) (i : Nat) : Stmt → Bool
  | .Return (some (.Call (.Name x _) [.Name y _] [⟨some k, .Name z _, _⟩] _)) _ => decide (x = "sorted") && glN sc bs x && decide (k = "key") && decide (z = f) && !bang f && glB sc z && nmB z && vr N sc i y
  | _ => false
/-- return [(a, y) for y in sorted(x)], x an own tree -/
def kRtc (N bs : List Str) (sc : Scope) (x : Str) (j i : Nat) (a : Ex) : Stmt → Bool
  | .Return (some (.ListComp (.Tuple [e1, .Name y _] _ _) [⟨t, .Call (.Name z _) [.Name u _] [] _, [], m⟩] scope _)) _ => decide (m = 0) && decide (("range" : Str) ∈ bs) && L2.blkC N sc scope [(x, j)] && chkTg N (relS scope sc) (fun x => scope.names.lookup x == some .cell) (.nm j) t && decide (z = "sorted") && glN sc bs z && vr N sc i u && chkE N bs a (relS scope sc) e1 && vr N (relS scope sc) j y
  | _ => false
def alOf : Sx → Option (Nat × Nat × Nat × Nat × Ex × Ex × Ex) | .alS i j c pl k q e => some (i, j, c, pl, k, q, e) | _ => none
/-- the text of changed -/
def isChg : List Stmt → Bool
  | [.If (.Compare (.Subscript (.Name a _) (.Name b _) _) [.IsNot] [.Constant .none _ _] _) [.AugAssign (.Subscript (.Name c _) (.Name d _) _) .Add (.Name e _) _] [] _] => decide (a = "counts") && decide (b = "place") && decide (c = "counts") && decide (d = "place") && decide (e = "change")
  | _ => false
mutual
def chkS (N : List Str) (bs cs : List Str) (sc : Scope) : Sx → Stmt → Bool
  | .asg _ i e, .Assign [.Name x _] v _ => stB N sc (fun _ => true) i x && !isTI e && chkE N bs e sc v
  | .asgT _ is e, .Assign [.Tuple es _ _] v _ => decide (("range" : Str) ∈ bs) && chkTg.go N sc (fun _ => true) is es && !isTupE v && chkE N bs e sc v
  | .aug i o e, .AugAssign (.Name x _) op v _ => augO o && decide (op = bopE o) && stB N sc (fun _ => true) i x && chkE N bs e sc v
  | .augX i o k e, .AugAssign (.Subscript (.Name x _) s _) op v _ => augO o && decide (op = bopE o) && decide (N[i]? = some x) && visB sc x && nmB x && noSl s && chkE N bs k sc s && chkE N bs e sc v
  | .setX _ i k e, .Assign [.Subscript (.Name x _) s _] v _ => decide (N[i]? = some x) && visB sc x && nmB x && noSl s && chkE N bs k sc s && chkE N bs e sc v
  | .setD _ i k e, .Assign [.Subscript (.Name x _) s _] v _ => decide (N[i]? = some x) && visB sc x && nmB x && noSl s && chkE N bs k sc s && chkE N bs e sc v
  | .app _ i e, .Expr (.Call (.Attribute (.Name x _) m ap) [y] [] p) _ => decide (m = "append") && decide (ap.endLine = p.line) && decide (N[i]? = some x) && visB sc x && nmB x && chkE N bs e sc y
  | .exp e, .Expr v _ => isCallE v && chkE N bs e sc v
  | .ifs c a b, .If t x y _ => chkT N bs c sc t && chkSs N bs cs sc a x && chkSs N bs cs sc b y
  | .whl c a, .While t x [] _ => chkT N bs c sc t && chkSs N bs cs sc a x
  | .lop _ tg src a, .For t it x [] _ => decide (("range" : Str) ∈ bs) && chkTg N sc (fun _ => true) tg t && chkSrc N bs src sc it t && chkSs N bs cs sc a x
  | .ret _ e, .Return (some v) _ => chkE N bs e sc v
  | .rtv i, .Return (some (.Name x _)) _ => decide (N[i]? = some x) && visB sc x && nmB x
  | .rtn, .Return none _ => true
  | .asgO _ i e, s => kAsgO N bs sc i e s
  | .appO _ i e, s => kApp N bs sc i e s
  | .rtp a i, s => kRtp N bs sc a i s
  | .appP i a j, s => kAppP N bs sc i a j s
  | .mov i j, s => kMov N sc i j s
  | .setXX i k l e, s => kSetXX N bs sc i k l e s
  | .appX i k e, s => kAppX N bs sc i k e s
  | .movX i j e, s => kMovX N bs sc i j e s
  | .appXO i k e, s => kAppX N bs sc i k e s
  | .lopX i j kk k c, s => kLopX N bs sc i j kk k c s
  | .lopA i j k c, s => kLopA N bs sc i j k c s
  | .lopS i j k l e, s => kLopS N bs sc i j k l e s
  | .chg i l e, s => kChg N bs sc i l e s
  | .ins _ i k e, s => kIns N bs sc i k e s
  | .sda i k e, s => kSda N bs sc i k e s
  | .appT i j, s => kAppT N bs sc i j s
  | .lopP _ i j e x c, s => kLopP N bs sc i j e x c s
  | .brk, .Break _ => true
  | .cnt, .Continue _ => true
  | .pas, .Pass _ => true
  | .tryA i ks hs b, .Try [x] hds [] [] _ => decide (("!try" : Str) ∈ bs) && ks.all (fun c => decide (c ∈ cs)) && decide (0 < hs.length) && kHs N bs cs sc i hs hds && chkS N bs cs sc b x
  | .tryK y ks v b, .Try [x] [.ExceptHandler (some (.Name z _)) none [.Return (some (.Constant (.bool u) _ _)) _] _] [] [] _ => decide (("!try" : Str) ∈ bs) && ks.all (fun c => decide (c ∈ cs)) && decide (z = y) && decide (y ∈ cs) && glB sc y && nmB y && decide (u = v) && chkS N bs cs sc b x
  | .rai c, .Raise (some e) none _ => decide (("range" : Str) ∈ bs) && chkR sc cs c e
  | .alS _ _ _ _ _ _ _, _ => false
  | .apc e c, s => kApc N bs sc e c s
  | .rts f i, s => kRts N bs sc f i s
  | .rtc x j i a, s => kRtc N bs sc x j i a s
  | _, _ => false
def chkSs (N : List Str) (bs cs : List Str) (sc : Scope) : List Sx → List Stmt → Bool
  | [], [] => true
  | s :: r, st => match alOf s with
    | some a => (match st with | x1 :: x2 :: x3 :: x4 :: xs => kAlS N bs sc a.1 a.2.1 a.2.2.1 a.2.2.2.1 a.2.2.2.2.1 a.2.2.2.2.2.1 a.2.2.2.2.2.2 x1 x2 x3 x4 && chkSs N bs cs sc r xs | _ => false)
    | none => (match st with | x :: xs => chkS N bs cs sc s x && chkSs N bs cs sc r xs | [] => false)
  | _, _ => false
end
end PV

/-! PvRel: how the layer's heap bears pure data. -/
namespace PV
open PySem PySem.Spec PyProof.Rows L2

def keyD : Key → D | .inl i => .int i | .inr x => .str x
/-- a list that is read: tracked, locked, or one of the written part in its plain form -/
def LL (K : PySem.W.Frag) (H : Hp) (a : Addr) (vs : List V) : Prop :=
  Rd H a (.lst vs) ∨ ∃ (its : List Value) (n : Nat), K.lookup a = some { cls := .type "list", data := .seq its.toArray n } ∧ Vals vs its ∧ its.length ≤ sizeLine
theorem LL.seq {K : PySem.W.Frag} {H : Hp} {a : Addr} {vs : List V} (h : LL K H a vs) : SqL K H a vs := by
  rcases h with h | ⟨its, n, h1, h2, h3⟩
  · exact .inl h
  · exact .inr ⟨_, its.toArray, n, h1, rfl, rfl, rfl, by simpa using h3, by simpa using h2⟩
theorem rd_mono {H H' : Hp} {a : Addr} {u : HO} (e : Same H H') (h : Rd H a u) : Rd H' a u := by
  rcases h with h | ⟨o, h⟩
  · exact .inl (e _ _ h)
  · exact .inr ⟨o, e _ _ h⟩
theorem LL.mono {K : PySem.W.Frag} {H H' : Hp} {a : Addr} {vs : List V} (e : Same H H') (h : LL K H a vs) : LL K H' a vs := by
  rcases h with h | h
  · exact .inl (rd_mono e h)
  · exact .inr h
theorem sqT_mono {K : PySem.W.Frag} {H H' : Hp} {a : Addr} {vs : List V} (e : Same H H') (h : SqT K H a vs) : SqT K H' a vs := by
  rcases h with h | h
  · exact .inl (rd_mono e h)
  · exact .inr h
theorem LL.of {K : PySem.W.Frag} {H : Hp} {a : Addr} {vs : List V} (h : H a = some (.lst vs)) : LL K H a vs := .inl (.inl h)
mutual
def Is (K : PySem.W.Frag) (H : Hp) : D → V → Prop
  | .none, v => v = .non
  | .bool b, v => v = .bl b
  | .int i, v => v = .int i
  | .str x, v => v = .str x
  | .list ds, v => ∃ a vs, v = .ref a ∧ LL K H a vs ∧ IsL K H ds vs
  | .tuple ds, v => ∃ a vs, v = .ref a ∧ SqT K H a vs ∧ IsL K H ds vs
  | .dict kvs, v => ∃ a es, v = .ref a ∧ H a = some (.dK es) ∧ IsK K H kvs es
def IsL (K : PySem.W.Frag) (H : Hp) : List D → List V → Prop
  | [], vs => vs = []
  | d :: ds, vs => ∃ v r, vs = v :: r ∧ Is K H d v ∧ IsL K H ds r
def IsK (K : PySem.W.Frag) (H : Hp) : List (D × D) → List (Key × V) → Prop
  | [], es => es = []
  | (k, d) :: r, es => ∃ kk v es', es = (kk, v) :: es' ∧ k = keyD kk ∧ Is K H d v ∧ IsK K H r es'
end
section
variable {K : PySem.W.Frag} {H H' : Hp}
mutual
theorem Is.mono (e : Same H H') : ∀ {d : D} {v : V}, Is K H d v → Is K H' d v
  | .none, _, h => by simpa only [Is] using h
  | .bool _, _, h => by simpa only [Is] using h
  | .int _, _, h => by simpa only [Is] using h
  | .str _, _, h => by simpa only [Is] using h
  | .list ds, v, h => by
    simp only [Is] at h ⊢
    obtain ⟨a, vs, h1, h2, h3⟩ := h
    exact ⟨a, vs, h1, h2.mono e, IsL.mono e h3⟩
  | .tuple ds, v, h => by
    simp only [Is] at h ⊢
    obtain ⟨a, vs, h1, h2, h3⟩ := h
    exact ⟨a, vs, h1, sqT_mono e h2, IsL.mono e h3⟩
  | .dict kvs, v, h => by
    simp only [Is] at h ⊢
    obtain ⟨a, vs, h1, h2, h3⟩ := h
    exact ⟨a, vs, h1, e _ _ h2, IsK.mono e h3⟩
theorem IsL.mono (e : Same H H') : ∀ {ds : List D} {vs : List V}, IsL K H ds vs → IsL K H' ds vs
  | [], _, h => by simpa only [IsL] using h
  | d :: ds, vs, h => by
    simp only [IsL] at h ⊢
    obtain ⟨v, r, h1, h2, h3⟩ := h
    exact ⟨v, r, h1, Is.mono e h2, IsL.mono e h3⟩
theorem IsK.mono (e : Same H H') : ∀ {ds : List (D × D)} {vs : List (Key × V)}, IsK K H ds vs → IsK K H' ds vs
  | [], _, h => by simpa only [IsK] using h
  | (k, d) :: ds, vs, h => by
    simp only [IsK] at h ⊢
    obtain ⟨kk, v, r, h1, h0, h2, h3⟩ := h
    exact ⟨kk, v, r, h1, h0, Is.mono e h2, IsK.mono e h3⟩
end
theorem IsL.nil : IsL K H [] [] := by simp only [IsL]
theorem IsL.cons {d : D} {v : V} {ds : List D} {vs : List V} (h : Is K H d v) (t : IsL K H ds vs) : IsL K H (d :: ds) (v :: vs) := by
  simp only [IsL]
  exact ⟨v, vs, rfl, h, t⟩
theorem IsL.len : ∀ {ds : List D} {vs : List V}, IsL K H ds vs → vs.length = ds.length
  | [], _, h => by
    simp only [IsL] at h
    subst h
    rfl
  | d :: ds, _, h => by
    simp only [IsL] at h
    obtain ⟨v, r, rfl, _, t⟩ := h
    simp only [List.length_cons, IsL.len t]
theorem IsL.get : ∀ {ds : List D} {vs : List V} {i : Nat} {d : D}, IsL K H ds vs → ds[i]? = some d → ∃ v, vs[i]? = some v ∧ Is K H d v
  | [], _, _, _, _, e => by simp at e
  | d :: ds, _, 0, _, h, e => by
    simp only [IsL] at h
    obtain ⟨v, r, rfl, q, t⟩ := h
    simp at e
    subst e
    exact ⟨v, rfl, q⟩
  | d :: ds, _, i + 1, _, h, e => by
    simp only [IsL] at h
    obtain ⟨v, r, rfl, q, t⟩ := h
    obtain ⟨w, e1, e2⟩ := IsL.get (i := i) t (by simpa using e)
    exact ⟨w, by simpa using e1, e2⟩
theorem IsL.getV {ds : List D} {vs : List V} {i : Nat} {v : V} (h : IsL K H ds vs) (e : vs[i]? = some v) : ∃ d, ds[i]? = some d ∧ Is K H d v := by
  have hi : i < ds.length := by
    have := (List.getElem?_eq_some_iff.mp e).1
    rw [h.len] at this
    exact this
  obtain ⟨w, e1, e2⟩ := h.get (List.getElem?_eq_getElem hi)
  rw [e] at e1
  cases e1
  exact ⟨_, List.getElem?_eq_getElem hi, e2⟩
theorem IsL.app : ∀ {ds es : List D} {vs ws : List V}, IsL K H ds vs → IsL K H es ws → IsL K H (ds ++ es) (vs ++ ws)
  | [], _, _, _, h, t => by
    simp only [IsL] at h
    subst h
    exact t
  | d :: ds, _, _, _, h, t => by
    simp only [IsL] at h
    obtain ⟨v, r, rfl, q, u⟩ := h
    exact .cons q (IsL.app u t)
theorem IsL.one {d : D} {v : V} (h : Is K H d v) : IsL K H [d] [v] := .cons h .nil
theorem IsL.take : ∀ {ds : List D} {vs : List V} (n : Nat), IsL K H ds vs → IsL K H (ds.take n) (vs.take n)
  | _, _, 0, _ => by
    rw [List.take_zero, List.take_zero]
    exact .nil
  | [], _, n + 1, h => by
    simp only [IsL] at h
    subst h
    exact .nil
  | d :: ds, _, n + 1, h => by
    simp only [IsL] at h
    obtain ⟨v, r, rfl, q, u⟩ := h
    exact .cons q (IsL.take n u)
theorem IsL.drop : ∀ {ds : List D} {vs : List V} (n : Nat), IsL K H ds vs → IsL K H (ds.drop n) (vs.drop n)
  | _, _, 0, h => h
  | [], _, n + 1, h => by
    simp only [IsL] at h
    subst h
    exact .nil
  | d :: ds, _, n + 1, h => by
    simp only [IsL] at h
    obtain ⟨v, r, rfl, q, u⟩ := h
    exact IsL.drop n u
theorem IsL.set : ∀ {ds : List D} {vs : List V} {d : D} {v : V} (i : Nat), IsL K H ds vs → Is K H d v → IsL K H (ds.set i d) (vs.set i v)
  | [], _, _, _, i, h, _ => by
    simp only [IsL] at h
    subst h
    exact .nil
  | e :: ds, _, _, _, 0, h, q => by
    simp only [IsL] at h
    obtain ⟨w, r, rfl, _, u⟩ := h
    exact .cons q u
  | e :: ds, _, _, _, i + 1, h, q => by
    simp only [IsL] at h
    obtain ⟨w, r, rfl, z, u⟩ := h
    exact .cons z (IsL.set i u q)
theorem IsL.rep {ds : List D} {vs : List V} (h : IsL K H ds vs) : ∀ n : Nat, IsL K H (List.replicate n ds).flatten (List.replicate n vs).flatten
  | 0 => .nil
  | n + 1 => by
    rw [List.replicate_succ, List.replicate_succ, List.flatten_cons, List.flatten_cons]
    exact h.app (IsL.rep h n)
theorem IsL.rev : ∀ {ds : List D} {vs : List V}, IsL K H ds vs → IsL K H ds.reverse vs.reverse
  | [], _, h => by
    simp only [IsL] at h
    subst h
    exact .nil
  | d :: ds, _, h => by
    simp only [IsL] at h
    obtain ⟨v, r, rfl, q, u⟩ := h
    rw [List.reverse_cons, List.reverse_cons]
    exact (IsL.rev u).app (.one q)
theorem IsL.cut {ds : List D} {vs : List V} (h : IsL K H ds vs) (lo hi : Option Int) : IsL K H (cutD ds lo hi) (cutV vs lo hi) := by
  unfold cutD cutV
  rw [h.len]
  exact (h.drop _).take _
theorem Is.scal {d : D} {v : V} {G : Hp} (h : Is K H d v) (s : PV.scal d = true) : Is K G d v := by
  cases d with
  | none => simpa only [Is] using h
  | bool _ => simpa only [Is] using h
  | int _ => simpa only [Is] using h
  | str _ => simpa only [Is] using h
  | list _ => simp [PV.scal] at s
  | tuple _ => simp [PV.scal] at s
  | dict _ => simp [PV.scal] at s
theorem intL_map : ∀ {ds : List D} {ns : List Int}, intL ds = some ns → ds = ns.map .int
  | [], _, h => by
    simp [intL] at h
    subst h
    rfl
  | .int i :: r, ns, h => by
    simp only [intL, Option.map_eq_some_iff] at h
    obtain ⟨m, h1, rfl⟩ := h
    rw [intL_map h1, List.map_cons]
  | .none :: _, _, h => by simp [intL] at h
  | .bool _ :: _, _, h => by simp [intL] at h
  | .str _ :: _, _, h => by simp [intL] at h
  | .list _ :: _, _, h => by simp [intL] at h
  | .tuple _ :: _, _, h => by simp [intL] at h
  | .dict _ :: _, _, h => by simp [intL] at h
theorem boolL_map : ∀ {ds : List D} {ns : List Bool}, boolL ds = some ns → ds = ns.map .bool
  | [], _, h => by
    simp [boolL] at h
    subst h
    rfl
  | .bool i :: r, ns, h => by
    simp only [boolL, Option.map_eq_some_iff] at h
    obtain ⟨m, h1, rfl⟩ := h
    rw [boolL_map h1, List.map_cons]
  | .none :: _, _, h => by simp [boolL] at h
  | .int _ :: _, _, h => by simp [boolL] at h
  | .str _ :: _, _, h => by simp [boolL] at h
  | .list _ :: _, _, h => by simp [boolL] at h
  | .tuple _ :: _, _, h => by simp [boolL] at h
  | .dict _ :: _, _, h => by simp [boolL] at h
theorem isL_ints : ∀ {ns : List Int} {vs : List V}, IsL K H (ns.map .int) vs → vs = ns.map .int
  | [], _, h => by simpa only [IsL, List.map_nil] using h
  | n :: r, _, h => by
    simp only [IsL, List.map_cons, Is] at h
    obtain ⟨v, w, rfl, rfl, t⟩ := h
    rw [isL_ints t, List.map_cons]
theorem isL_bools : ∀ {ns : List Bool} {vs : List V}, IsL K H (ns.map .bool) vs → vs = ns.map .bl
  | [], _, h => by simpa only [IsL, List.map_nil] using h
  | n :: r, _, h => by
    simp only [IsL, List.map_cons, Is] at h
    obtain ⟨v, w, rfl, rfl, t⟩ := h
    rw [isL_bools t, List.map_cons]
theorem ints_isL : ∀ ns : List Int, IsL K H (ns.map .int) (ns.map V.int)
  | [] => .nil
  | n :: r => .cons (by simp only [Is]) (ints_isL r)
mutual
theorem Is.dp : ∀ {d : D} {v : V}, d.canLay0 = true → Is K H d v → Dp K H v d
  | .none, _, _, h => by
    simp only [Is] at h
    subst h
    exact .non
  | .bool b, _, _, h => by
    simp only [Is] at h
    subst h
    exact .bl b
  | .int i, _, _, h => by
    simp only [Is] at h
    subst h
    exact .int i
  | .str x, _, _, h => by
    simp only [Is] at h
    subst h
    exact .str x
  | .list ds, _, c, h => by
    simp only [Is] at h
    obtain ⟨a, vs, rfl, h1, h2⟩ := h
    exact .lst h1.seq (IsL.dp (by simpa only [PyData.canLay0] using c) h2)
  | .tuple ds, _, c, h => by
    simp only [Is] at h
    obtain ⟨a, vs, rfl, h1, h2⟩ := h
    exact .tup h1 (IsL.dp (by simpa only [PyData.canLay0] using c) h2)
  | .dict _, _, c, _ => by simp [PyData.canLay0] at c
theorem IsL.dp : ∀ {ds : List D} {vs : List V}, PyData.canLayAll0 ds = true → IsL K H ds vs → DpAll K H vs ds
  | [], _, _, h => by
    simp only [IsL] at h
    subst h
    exact .nil
  | d :: ds, _, c, h => by
    simp only [IsL] at h
    obtain ⟨v, r, rfl, h1, h2⟩ := h
    simp only [PyData.canLayAll0, Bool.and_eq_true] at c
    exact .cons (Is.dp c.1 h1) (IsL.dp c.2 h2)
end
end

/-! ### more of the frozen part, more of the heap -/
structure Ext (F H F' H' : Hp) : Prop where
  f : Same F F'
  h : Same H H'
  s : Same F' H'
  n : ∀ p, F' p ≠ none → F p ≠ none ∨ H p = none
theorem Ext.refl {F H : Hp} (s : Same F H) : Ext F H F H := ⟨Same.refl _, Same.refl _, s, fun _ h => .inl h⟩
theorem Ext.trans {F H F1 H1 F2 H2 : Hp} (a : Ext F H F1 H1) (b : Ext F1 H1 F2 H2) : Ext F H F2 H2 :=
  ⟨a.f.trans b.f, a.h.trans b.h, b.s, fun p h => by
    rcases b.n p h with h | h
    · exact a.n p h
    · exact .inr (a.h.free h)⟩
theorem Ext.gone {F H F' H' : Hp} (e : Ext F H F' H') {p : Addr} (h : F p = none) (k : H p ≠ none) : F' p = none := by
  cases q : F' p with
  | none => rfl
  | some o =>
    rcases e.n p (by rw [q]; intro z; cases z) with z | z
    · exact absurd h z
    · exact absurd z k
theorem Ext.stay {F H F' H' : Hp} (e : Ext F H F' H') {p : Addr} (k : H p ≠ none) : H' p = H p := by
  cases z : H p with
  | none => exact absurd z k
  | some o => exact e.h _ _ z
theorem same_upd {H : Hp} {p : Addr} {o : HO} (h : H p = none) : Same H (upd H p o) := fun b u e => by
  rw [upd_ne (ne_of_none e h)]
  exact e
theorem same_updF {F H : Hp} {p : Addr} {o : HO} (s : Same F H) (h : H p = some o) : Same (upd F p o) H := fun b u e => by
  by_cases q : b = p
  · subst q
    rw [upd_same] at e
    cases e
    exact h
  · rw [upd_ne q] at e
    exact s _ _ e
/-- a new object, frozen at once -/
theorem Ext.new {F H : Hp} {p : Addr} {o : HO} (s : Same F H) (h : H p = none) : Ext F H (upd F p o) (upd H p o) :=
  ⟨same_upd (s.free h), same_upd h, fun b u e => by
    by_cases q : b = p
    · subst q
      rw [upd_same] at e ⊢
      exact e
    · rw [upd_ne q] at e ⊢
      exact s _ _ e, fun b e => by
    by_cases q : b = p
    · subst q
      exact .inr h
    · rw [upd_ne q] at e
      exact .inl e⟩
/-- a new object, not frozen -/
theorem Ext.new0 {F H : Hp} {p : Addr} {o : HO} (s : Same F H) (h : H p = none) : Ext F H F (upd H p o) :=
  ⟨Same.refl _, same_upd h, s.trans (same_upd h), fun _ e => .inl e⟩
/-! ### trees that are owned, with the places they stand at -/
mutual
/-- v bears d; all its lists and tuples stand at fp, nothing of it is frozen, no place twice -/
def Own (K : PySem.W.Frag) (F H : Hp) : D → V → List Addr → Prop
  | .none, v, fp => fp = [] ∧ v = .non
  | .bool b, v, fp => fp = [] ∧ v = .bl b
  | .int i, v, fp => fp = [] ∧ v = .int i
  | .str x, v, fp => fp = [] ∧ v = .str x
  | .list xs, v, fp => ∃ p vs fq, v = .ref p ∧ fp = p :: fq ∧ p ∉ fq ∧ F p = none ∧ H p = some (.lst vs) ∧ OwnL K F H xs vs fq
  | .tuple xs, v, fp => ∃ p vs fq, v = .ref p ∧ fp = p :: fq ∧ p ∉ fq ∧ F p = none ∧ H p = some (.tup vs) ∧ OwnL K F H xs vs fq
  | .dict kvs, v, fp => ∃ p es fq, v = .ref p ∧ fp = p :: fq ∧ p ∉ fq ∧ F p = none ∧ H p = some (.dK es) ∧ OwnK K F H kvs es fq
def OwnL (K : PySem.W.Frag) (F H : Hp) : List D → List V → List Addr → Prop
  | [], vs, fp => vs = [] ∧ fp = []
  | x :: r, vs, fp => ∃ v w f g, vs = v :: w ∧ fp = f ++ g ∧ (∀ a ∈ f, a ∉ g) ∧ Own K F H x v f ∧ OwnL K F H r w g
def OwnK (K : PySem.W.Frag) (F H : Hp) : List (D × D) → List (Key × V) → List Addr → Prop
  | [], es, fp => es = [] ∧ fp = []
  | (k, d) :: r, es, fp => ∃ kk v w f g, es = (kk, v) :: w ∧ (k = keyD kk ∧ ∀ q ∈ r, q.1 ≠ k) ∧ fp = f ++ g ∧ (∀ a ∈ f, a ∉ g) ∧ Own K F H d v f ∧ OwnK K F H r w g
end
section
variable {K : PySem.W.Frag} {F H F' H' : Hp}
mutual
theorem Own.at : ∀ {o : D} {v : V} {fp : List Addr}, Own K F H o v fp → ∀ a ∈ fp, F a = none ∧ H a ≠ none
  | .none, v, fp, h, a, ha => by simp only [Own] at h; rw [h.1] at ha; cases ha
  | .bool _, v, fp, h, a, ha => by simp only [Own] at h; rw [h.1] at ha; cases ha
  | .int _, v, fp, h, a, ha => by simp only [Own] at h; rw [h.1] at ha; cases ha
  | .str _, v, fp, h, a, ha => by simp only [Own] at h; rw [h.1] at ha; cases ha
  | .dict kvs, v, fp, h, a, ha => by
    simp only [Own] at h
    obtain ⟨p, vs, fq, rfl, rfl, h1, h2, h3, h4⟩ := h
    rcases List.mem_cons.mp ha with rfl | ha
    · exact ⟨h2, by rw [h3]; intro z; cases z⟩
    · exact OwnK.at h4 a ha
  | .list xs, v, fp, h, a, ha => by
    simp only [Own] at h
    obtain ⟨p, vs, fq, rfl, rfl, h1, h2, h3, h4⟩ := h
    rcases List.mem_cons.mp ha with rfl | ha
    · exact ⟨h2, by rw [h3]; intro z; cases z⟩
    · exact OwnL.at h4 a ha
  | .tuple xs, v, fp, h, a, ha => by
    simp only [Own] at h
    obtain ⟨p, vs, fq, rfl, rfl, h1, h2, h3, h4⟩ := h
    rcases List.mem_cons.mp ha with rfl | ha
    · exact ⟨h2, by rw [h3]; intro z; cases z⟩
    · exact OwnL.at h4 a ha
theorem OwnL.at : ∀ {o : List D} {v : List V} {fp : List Addr}, OwnL K F H o v fp → ∀ a ∈ fp, F a = none ∧ H a ≠ none
  | [], v, fp, h, a, ha => by
    simp only [OwnL] at h
    obtain ⟨_, rfl⟩ := h
    cases ha
  | x :: r, v, fp, h, a, ha => by
    simp only [OwnL] at h
    obtain ⟨v, w, f, g, rfl, rfl, _, h1, h2⟩ := h
    rcases List.mem_append.mp ha with ha | ha
    · exact Own.at h1 a ha
    · exact OwnL.at h2 a ha
theorem OwnK.at : ∀ {o : List (D × D)} {v : List (Key × V)} {fp : List Addr}, OwnK K F H o v fp → ∀ a ∈ fp, F a = none ∧ H a ≠ none
  | [], v, fp, h, a, ha => by
    simp only [OwnK] at h
    obtain ⟨_, rfl⟩ := h
    cases ha
  | (k, x) :: r, v, fp, h, a, ha => by
    simp only [OwnK] at h
    obtain ⟨kk, v, w, f, g, rfl, _, rfl, _, h1, h2⟩ := h
    rcases List.mem_append.mp ha with ha | ha
    · exact Own.at h1 a ha
    · exact OwnK.at h2 a ha
end
mutual
/-- more is frozen, elsewhere; the heap may change elsewhere -/
theorem Own.keep : ∀ {o : D} {v : V} {fp : List Addr}, Own K F H o v fp → (∀ a ∈ fp, F' a = none ∧ H' a = H a) → Own K F' H' o v fp
  | .none, v, fp, h, k => by simp only [Own] at h ⊢; exact h
  | .bool _, v, fp, h, k => by simp only [Own] at h ⊢; exact h
  | .int _, v, fp, h, k => by simp only [Own] at h ⊢; exact h
  | .str _, v, fp, h, k => by simp only [Own] at h ⊢; exact h
  | .dict kvs, v, fp, h, k => by
    simp only [Own] at h ⊢
    obtain ⟨p, vs, fq, rfl, rfl, h1, h2, h3, h4⟩ := h
    have kp := k p List.mem_cons_self
    exact ⟨p, vs, fq, rfl, rfl, h1, kp.1, kp.2.trans h3, OwnK.keep h4 fun a ha => k a (List.mem_cons_of_mem _ ha)⟩
  | .list xs, v, fp, h, k => by
    simp only [Own] at h ⊢
    obtain ⟨p, vs, fq, rfl, rfl, h1, h2, h3, h4⟩ := h
    have kp := k p List.mem_cons_self
    exact ⟨p, vs, fq, rfl, rfl, h1, kp.1, kp.2.trans h3, OwnL.keep h4 fun a ha => k a (List.mem_cons_of_mem _ ha)⟩
  | .tuple xs, v, fp, h, k => by
    simp only [Own] at h ⊢
    obtain ⟨p, vs, fq, rfl, rfl, h1, h2, h3, h4⟩ := h
    have kp := k p List.mem_cons_self
    exact ⟨p, vs, fq, rfl, rfl, h1, kp.1, kp.2.trans h3, OwnL.keep h4 fun a ha => k a (List.mem_cons_of_mem _ ha)⟩
theorem OwnL.keep : ∀ {o : List D} {v : List V} {fp : List Addr}, OwnL K F H o v fp → (∀ a ∈ fp, F' a = none ∧ H' a = H a) → OwnL K F' H' o v fp
  | [], v, fp, h, k => by
    simp only [OwnL] at h ⊢
    exact h
  | x :: r, v, fp, h, k => by
    simp only [OwnL] at h ⊢
    obtain ⟨v, w, f, g, rfl, rfl, h0, h1, h2⟩ := h
    exact ⟨v, w, f, g, rfl, rfl, h0, Own.keep h1 fun a ha => k a (List.mem_append_left _ ha), OwnL.keep h2 fun a ha => k a (List.mem_append_right _ ha)⟩
theorem OwnK.keep : ∀ {o : List (D × D)} {v : List (Key × V)} {fp : List Addr}, OwnK K F H o v fp → (∀ a ∈ fp, F' a = none ∧ H' a = H a) → OwnK K F' H' o v fp
  | [], v, fp, h, k => by
    simp only [OwnK] at h ⊢
    exact h
  | (y, x) :: r, v, fp, h, k => by
    simp only [OwnK] at h ⊢
    obtain ⟨kk, v, w, f, g, rfl, hk, rfl, h0, h1, h2⟩ := h
    exact ⟨kk, v, w, f, g, rfl, hk, rfl, h0, Own.keep h1 fun a ha => k a (List.mem_append_left _ ha), OwnK.keep h2 fun a ha => k a (List.mem_append_right _ ha)⟩
end
mutual
/-- any heap that has the places of fp bears the tree -/
theorem Own.is {P : Hp} : ∀ {o : D} {v : V} {fp : List Addr}, Own K F H o v fp → (∀ a ∈ fp, P a = H a) → Is K P o v
  | .none, v, fp, h, k => by simp only [Own] at h; simp only [Is]; exact h.2
  | .bool _, v, fp, h, k => by simp only [Own] at h; simp only [Is]; exact h.2
  | .int _, v, fp, h, k => by simp only [Own] at h; simp only [Is]; exact h.2
  | .str _, v, fp, h, k => by simp only [Own] at h; simp only [Is]; exact h.2
  | .dict kvs, v, fp, h, k => by
    simp only [Own] at h
    obtain ⟨p, vs, fq, rfl, rfl, h1, h2, h3, h4⟩ := h
    simp only [Is]
    exact ⟨p, vs, rfl, (k p List.mem_cons_self).trans h3, OwnK.is h4 fun a ha => k a (List.mem_cons_of_mem _ ha)⟩
  | .list xs, v, fp, h, k => by
    simp only [Own] at h
    obtain ⟨p, vs, fq, rfl, rfl, h1, h2, h3, h4⟩ := h
    simp only [Is]
    exact ⟨p, vs, rfl, .of ((k p List.mem_cons_self).trans h3), OwnL.is h4 fun a ha => k a (List.mem_cons_of_mem _ ha)⟩
  | .tuple xs, v, fp, h, k => by
    simp only [Own] at h
    obtain ⟨p, vs, fq, rfl, rfl, h1, h2, h3, h4⟩ := h
    simp only [Is]
    exact ⟨p, vs, rfl, .inl (.inl ((k p List.mem_cons_self).trans h3)), OwnL.is h4 fun a ha => k a (List.mem_cons_of_mem _ ha)⟩
theorem OwnL.is {P : Hp} : ∀ {o : List D} {v : List V} {fp : List Addr}, OwnL K F H o v fp → (∀ a ∈ fp, P a = H a) → IsL K P o v
  | [], v, fp, h, k => by
    simp only [OwnL] at h
    rw [h.1]
    exact .nil
  | x :: r, v, fp, h, k => by
    simp only [OwnL] at h
    obtain ⟨v, w, f, g, rfl, rfl, h0, h1, h2⟩ := h
    exact .cons (Own.is h1 fun a ha => k a (List.mem_append_left _ ha)) (OwnL.is h2 fun a ha => k a (List.mem_append_right _ ha))
theorem OwnK.is {P : Hp} : ∀ {o : List (D × D)} {v : List (Key × V)} {fp : List Addr}, OwnK K F H o v fp → (∀ a ∈ fp, P a = H a) → IsK K P o v
  | [], v, fp, h, k => by
    simp only [OwnK] at h
    simp only [IsK]
    exact h.1
  | (y, x) :: r, v, fp, h, k => by
    simp only [OwnK] at h
    obtain ⟨kk, v, w, f, g, rfl, hk, rfl, h0, h1, h2⟩ := h
    simp only [IsK]
    exact ⟨kk, v, w, rfl, hk.1, Own.is h1 fun a ha => k a (List.mem_append_left _ ha), OwnK.is h2 fun a ha => k a (List.mem_append_right _ ha)⟩
end
/-- F and the places of fp as they stand -/
def frzAt (F H : Hp) (fp : List Addr) : Hp := fun a => if a ∈ fp then H a else F a
theorem frzAt_in {fp : List Addr} {a : Addr} (h : a ∈ fp) : frzAt F H fp a = H a := by unfold frzAt; rw [if_pos h]
theorem frzAt_out {fp : List Addr} {a : Addr} (h : a ∉ fp) : frzAt F H fp a = F a := by unfold frzAt; rw [if_neg h]
theorem frzAt_same {fp : List Addr} (s : Same F H) : Same F (frzAt F H fp) := fun a u e => by
  by_cases c : a ∈ fp
  · rw [frzAt_in c]; exact s _ _ e
  · rw [frzAt_out c]; exact e
theorem frzAt_sub {fp : List Addr} (s : Same F H) : Same (frzAt F H fp) H := fun a u e => by
  by_cases c : a ∈ fp
  · rw [frzAt_in c] at e; exact e
  · rw [frzAt_out c] at e; exact s _ _ e
theorem Own.isH {o : D} {v : V} {fp : List Addr} (h : Own K F H o v fp) : Is K H o v := h.is fun _ _ => rfl
theorem Own.frozen {o : D} {v : V} {fp : List Addr} {F2 : Hp} (h : Own K F H o v fp) : Is K (frzAt F2 H fp) o v := h.is fun a ha => frzAt_in ha
theorem Own.scal : ∀ {o : D} {v : V} {fp : List Addr}, Own K F H o v fp → PV.scal o = true → fp = []
  | .none, v, fp, h, k => by simp only [Own] at h; exact h.1
  | .bool _, v, fp, h, k => by simp only [Own] at h; exact h.1
  | .int _, v, fp, h, k => by simp only [Own] at h; exact h.1
  | .str _, v, fp, h, k => by simp only [Own] at h; exact h.1
  | .dict _, v, fp, h, k => by cases k
  | .list xs, v, fp, h, k => by cases k
  | .tuple xs, v, fp, h, k => by cases k
theorem own_scal {G : Hp} : ∀ {o : D} {v : V}, Is K G o v → PV.scal o = true → Own K F H o v []
  | .none, v, h, k => by simp only [Is] at h; simp only [Own]; exact ⟨trivial, h⟩
  | .bool _, v, h, k => by simp only [Is] at h; simp only [Own]; exact ⟨trivial, h⟩
  | .int _, v, h, k => by simp only [Is] at h; simp only [Own]; exact ⟨trivial, h⟩
  | .str _, v, h, k => by simp only [Is] at h; simp only [Own]; exact ⟨trivial, h⟩
  | .dict _, v, h, k => by cases k
  | .list xs, v, h, k => by cases k
  | .tuple xs, v, h, k => by cases k
theorem ownL_scal {G : Hp} : ∀ {o : List D} {v : List V}, IsL K G o v → o.all PV.scal = true → OwnL K F H o v []
  | [], v, h, k => by
    simp only [IsL] at h
    simp only [OwnL]
    exact ⟨h, trivial⟩
  | d :: r, v, h, k => by
    simp only [IsL] at h
    obtain ⟨w, t, rfl, h1, h2⟩ := h
    simp only [List.all_cons, Bool.and_eq_true] at k
    simp only [OwnL]
    exact ⟨w, t, [], [], rfl, rfl, (fun a h => by cases h), own_scal h1 k.1, ownL_scal h2 k.2⟩
theorem OwnL.scal : ∀ {o : List D} {v : List V} {fp : List Addr}, OwnL K F H o v fp → o.all PV.scal = true → fp = []
  | [], v, fp, h, k => by simp only [OwnL] at h; exact h.2
  | d :: r, v, fp, h, k => by
    simp only [OwnL] at h
    obtain ⟨w, t, f, g, rfl, rfl, _, h1, h2⟩ := h
    simp only [List.all_cons, Bool.and_eq_true] at k
    rw [h1.scal k.1, h2.scal k.2]
    rfl
theorem OwnL.one {d : D} {v : V} {f : List Addr} (h : Own K F H d v f) : OwnL K F H [d] [v] f := by
  simp only [OwnL]
  exact ⟨v, [], f, [], rfl, by simp, (fun a _ z => by cases z), h, rfl, rfl⟩
theorem OwnL.app {es : List D} {ws : List V} {g : List Addr} (t : OwnL K F H es ws g) : ∀ {ds : List D} {vs : List V} {f : List Addr}, OwnL K F H ds vs f → (∀ a ∈ f, a ∉ g) → OwnL K F H (ds ++ es) (vs ++ ws) (f ++ g)
  | [], _, _, h, _ => by
    simp only [OwnL] at h
    obtain ⟨rfl, rfl⟩ := h
    exact t
  | d :: ds, _, _, h, n => by
    simp only [OwnL] at h
    obtain ⟨v, w, f1, f2, rfl, rfl, h0, h1, h2⟩ := h
    show OwnL K F H (d :: (ds ++ es)) (v :: (w ++ ws)) _
    simp only [OwnL]
    refine ⟨v, w ++ ws, f1, f2 ++ g, rfl, List.append_assoc _ _ _, fun a ha z => ?_, h1, OwnL.app t h2 fun a ha => n a (List.mem_append_right _ ha)⟩
    rcases List.mem_append.mp z with z | z
    · exact h0 a ha z
    · exact n a (List.mem_append_left _ ha) z
/-- one item changes: its place is part of the footprint -/
theorem OwnL.sub : ∀ {ds : List D} {vs : List V} {fp : List Addr} {j : Nat} {d : D}, OwnL K F H ds vs fp → ds[j]? = some d → ∃ v f g1 g2, vs[j]? = some v ∧ fp = g1 ++ f ++ g2 ∧ (∀ a ∈ f, a ∉ g1 ∧ a ∉ g2) ∧ Own K F H d v f ∧
    ∀ (H' : Hp) (d' : D) (w : V) (f' : List Addr), Own K F H' d' w f' → (∀ a ∈ f', a ∉ g1 ∧ a ∉ g2) → (∀ a, a ∈ g1 ∨ a ∈ g2 → H' a = H a) → OwnL K F H' (ds.set j d') (vs.set j w) (g1 ++ f' ++ g2)
  | [], _, _, _, _, _, e => by simp at e
  | x :: r, _, _, 0, d, h, e => by
    simp only [OwnL] at h
    obtain ⟨v, w, f, g, rfl, rfl, h0, h1, h2⟩ := h
    simp at e
    subst e
    refine ⟨v, f, [], g, rfl, rfl, fun a ha => ⟨(by intro z; cases z), h0 a ha⟩, h1, fun H' d' w2 f' o n k => ?_⟩
    show OwnL K F H' (d' :: r) (w2 :: w) _
    simp only [OwnL]
    exact ⟨w2, w, f', g, rfl, rfl, fun a ha => (n a ha).2, o, h2.keep fun a ha => ⟨(h2.at a ha).1, k a (.inr ha)⟩⟩
  | x :: r, _, _, j + 1, d, h, e => by
    simp only [OwnL] at h
    obtain ⟨v, w, f, g, rfl, rfl, h0, h1, h2⟩ := h
    obtain ⟨u, f2, g1, g2, e1, rfl, e3, e4, e5⟩ := OwnL.sub (j := j) h2 (by simpa using e)
    refine ⟨u, f2, f ++ g1, g2, by simpa using e1, by simp, fun a ha => ⟨fun z => ?_, (e3 a ha).2⟩, e4, fun H' d' w2 f' o n k => ?_⟩
    · rcases List.mem_append.mp z with z | z
      · exact h0 a z (List.mem_append_left _ (List.mem_append_right _ ha))
      · exact (e3 a ha).1 z
    · have t := e5 H' d' w2 f' o (fun a ha => ⟨fun z => (n a ha).1 (List.mem_append_right _ z), (n a ha).2⟩) fun a ha => k a (ha.imp (List.mem_append_right _) id)
      show OwnL K F H' (x :: r.set j d') (v :: w.set j w2) _
      simp only [OwnL]
      refine ⟨v, _, f, g1 ++ f' ++ g2, rfl, by simp, fun a ha z => ?_, h1.keep fun a ha => ⟨(h1.at a ha).1, k a (.inl (List.mem_append_left _ ha))⟩, t⟩
      rcases List.mem_append.mp z with z | z
      · rcases List.mem_append.mp z with z | z
        · exact h0 a ha (List.mem_append_left _ (List.mem_append_left _ z))
        · exact (n a z).1 (List.mem_append_left _ ha)
      · exact h0 a ha (List.mem_append_right _ z)
/-- a tree with items: its items, and the tree anew -/
theorem Own.items {d : D} {v : V} {fp : List Addr} {ds : List D} (h : Own K F H d v fp) (e : PV.items d = some ds) : ∃ p vs fq, v = .ref p ∧ fp = p :: fq ∧ p ∉ fq ∧ F p = none ∧ (H p = some (.lst vs) ∨ H p = some (.tup vs)) ∧ OwnL K F H ds vs fq ∧
    ∀ (H' : Hp) (j : Nat) (x : D) (fq' : List Addr), H' p = H p → p ∉ fq' → OwnL K F H' (ds.set j x) vs fq' → Own K F H' (putAt d j x) v (p :: fq') := by
  cases d with
  | list xs =>
    simp only [PV.items, Option.some.injEq] at e
    subst e
    simp only [Own] at h
    obtain ⟨p, vs, fq, rfl, rfl, h1, h2, h3, h4⟩ := h
    refine ⟨p, vs, fq, rfl, rfl, h1, h2, .inl h3, h4, fun H' j x fq' k n t => ?_⟩
    simp only [putAt, Own]
    exact ⟨p, vs, fq', rfl, rfl, n, h2, k.trans h3, t⟩
  | tuple xs =>
    simp only [PV.items, Option.some.injEq] at e
    subst e
    simp only [Own] at h
    obtain ⟨p, vs, fq, rfl, rfl, h1, h2, h3, h4⟩ := h
    refine ⟨p, vs, fq, rfl, rfl, h1, h2, .inr h3, h4, fun H' j x fq' k n t => ?_⟩
    simp only [putAt, Own]
    exact ⟨p, vs, fq', rfl, rfl, n, h2, k.trans h3, t⟩
  | _ => simp [PV.items] at e
end
def Root (K : PySem.W.Frag) (F H : Hp) (p : Addr) : D → Prop
  | .list ds => F p = none ∧ ∃ vs, H p = some (.lst vs) ∧ IsL K F ds vs
  | .dict kvs => F p = none ∧ ∃ es, H p = some (.dK es) ∧ IsK K F kvs es
  | _ => False
def Res (K : PySem.W.Frag) (H F' H' : Hp) (v : V) : TD → Prop
  | (.sh, d) => Is K F' d v
  | (.pk, d) => Is K H' d v
  | (.rt, d) => ∃ p, v = .ref p ∧ Root K F' H' p d
  | (.ow, d) => ∃ p, v = .ref p ∧ H p = none ∧ Root K F' H' p d
  | (.tr, d) => ∃ fp, (∀ a ∈ fp, H a = none) ∧ Own K F' H' d v fp
section
variable {K : PySem.W.Frag} {F H F' H' F2 H2 : Hp} {v : V} {p : Addr} {d : D} {x : TD}
theorem Root.fno (h : Root K F H p d) : F p = none := by
  cases d with
  | list _ => exact h.1
  | dict _ => exact h.1
  | _ => exact h.elim
theorem Root.hso (h : Root K F H p d) : H p ≠ none := by
  cases d with
  | list _ => obtain ⟨_, vs, e, _⟩ := h; rw [e]; intro z; cases z
  | dict _ => obtain ⟨_, vs, e, _⟩ := h; rw [e]; intro z; cases z
  | _ => exact h.elim
theorem Root.is (h : Root K F H p d) (s : Same F H) : Is K H d (.ref p) := by
  cases d with
  | list _ =>
    obtain ⟨_, vs, e, q⟩ := h
    simp only [Is]
    exact ⟨p, vs, rfl, .of e, q.mono s⟩
  | dict _ =>
    obtain ⟨_, vs, e, q⟩ := h
    simp only [Is]
    exact ⟨p, vs, rfl, e, q.mono s⟩
  | _ => exact h.elim
theorem Root.mono (h : Root K F H p d) (e : Ext F H F' H') : Root K F' H' p d := by
  have g := e.gone h.fno h.hso
  cases d with
  | list _ =>
    obtain ⟨_, vs, z, q⟩ := h
    exact ⟨g, vs, e.h _ _ z, q.mono e.f⟩
  | dict _ =>
    obtain ⟨_, vs, z, q⟩ := h
    exact ⟨g, vs, e.h _ _ z, q.mono e.f⟩
  | _ => exact h.elim
/-- a root frozen -/
theorem Root.freeze (h : Root K F H p d) (s : Same F H) : ∃ o, H p = some o ∧ Same F (upd F p o) ∧ Same (upd F p o) H ∧ Is K (upd F p o) d (.ref p) := by
  cases d with
  | list _ =>
    obtain ⟨n, vs, e, q⟩ := h
    refine ⟨_, e, same_upd n, same_updF s e, ?_⟩
    simp only [Is]
    exact ⟨p, vs, rfl, .of upd_same, q.mono (same_upd n)⟩
  | dict _ =>
    obtain ⟨n, vs, e, q⟩ := h
    refine ⟨_, e, same_upd n, same_updF s e, ?_⟩
    simp only [Is]
    exact ⟨p, vs, rfl, upd_same, q.mono (same_upd n)⟩
  | _ => exact h.elim
theorem Res.is (h : Res K H F' H' v x) (s : Same F' H') : Is K H' x.2 v := by
  obtain ⟨t, d⟩ := x
  cases t with
  | sh => exact Is.mono s h
  | pk => exact h
  | rt => obtain ⟨p, rfl, q⟩ := h; exact q.is s
  | ow => obtain ⟨p, rfl, _, q⟩ := h; exact q.is s
  | tr => obtain ⟨fp, _, q⟩ := h; exact q.isH
theorem Res.mono (h : Res K H F' H' v x) (e : Ext F' H' F2 H2) : Res K H F2 H2 v x := by
  obtain ⟨t, d⟩ := x
  cases t with
  | sh => exact Is.mono e.f h
  | pk => exact Is.mono e.h h
  | rt => obtain ⟨p, rfl, q⟩ := h; exact ⟨p, rfl, q.mono e⟩
  | ow => obtain ⟨p, rfl, n, q⟩ := h; exact ⟨p, rfl, n, q.mono e⟩
  | tr =>
    obtain ⟨fp, n, q⟩ := h
    exact ⟨fp, n, q.keep fun a ha => ⟨e.gone (q.at a ha).1 (q.at a ha).2, by
      cases z : H' a with
      | none => exact absurd z (q.at a ha).2
      | some o => exact e.h _ _ z⟩⟩
theorem Res.back {H0 : Hp} (s : Same H0 H) (h : Res K H F' H' v x) : Res K H0 F' H' v x := by
  obtain ⟨t, d⟩ := x
  cases t with
  | ow => obtain ⟨p, rfl, n, q⟩ := h; exact ⟨p, rfl, s.free n, q⟩
  | tr => obtain ⟨fp, n, q⟩ := h; exact ⟨fp, fun a ha => s.free (n a ha), q⟩
  | _ => exact h
theorem Res.nt (h : Res K H F' H' v x) (s : Same F' H') : Res K H F' H' v (nt x.1 x.2, x.2) := by
  unfold PV.nt
  by_cases c : scal x.2 = true
  · rw [if_pos c]
    exact (h.is s).scal c
  · rw [if_neg c]
    exact h
/-- where the items of a list or tuple stand -/
def hp (t : Tag) (F H : Hp) : Hp := match t with | .sh => F | _ => H
theorem Res.list {t : Tag} {ds : List D} (h : Res K H F' H' v (t, .list ds)) (s : Same F' H') : ∃ a vs, v = .ref a ∧ LL K H' a vs ∧ IsL K (hp t.kid F' H') ds vs := by
  cases t with
  | sh =>
    obtain ⟨a, vs, rfl, q, u⟩ := (by simpa only [Res, Is] using h : ∃ a vs, v = .ref a ∧ LL K F' a vs ∧ IsL K F' ds vs)
    exact ⟨a, vs, rfl, q.mono s, u⟩
  | pk =>
    obtain ⟨a, vs, rfl, q, u⟩ := (by simpa only [Res, Is] using h : ∃ a vs, v = .ref a ∧ LL K H' a vs ∧ IsL K H' ds vs)
    exact ⟨a, vs, rfl, q, u⟩
  | rt => obtain ⟨p, rfl, _, vs, e, q⟩ := h; exact ⟨p, vs, rfl, .of e, q⟩
  | ow => obtain ⟨p, rfl, _, _, vs, e, q⟩ := h; exact ⟨p, vs, rfl, .of e, q⟩
  | tr =>
    obtain ⟨fp, _, q⟩ := h
    simp only [Own] at q
    obtain ⟨p, vs, fq, rfl, rfl, h1, h2, h3, h4⟩ := q
    exact ⟨p, vs, rfl, .of h3, h4.is fun _ _ => rfl⟩
theorem Res.tuple {t : Tag} {ds : List D} (h : Res K H F' H' v (t, .tuple ds)) (s : Same F' H') : ∃ a vs, v = .ref a ∧ SqT K H' a vs ∧ IsL K (hp t.kid F' H') ds vs := by
  cases t with
  | sh =>
    obtain ⟨a, vs, rfl, q, u⟩ := (by simpa only [Res, Is] using h : ∃ a vs, v = .ref a ∧ SqT K F' a vs ∧ IsL K F' ds vs)
    exact ⟨a, vs, rfl, sqT_mono s q, u⟩
  | pk =>
    obtain ⟨a, vs, rfl, q, u⟩ := (by simpa only [Res, Is] using h : ∃ a vs, v = .ref a ∧ SqT K H' a vs ∧ IsL K H' ds vs)
    exact ⟨a, vs, rfl, q, u⟩
  | rt => obtain ⟨p, rfl, z⟩ := h; exact z.elim
  | ow => obtain ⟨p, rfl, _, z⟩ := h; exact z.elim
  | tr =>
    obtain ⟨fp, _, q⟩ := h
    simp only [Own] at q
    obtain ⟨p, vs, fq, rfl, rfl, h1, h2, h3, h4⟩ := q
    exact ⟨p, vs, rfl, .inl (.inl h3), h4.is fun _ _ => rfl⟩
theorem hp_same {t : Tag} (s : Same F' H') : Same (hp t F' H') H' := by
  cases t <;> first | exact s | exact Same.refl _
theorem Res.of_hp {t : Tag} (h : Is K (hp t.kid F' H') d v) : Res K H F' H' v (t.kid, d) := by
  cases t <;> exact h
/-- an argument, an item: a new root is frozen -/
theorem Res.dm (e : Ext F H F' H') (h : Res K H F' H' v x) : ∃ F2, Ext F H F2 H' ∧ Same F' F2 ∧ (∀ p, F2 p ≠ none → F' p ≠ none ∨ H p = none) ∧ Res K H F2 H' v (x.1.dm, x.2) := by
  obtain ⟨t, d⟩ := x
  cases t with
  | sh => exact ⟨F', e, Same.refl _, fun _ z => .inl z, h⟩
  | pk => exact ⟨F', e, Same.refl _, fun _ z => .inl z, h⟩
  | rt => obtain ⟨p, rfl, q⟩ := h; exact ⟨F', e, Same.refl _, fun _ z => .inl z, q.is e.s⟩
  | ow =>
    obtain ⟨p, rfl, n, q⟩ := h
    obtain ⟨o, e1, e2, e3, e4⟩ := q.freeze e.s
    refine ⟨upd F' p o, ⟨e.f.trans e2, e.h, e3, fun b z => ?_⟩, e2, fun b z => ?_, e4⟩
    · by_cases c : b = p
      · subst c
        exact .inr n
      · rw [upd_ne c] at z
        exact e.n b z
    · by_cases c : b = p
      · subst c
        exact .inr n
      · rw [upd_ne c] at z
        exact .inl z
  | tr =>
    obtain ⟨fp, n, q⟩ := h
    have ne : ∀ b, frzAt F' H' fp b ≠ none → F' b ≠ none ∨ H b = none := fun b z => by
      by_cases c : b ∈ fp
      · exact .inr (n b c)
      · rw [frzAt_out c] at z
        exact .inl z
    exact ⟨frzAt F' H' fp, ⟨e.f.trans (frzAt_same e.s), e.h, frzAt_sub e.s, fun b z => by
      rcases ne b z with y | y
      · exact e.n b y
      · exact .inr y⟩, frzAt_same e.s, ne, q.frozen⟩
end

/-! ### the slots, each with the places of what it owns -/
def Bears (K : PySem.W.Frag) (F H : Hp) (x : Option (Option V)) : Slot → List Addr → Prop
  | .no, fp => fp = []
  | .sh d, fp => fp = [] ∧ ∃ v, x = some (some v) ∧ Is K F d v
  | .ow d, fp => ∃ p, fp = [p] ∧ x = some (some (.ref p)) ∧ Root K F H p d
  | .od d, fp => ∃ v, x = some (some v) ∧ Own K F H d v fp
/-- A: a heap that what is owned is not part of -/
structure RelA (K : PySem.W.Frag) (A F H : Hp) (σ : L2.St) (env : Env) : Prop where
  sub : Same F H
  len : env.length = σ.length
  slot : ∃ fps : Nat → List Addr, (∀ (i : Nat) (s : Slot), env[i]? = some s → Bears K F H (σ[i]?) s (fps i)) ∧ (∀ i j, i ≠ j → i < env.length → j < env.length → ∀ a ∈ fps i, a ∉ fps j) ∧ ∀ i, i < env.length → ∀ a ∈ fps i, A a = none
abbrev Rel (K : PySem.W.Frag) (F H : Hp) (σ : L2.St) (env : Env) : Prop := RelA K (fun _ => none) F H σ env
section
variable {K : PySem.W.Frag} {A F H F' H' : Hp} {σ : L2.St} {env : Env}
theorem RelA.rel (r : RelA K A F H σ env) : Rel K F H σ env := by
  obtain ⟨fps, h1, h2, h3⟩ := r.slot
  exact ⟨r.sub, r.len, fps, h1, h2, fun _ _ _ _ => rfl⟩
theorem Root.upto {p : Addr} {d : D} (h : Root K F H p d) (s : Same F F') (k : F' p = none ∧ H' p = H p) : Root K F' H' p d := by
  cases d with
  | list _ => obtain ⟨_, vs, e, q⟩ := h; exact ⟨k.1, vs, k.2.trans e, q.mono s⟩
  | dict _ => obtain ⟨_, vs, e, q⟩ := h; exact ⟨k.1, vs, k.2.trans e, q.mono s⟩
  | _ => exact h.elim
theorem Bears.keep (s : Same F F') {x : Option (Option V)} {t : Slot} {fp : List Addr} (h : Bears K F H x t fp) (k : ∀ a ∈ fp, F' a = none ∧ H' a = H a) : Bears K F' H' x t fp := by
  cases t with
  | no => exact h
  | sh d => obtain ⟨h1, v, h2, h3⟩ := h; exact ⟨h1, v, h2, h3.mono s⟩
  | ow d => obtain ⟨p, rfl, h1, h2⟩ := h; exact ⟨p, rfl, h1, h2.upto s (k p List.mem_cons_self)⟩
  | od o => obtain ⟨v, h1, h2⟩ := h; exact ⟨v, h1, h2.keep k⟩
theorem Bears.at {x : Option (Option V)} {t : Slot} {fp : List Addr} (h : Bears K F H x t fp) : ∀ a ∈ fp, F a = none ∧ H a ≠ none := by
  cases t with
  | no =>
    have h : fp = [] := h
    subst h
    intro a ha
    cases ha
  | sh d =>
    obtain ⟨rfl, _⟩ := h
    intro a ha
    cases ha
  | ow d =>
    obtain ⟨p, rfl, _, q⟩ := h
    intro a ha
    rcases List.mem_cons.mp ha with rfl | ha
    · exact ⟨q.fno, q.hso⟩
    · cases ha
  | od d => obtain ⟨v, _, q⟩ := h; exact q.at
/-- slot i changes, slot j is forgotten (j may be i): the frozen part grows and the heap changes only off the other slots' places -/
theorem RelA.changeA {A' : Hp} (hA : ∀ a, A a = none → A' a = none) (r : RelA K A F H σ env) {i : Nat} (hi : i < env.length) (j : Nat) {x : Option V} {t : Slot} (sub : Same F' H') (s : Same F F')
    (go : ∀ fps : Nat → List Addr, (∀ (k : Nat) (s : Slot), env[k]? = some s → Bears K F H (σ[k]?) s (fps k)) → (∀ k l, k ≠ l → k < env.length → l < env.length → ∀ a ∈ fps k, a ∉ fps l) → (∀ k, k < env.length → ∀ a ∈ fps k, A a = none ∧ F a = none ∧ H a ≠ none) →
      ∃ fp, Bears K F' H' (some x) t fp ∧ (∀ a ∈ fp, A' a = none) ∧ ∀ k, k ≠ i → k ≠ j → k < env.length → ∀ a ∈ fps k, a ∉ fp ∧ F' a = none ∧ H' a = H a) : RelA K A' F' H' (σ.set i x) ((env.set j .no).set i t) := by
  obtain ⟨fps, h1, h2, h3⟩ := r.slot
  obtain ⟨fp, b, ka, k0⟩ := go fps h1 h2 fun k hk a ha => ⟨h3 k hk a ha, (h1 k _ (List.getElem?_eq_getElem hk)).at a ha⟩
  have hs : i < σ.length := by rw [← r.len]; exact hi
  refine ⟨sub, by rw [List.length_set, List.length_set, List.length_set]; exact r.len, fun k => if k = i then fp else if k = j then [] else fps k, fun k u hk => ?_, fun k l n lk ll a ha => ?_, fun k lk a ha => ?_⟩
  · show Bears K F' H' _ u (if k = i then fp else if k = j then [] else fps k)
    by_cases c : k = i
    · subst c
      rw [List.getElem?_set_self (by rw [List.length_set]; exact hi)] at hk
      cases hk
      rw [List.getElem?_set_self hs, if_pos rfl]
      exact b
    · rw [List.getElem?_set_ne (Ne.symm c)] at hk ⊢
      rw [if_neg c]
      by_cases c2 : k = j
      · subst c2
        rw [if_pos rfl]
        have hl : k < env.length := by
          have := (List.getElem?_eq_some_iff.mp hk).1
          rwa [List.length_set] at this
        rw [List.getElem?_set_self hl] at hk
        cases hk
        rfl
      · rw [List.getElem?_set_ne (Ne.symm c2)] at hk
        rw [if_neg c2]
        have hl : k < env.length := (List.getElem?_eq_some_iff.mp hk).1
        exact (h1 k u hk).keep s fun a ha => (k0 k c c2 hl a ha).2
  · rw [List.length_set, List.length_set] at lk ll
    have ha : a ∈ (if k = i then fp else if k = j then [] else fps k) := ha
    show a ∉ (if l = i then fp else if l = j then [] else fps l)
    by_cases c : k = i
    · rw [if_pos c] at ha
      have c2 : l ≠ i := fun z => n (c.trans z.symm)
      rw [if_neg c2]
      by_cases c3 : l = j
      · rw [if_pos c3]
        exact fun z => by cases z
      · rw [if_neg c3]
        exact fun z => (k0 l c2 c3 ll a z).1 ha
    · rw [if_neg c] at ha
      by_cases c4 : k = j
      · rw [if_pos c4] at ha
        cases ha
      · rw [if_neg c4] at ha
        by_cases c2 : l = i
        · rw [if_pos c2]
          exact (k0 k c c4 lk a ha).1
        · rw [if_neg c2]
          by_cases c3 : l = j
          · rw [if_pos c3]
            exact fun z => by cases z
          · rw [if_neg c3]
            exact h2 k l n lk ll a ha
  · rw [List.length_set, List.length_set] at lk
    have ha : a ∈ (if k = i then fp else if k = j then [] else fps k) := ha
    by_cases c : k = i
    · rw [if_pos c] at ha
      exact ka a ha
    · rw [if_neg c] at ha
      by_cases c4 : k = j
      · rw [if_pos c4] at ha
        cases ha
      · rw [if_neg c4] at ha
        exact hA a (h3 k lk a ha)
theorem RelA.change (r : RelA K A F H σ env) {i : Nat} (hi : i < env.length) (j : Nat) {x : Option V} {t : Slot} (sub : Same F' H') (s : Same F F')
    (go : ∀ fps : Nat → List Addr, (∀ (k : Nat) (s : Slot), env[k]? = some s → Bears K F H (σ[k]?) s (fps k)) → (∀ k l, k ≠ l → k < env.length → l < env.length → ∀ a ∈ fps k, a ∉ fps l) → (∀ k, k < env.length → ∀ a ∈ fps k, A a = none ∧ F a = none ∧ H a ≠ none) →
      ∃ fp, Bears K F' H' (some x) t fp ∧ (∀ a ∈ fp, A a = none) ∧ ∀ k, k ≠ i → k ≠ j → k < env.length → ∀ a ∈ fps k, a ∉ fp ∧ F' a = none ∧ H' a = H a) : RelA K A F' H' (σ.set i x) ((env.set j .no).set i t) := r.changeA (fun _ h => h) hi j sub s go
theorem RelA.change1 (r : RelA K A F H σ env) {i : Nat} (hi : i < env.length) {x : Option V} {t : Slot} (sub : Same F' H') (s : Same F F')
    (go : ∀ fps : Nat → List Addr, (∀ (k : Nat) (s : Slot), env[k]? = some s → Bears K F H (σ[k]?) s (fps k)) → (∀ k l, k ≠ l → k < env.length → l < env.length → ∀ a ∈ fps k, a ∉ fps l) → (∀ k, k < env.length → ∀ a ∈ fps k, A a = none ∧ F a = none ∧ H a ≠ none) →
      ∃ fp, Bears K F' H' (some x) t fp ∧ (∀ a ∈ fp, A a = none) ∧ ∀ k, k ≠ i → k < env.length → ∀ a ∈ fps k, a ∉ fp ∧ F' a = none ∧ H' a = H a) : RelA K A F' H' (σ.set i x) (env.set i t) := by
  have := r.change (i := i) hi i (x := x) (t := t) sub s (fun fps h1 h2 h3 => by
    obtain ⟨fp, b, ka, k0⟩ := go fps h1 h2 h3
    exact ⟨fp, b, ka, fun k n _ => k0 k n⟩)
  rwa [List.set_set] at this
mutual
theorem own_fp : ∀ {d : D} {v : V} {f g : List Addr}, Own K F H d v f → Own K F H d v g → f = g
  | .none, _, _, _, h, k => by simp only [Own] at h k; rw [h.1, k.1]
  | .bool _, _, _, _, h, k => by simp only [Own] at h k; rw [h.1, k.1]
  | .int _, _, _, _, h, k => by simp only [Own] at h k; rw [h.1, k.1]
  | .str _, _, _, _, h, k => by simp only [Own] at h k; rw [h.1, k.1]
  | .dict xs, _, _, _, h, k => by
    simp only [Own] at h k
    obtain ⟨p, vs, fq, rfl, rfl, h1, h2, h3, h4⟩ := h
    obtain ⟨p', vs', fq', e, rfl, k1, k2, k3, k4⟩ := k
    cases e
    rw [h3] at k3
    cases k3
    rw [ownK_fp h4 k4]
  | .list xs, _, _, _, h, k => by
    simp only [Own] at h k
    obtain ⟨p, vs, fq, rfl, rfl, h1, h2, h3, h4⟩ := h
    obtain ⟨p', vs', fq', e, rfl, k1, k2, k3, k4⟩ := k
    cases e
    rw [h3] at k3
    cases k3
    rw [ownL_fp h4 k4]
  | .tuple xs, _, _, _, h, k => by
    simp only [Own] at h k
    obtain ⟨p, vs, fq, rfl, rfl, h1, h2, h3, h4⟩ := h
    obtain ⟨p', vs', fq', e, rfl, k1, k2, k3, k4⟩ := k
    cases e
    rw [h3] at k3
    cases k3
    rw [ownL_fp h4 k4]
theorem ownL_fp : ∀ {d : List D} {v : List V} {f g : List Addr}, OwnL K F H d v f → OwnL K F H d v g → f = g
  | [], _, _, _, h, k => by simp only [OwnL] at h k; rw [h.2, k.2]
  | x :: r, _, _, _, h, k => by
    simp only [OwnL] at h k
    obtain ⟨v, w, f, g, rfl, rfl, h0, h1, h2⟩ := h
    obtain ⟨v', w', f', g', e, rfl, k0, k1, k2⟩ := k
    cases e
    rw [own_fp h1 k1, ownL_fp h2 k2]
theorem ownK_fp : ∀ {d : List (D × D)} {v : List (Key × V)} {f g : List Addr}, OwnK K F H d v f → OwnK K F H d v g → f = g
  | [], _, _, _, h, k => by simp only [OwnK] at h k; rw [h.2, k.2]
  | (y, x) :: r, _, _, _, h, k => by
    simp only [OwnK] at h k
    obtain ⟨kk, v, w, f, g, rfl, hk, rfl, h0, h1, h2⟩ := h
    obtain ⟨kk', v', w', f', g', e, hk', rfl, k0, k1, k2⟩ := k
    cases e
    rw [own_fp h1 k1, ownK_fp h2 k2]
end
theorem bears_fp {x : Option (Option V)} {t : Slot} {f g : List Addr} (h : Bears K F H x t f) (k : Bears K F H x t g) : f = g := by
  cases t with
  | no => exact (show f = [] from h).trans (show g = [] from k).symm
  | sh d => exact h.1.trans k.1.symm
  | ow d =>
    obtain ⟨p, rfl, h1, _⟩ := h
    obtain ⟨q, rfl, k1, _⟩ := k
    rw [h1] at k1
    cases k1
    rfl
  | od d =>
    obtain ⟨v, h1, h2⟩ := h
    obtain ⟨w, k1, k2⟩ := k
    rw [h1] at k1
    cases k1
    exact own_fp h2 k2
theorem set_get_same {l : L2.St} {i : Nat} {x : Option V} (h : l[i]? = some x) : l.set i x = l := by
  apply List.ext_getElem?
  intro j
  by_cases c : i = j
  · subst c
    rw [List.getElem?_set_self (List.getElem?_eq_some_iff.mp h).1, h]
  · rw [List.getElem?_set_ne c]
theorem lt_of_get {s : Slot} {i : Nat} (h : env[i]? = some s) : i < env.length := (List.getElem?_eq_some_iff.mp h).1
theorem RelA.ext (r : RelA K A F H σ env) (e : Ext F H F' H') : RelA K A F' H' σ env := by
  obtain ⟨fps, h1, h2, h3⟩ := r.slot
  refine ⟨e.s, r.len, fps, fun i s h => (h1 i s h).keep e.f fun a ha => ?_, h2, h3⟩
  have q := (h1 i s h).at a ha
  exact ⟨e.gone q.1 q.2, e.stay q.2⟩
theorem RelA.shs (r : RelA K A F H σ env) {i : Nat} {d : D} (h : env[i]? = some (.sh d)) : ∃ v, σ[i]? = some (some v) ∧ Is K F d v := by
  obtain ⟨fps, h1, h2, h3⟩ := r.slot
  exact (h1 i _ h).2
/-- an own slot's place is in the heap -/
theorem RelA.own (r : RelA K A F H σ env) {i : Nat} {d : D} (h : env[i]? = some (.ow d)) : ∃ p, σ[i]? = some (some (.ref p)) ∧ Root K F H p d := by
  obtain ⟨fps, h1, h2, h3⟩ := r.slot
  obtain ⟨p, _, h4, h5⟩ := h1 i _ h
  exact ⟨p, h4, h5⟩
theorem RelA.ownA (r : RelA K A F H σ env) {i : Nat} {d : D} {p : Addr} (h : env[i]? = some (.ow d)) (hp : σ[i]? = some (some (.ref p))) : A p = none := by
  obtain ⟨fps, h1, h2, h3⟩ := r.slot
  obtain ⟨q, e, h4, h5⟩ := h1 i _ h
  rw [hp] at h4
  cases h4
  exact h3 i (lt_of_get h) p (by rw [e]; exact List.mem_cons_self)
theorem RelA.ods (r : RelA K A F H σ env) {i : Nat} {d : D} (h : env[i]? = some (.od d)) : ∃ v fp, σ[i]? = some (some v) ∧ Own K F H d v fp ∧ ∀ a ∈ fp, A a = none := by
  obtain ⟨fps, h1, h2, h3⟩ := r.slot
  obtain ⟨v, h4, h5⟩ := h1 i _ h
  exact ⟨v, _, h4, h5, h3 i (lt_of_get h)⟩
/-- places of other slots stay where something new is made -/
theorem RelA.new (r : RelA K A F H σ env) (e : Ext F H F' H') {i : Nat} {x : Option V} {t : Slot} {fp : List Addr} (b : Bears K F' H' (some x) t fp) (n : ∀ a ∈ fp, H a = none ∧ A a = none) : RelA K A F' H' (σ.set i x) (env.set i t) := by
  by_cases hi : i < env.length
  case neg =>
    rw [List.set_eq_of_length_le (by rw [← r.len]; omega), List.set_eq_of_length_le (by omega)]
    exact r.ext e
  exact r.change1 hi e.s e.f fun fps h1 h2 h3 => ⟨fp, b, fun a ha => (n a ha).2, fun k _ hk a ha => ⟨fun z => (h3 k hk a ha).2.2 (n a z).1, e.gone (h3 k hk a ha).2.1 (h3 k hk a ha).2.2, e.stay (h3 k hk a ha).2.2⟩⟩
theorem RelA.set (r : RelA K A F H σ env) {i : Nat} {v : V} {d : D} (h : Is K F d v) : RelA K A F H (σ.set i (some v)) (env.set i (.sh d)) :=
  r.new (Ext.refl r.sub) (fp := []) ⟨rfl, v, rfl, h⟩ fun a z => by cases z
/-- a slot forgotten, whatever stands in it -/
theorem RelA.any (r : RelA K A F H σ env) {i : Nat} {v : Option V} : RelA K A F H (σ.set i v) (env.set i .no) :=
  r.new (Ext.refl r.sub) (t := .no) (fp := []) rfl fun a z => by cases z
/-- a new root is stored -/
theorem RelA.setO (r : RelA K A F H σ env) (e : Ext F H F' H') {i : Nat} {p : Addr} {d : D} (h : Root K F' H' p d) (n : H p = none) (na : A p = none) : RelA K A F' H' (σ.set i (some (.ref p))) (env.set i (.ow d)) :=
  r.new e (fp := [p]) ⟨p, rfl, rfl, h⟩ fun a z => by
    rcases List.mem_cons.mp z with rfl | z
    · exact ⟨n, na⟩
    · cases z
theorem RelA.setT (r : RelA K A F H σ env) (e : Ext F H F' H') {i : Nat} {v : V} {d : D} {fp : List Addr} (h : Own K F' H' d v fp) (n : ∀ a ∈ fp, H a = none) (na : ∀ a ∈ fp, A a = none) : RelA K A F' H' (σ.set i (some v)) (env.set i (.od d)) :=
  r.new e (fp := fp) ⟨v, rfl, h⟩ fun a z => ⟨n a z, na a z⟩
/-- the own list in slot i is written -/
theorem RelA.write (r : RelA K A F H σ env) {i : Nat} {p : Addr} {d d' : D} {o : HO} (h : env[i]? = some (.ow d)) (hp : σ[i]? = some (some (.ref p))) (n : Root K F (upd H p o) p d') :
    RelA K A F (upd H p o) σ (env.set i (.ow d')) := by
  have sub : Same F (upd H p o) := fun b u e => by
    have c : b ≠ p := fun z => by
      subst z
      rw [n.fno] at e
      cases e
    rw [upd_ne c]
    exact r.sub _ _ e
  have := r.change1 (lt_of_get h) (x := some (.ref p)) (t := .ow d') sub (Same.refl F) fun fps h1 h2 h3 => by
    obtain ⟨q, e, h4, h5⟩ := h1 i _ h
    rw [hp] at h4
    cases h4
    have hm : p ∈ fps i := by rw [e]; exact List.mem_cons_self
    refine ⟨[p], ⟨p, rfl, rfl, n⟩, fun a ha => ?_, fun k nk hk a ha => ?_⟩
    · rcases List.mem_cons.mp ha with rfl | ha
      · exact (h3 i (lt_of_get h) _ hm).1
      · cases ha
    · have c : a ≠ p := fun z => h2 k i nk hk (lt_of_get h) a ha (by rw [z]; exact hm)
      refine ⟨fun z => ?_, (h3 k hk a ha).2.1, upd_ne c⟩
      rcases List.mem_cons.mp z with z | z
      · exact c z
      · cases z
  rwa [set_get_same hp] at this
theorem RelA.tree1 (r : RelA K A F H σ env) {i : Nat} {d d' : D} {v : V} (h : env[i]? = some (.od d)) (hv : σ[i]? = some (some v)) (s : Same F H')
    (go : ∀ fi : List Addr, Own K F H d v fi → ∃ fp, Own K F H' d' v fp ∧ (∀ a ∈ fp, a ∈ fi ∨ (H a = none ∧ A a = none)) ∧ ∀ a, a ∉ fi → H a ≠ none → H' a = H a) :
    RelA K A F H' σ (env.set i (.od d')) := by
  have hi := lt_of_get h
  have := r.change1 hi (x := some v) (t := .od d') s (Same.refl F) fun fps h1 h2 h3 => by
    obtain ⟨w, h4, h5⟩ := h1 i _ h
    rw [hv] at h4
    cases h4
    obtain ⟨fp, o, m, k0⟩ := go (fps i) h5
    refine ⟨fp, ⟨v, rfl, o⟩, fun a ha => ?_, fun k n1 hk a ha => ?_⟩
    · rcases m a ha with z | z
      · exact (h3 i hi a z).1
      · exact z.2
    · have c1 := h2 k i n1 hk hi a ha
      refine ⟨fun z => ?_, (h3 k hk a ha).2.1, k0 a c1 (h3 k hk a ha).2.2⟩
      rcases m a z with z | z
      · exact c1 z
      · exact (h3 k hk a ha).2.2 z.1
  rwa [set_get_same hv] at this
theorem RelA.treeE (r : RelA K A F H σ env) {F1 H1 : Hp} (e : Ext F H F1 H1) {i : Nat} {d d' : D} {v : V} (h : env[i]? = some (.od d)) (hv : σ[i]? = some (some v)) (s : Same F1 H')
    (go : ∀ fi : List Addr, Own K F H d v fi → ∃ fp, Own K F1 H' d' v fp ∧ (∀ a ∈ fp, a ∈ fi ∨ (H a = none ∧ A a = none)) ∧ ∀ a, a ∉ fi → H a ≠ none → H' a = H a) :
    RelA K A F1 H' σ (env.set i (.od d')) := by
  have hi := lt_of_get h
  have := r.change1 hi (x := some v) (t := .od d') s e.f fun fps h1 h2 h3 => by
    obtain ⟨w, h4, h5⟩ := h1 i _ h
    rw [hv] at h4
    cases h4
    obtain ⟨fp, o, m, k0⟩ := go (fps i) h5
    refine ⟨fp, ⟨v, rfl, o⟩, fun a ha => ?_, fun k n1 hk a ha => ?_⟩
    · rcases m a ha with z | z
      · exact (h3 i hi a z).1
      · exact z.2
    · have c1 := h2 k i n1 hk hi a ha
      refine ⟨fun z => ?_, e.gone (h3 k hk a ha).2.1 (h3 k hk a ha).2.2, k0 a c1 (h3 k hk a ha).2.2⟩
      rcases m a z with z | z
      · exact c1 z
      · exact (h3 k hk a ha).2.2 z.1
  rwa [set_get_same hv] at this
/-- the same where slot j is given up -/
theorem RelA.treeJ (r : RelA K A F H σ env) {F1 H1 : Hp} (e : Ext F H F1 H1) {i j : Nat} {d d' : D} {v : V} (h : env[i]? = some (.od d)) (hv : σ[i]? = some (some v)) (s : Same F1 H')
    (go : ∀ fi fj : List Addr, Own K F H d v fi → (∀ s, env[j]? = some s → Bears K F H σ[j]? s fj) → (i ≠ j → ∀ a ∈ fi, a ∉ fj) → ∃ fp, Own K F1 H' d' v fp ∧ (∀ a ∈ fp, (a ∈ fi ∨ a ∈ fj) ∨ (H a = none ∧ A a = none)) ∧ ∀ a, a ∉ fi → a ∉ fj → H a ≠ none → H' a = H a) :
    RelA K A F1 H' σ ((env.set j .no).set i (.od d')) := by
  have hi := lt_of_get h
  have := r.change hi j (x := some v) (t := .od d') s e.f fun fps h1 h2 h3 => by
    obtain ⟨w, h4, h5⟩ := h1 i _ h
    rw [hv] at h4
    cases h4
    by_cases hj : j < env.length
    · obtain ⟨fp, o, m, k0⟩ := go (fps i) (fps j) h5 (fun s hs => h1 j s hs) fun n => h2 i j n hi hj
      refine ⟨fp, ⟨v, rfl, o⟩, fun a ha => ?_, fun k n1 n2 hk a ha => ?_⟩
      · rcases m a ha with (z | z) | z
        · exact (h3 i hi a z).1
        · exact (h3 j hj a z).1
        · exact z.2
      · have c1 := h2 k i n1 hk hi a ha
        have c2 := h2 k j n2 hk hj a ha
        refine ⟨fun z => ?_, e.gone (h3 k hk a ha).2.1 (h3 k hk a ha).2.2, k0 a c1 c2 (h3 k hk a ha).2.2⟩
        rcases m a z with (z | z) | z
        · exact c1 z
        · exact c2 z
        · exact (h3 k hk a ha).2.2 z.1
    · obtain ⟨fp, o, m, k0⟩ := go (fps i) [] h5 (fun s hs => absurd (lt_of_get hs) hj) fun n a _ z => by cases z
      refine ⟨fp, ⟨v, rfl, o⟩, fun a ha => ?_, fun k n1 n2 hk a ha => ?_⟩
      · rcases m a ha with (z | z) | z
        · exact (h3 i hi a z).1
        · cases z
        · exact z.2
      · have c1 := h2 k i n1 hk hi a ha
        refine ⟨fun z => ?_, e.gone (h3 k hk a ha).2.1 (h3 k hk a ha).2.2, k0 a c1 (fun z => by cases z) (h3 k hk a ha).2.2⟩
        rcases m a z with (z | z) | z
        · exact c1 z
        · cases z
        · exact (h3 k hk a ha).2.2 z.1
  rwa [set_get_same hv] at this
/-- a tree goes over from slot j to slot i -/
theorem RelA.mov (r : RelA K A F H σ env) {i j : Nat} {d : D} {v : V} (h : env[j]? = some (.od d)) (hv : σ[j]? = some (some v)) (n : i ≠ j) : RelA K A F H (σ.set i (some v)) ((env.set j .no).set i (.od d)) := by
  have hj := lt_of_get h
  by_cases hi : i < env.length
  case neg =>
    rw [List.set_eq_of_length_le (by rw [← r.len]; omega), List.set_eq_of_length_le (by rw [List.length_set]; omega)]
    have := r.any (i := j) (v := some v)
    rwa [set_get_same hv] at this
  exact r.change hi j r.sub (Same.refl F) fun fps h1 h2 h3 => by
    obtain ⟨w, h4, h5⟩ := h1 j _ h
    rw [hv] at h4
    cases h4
    exact ⟨fps j, ⟨v, rfl, h5⟩, fun a ha => (h3 j hj a ha).1, fun k n1 n2 hk a ha => ⟨h2 k j n2 hk hj a ha, (h3 k hk a ha).2.1, rfl⟩⟩

/-- slots forgotten -/
theorem wipeE_get {env : Env} {i : Nat} : ∀ {vs : List Nat} {s : Slot}, (wipeE env vs)[i]? = some s → s = .no ∨ (i ∉ vs ∧ env[i]? = some s)
  | [], s, h => .inr ⟨by simp, h⟩
  | v :: vs, s, h => by
    unfold wipeE at h
    by_cases c : v = i
    · subst c
      have hl : v < (wipeE env vs).length := by
        have := (List.getElem?_eq_some_iff.mp h).1
        rwa [List.length_set] at this
      rw [List.getElem?_set_self hl] at h
      cases h
      exact .inl rfl
    · rw [List.getElem?_set_ne c] at h
      rcases wipeE_get h with q | ⟨q1, q2⟩
      · exact .inl q
      · exact .inr ⟨by simp only [List.mem_cons, not_or]; exact ⟨fun z => c z.symm, q1⟩, q2⟩
theorem wipeE_len {env : Env} : ∀ {vs : List Nat}, (wipeE env vs).length = env.length
  | [] => rfl
  | v :: vs => by
    unfold wipeE
    rw [List.length_set, wipeE_len]
theorem wipe_at {σ : L2.St} {i : Nat} : ∀ {vs : List Nat}, i ∉ vs → (wipe σ vs)[i]? = σ[i]?
  | [], _ => rfl
  | v :: vs, h => by
    unfold wipe
    simp only [List.mem_cons, not_or] at h
    rw [List.getElem?_set_ne (fun z => h.1 z.symm)]
    exact wipe_at h.2
theorem wipeE_at {env : Env} {i : Nat} : ∀ {vs : List Nat}, i ∉ vs → (wipeE env vs)[i]? = env[i]?
  | [], _ => rfl
  | v :: vs, h => by
    unfold wipeE
    simp only [List.mem_cons, not_or] at h
    rw [List.getElem?_set_ne (fun z => h.1 z.symm)]
    exact wipeE_at h.2
theorem RelA.wipe (r : RelA K A F H σ env) (vs : List Nat) : RelA K A F H (L2.wipe σ vs) (wipeE env vs) := by
  obtain ⟨fps, h1, h2, h3⟩ := r.slot
  refine ⟨r.sub, by rw [wipeE_len, wipe_length]; exact r.len, fun i => if i ∈ vs then [] else fps i, fun i s h => ?_, fun i j n hi hj a ha => ?_, fun i hi a ha => ?_⟩
  · show Bears K F H _ s (if i ∈ vs then [] else fps i)
    by_cases c : i ∈ vs
    · rw [if_pos c]
      rcases wipeE_get h with q | ⟨q1, q2⟩
      · subst q
        rfl
      · exact absurd c q1
    · rw [if_neg c, wipe_at c]
      rcases wipeE_get h with q | ⟨q1, q2⟩
      · subst q
        have : (wipeE env vs)[i]? = env[i]? := wipeE_at c
        rw [this] at h
        exact h1 i _ h
      · exact h1 i s q2
  · rw [wipeE_len] at hi hj
    have ha : a ∈ (if i ∈ vs then [] else fps i) := ha
    show a ∉ (if j ∈ vs then [] else fps j)
    by_cases c : i ∈ vs
    · rw [if_pos c] at ha
      cases ha
    · rw [if_neg c] at ha
      by_cases c2 : j ∈ vs
      · rw [if_pos c2]
        exact fun z => by cases z
      · rw [if_neg c2]
        exact h2 i j n hi hj a ha
  · rw [wipeE_len] at hi
    have ha : a ∈ (if i ∈ vs then [] else fps i) := ha
    by_cases c : i ∈ vs
    · rw [if_pos c] at ha
      cases ha
    · rw [if_neg c] at ha
      exact h3 i hi a ha
/-- an own slot frozen -/
theorem RelA.freeze (r : RelA K A F H σ env) {i : Nat} {d : D} (h : env[i]? = some (.ow d) ∨ env[i]? = some (.od d)) : ∃ fp, (∀ a ∈ fp, F a = none ∧ A a = none) ∧ RelA K A (frzAt F H fp) H σ (env.set i (.sh d)) := by
  obtain ⟨fps, h1, h2, h3⟩ := r.slot
  have hi : i < env.length := h.elim lt_of_get lt_of_get
  have fz : ∃ v, σ[i]? = some (some v) ∧ Is K (frzAt F H (fps i)) d v ∧ ∀ a ∈ fps i, F a = none := by
    rcases h with h | h
    · obtain ⟨p, e, h4, h5⟩ := h1 i _ h
      rw [e]
      obtain ⟨o, e1, e2, e3, e4⟩ := h5.freeze r.sub
      have : upd F p o = frzAt F H [p] := funext fun a => by
        by_cases c : a = p
        · subst c
          rw [upd_same, frzAt_in List.mem_cons_self, e1]
        · rw [upd_ne c, frzAt_out (fun z => by
            rcases List.mem_cons.mp z with z | z
            · exact c z
            · cases z)]
      rw [this] at e4
      refine ⟨_, h4, e4, fun a ha => ?_⟩
      rcases List.mem_cons.mp ha with rfl | ha
      · exact h5.fno
      · cases ha
    · obtain ⟨v, h4, h5⟩ := h1 i _ h
      exact ⟨v, h4, h5.frozen, fun a ha => (h5.at a ha).1⟩
  obtain ⟨v, hv, iv, fn⟩ := fz
  refine ⟨fps i, fun a ha => ⟨fn a ha, h3 i hi a ha⟩, ?_⟩
  have := r.change1 hi (x := some v) (t := .sh d) (F' := frzAt F H (fps i)) (H' := H) (frzAt_sub r.sub) (frzAt_same r.sub) fun gps g1 g2 g3 => ?_
  · rwa [set_get_same hv] at this
  · refine ⟨[], ⟨rfl, v, rfl, iv⟩, (fun a z => by cases z), fun k nk hk a ha => ⟨(fun z => by cases z), ?_, rfl⟩⟩
    have bi : Bears K F H (σ[i]?) (.no) [] := rfl
    have same : gps i = fps i := by
      rcases h with h | h
      · exact bears_fp (g1 i _ h) (h1 i _ h)
      · exact bears_fp (g1 i _ h) (h1 i _ h)
    rw [frzAt_out (by rw [← same]; exact g2 k i nk hk hi a ha)]
    exact (g3 k hk a ha).2.1
end

/-! ### a def's promise -/
/-- the arguments bear the data ds; the answer is what g says of them -/
def spD (K : PySem.W.Frag) (cref : Str → Value) (k : Nat) (g : List D → R TD) : Sp := fun vs H Q E => vs.length = k ∧ ∃ F ds, Same F H ∧ IsL K F ds vs ∧ match g ds with
  | .ok (o, d) => ∀ v F' H', Ext F H F' H' → Res K H F' H' v (o, d) → Q v H'
  | .exc c => ∀ F' H', Ext F H F' H' → E (cref c) none H'
  | .stuck => False
end PV

/-! PvOps: each operation of the language by the layer's rule. -/
namespace PV
open PySem PySem.Spec PyProof.Rows L2

/-! ### behind a reckoning -/
def Aft {α : Type} (F H : Hp) (W : Str → Hp → Prop) (r : R α) (P : α → Hp → Hp → Prop) : Prop := match r with
  | .ok a => ∀ F' H', Ext F H F' H' → P a F' H'
  | .exc c => ∀ F' H', Ext F H F' H' → W c H'
  | .stuck => False
theorem Aft.bind {α β : Type} {F H : Hp} {W : Str → Hp → Prop} {r : R α} {f : α → R β} {P : β → Hp → Hp → Prop} (h : Aft F H W (r.bind f) P) :
    Aft F H W r fun a F1 H1 => Aft F1 H1 W (f a) P := by
  cases r with
  | ok a =>
    intro F1 H1 e
    have h' : Aft F H W (f a) P := h
    cases q : f a with
    | ok b =>
      rw [q] at h'
      exact fun F2 H2 e2 => h' F2 H2 (e.trans e2)
    | exc c =>
      rw [q] at h'
      exact fun F2 H2 e2 => h' F2 H2 (e.trans e2)
    | stuck =>
      rw [q] at h'
      exact h'
  | exc c => exact h
  | stuck => exact h
theorem Aft.imp {α : Type} {F H : Hp} {W : Str → Hp → Prop} {r : R α} {P P' : α → Hp → Hp → Prop} (h : Aft F H W r P) (k : ∀ a F' H', r = .ok a → Ext F H F' H' → P a F' H' → P' a F' H') : Aft F H W r P' := by
  cases r with
  | ok a => exact fun F' H' e => k a F' H' rfl e (h F' H' e)
  | exc c => exact h
  | stuck => exact h
theorem Aft.at {α : Type} {F H F1 H1 : Hp} {W : Str → Hp → Prop} {r : R α} {P : α → Hp → Hp → Prop} (h : Aft F H W r P) (e : Ext F H F1 H1) : Aft F1 H1 W r P := by
  cases r with
  | ok a => exact fun F' H' z => h F' H' (e.trans z)
  | exc c => exact fun F' H' z => h F' H' (e.trans z)
  | stuck => exact h

/-! ### what an operation asks and gives, over any heap that bears its operands -/
abbrev H0 : Hp := fun _ => none
theorem same0 {H : Hp} : Same H0 H := fun _ _ h => by cases h
/-- the wish: whatever bears the answer -/
def Give (K : PySem.W.Frag) (F H : Hp) (r : R TD) (Q : VK) : Prop := match r with
  | .ok x => ∀ v F' H', Ext F H F' H' → Res K H F' H' v x → Q v H'
  | _ => False
def rBin (K : PySem.W.Frag) (o : Bop) : R2 := fun x y H Q => ∃ F a b, Same F H ∧ Res K H0 F H x a ∧ Res K H0 F H y b ∧ Give K F H (evBin o a b) Q
def rCmp (K : PySem.W.Frag) (o : Cop) : R2 := fun x y H Q => ∃ d e b, Is K H d x ∧ Is K H e y ∧ evCmp o d e = .ok b ∧ Q (.bl b) H
def rIxD (K : PySem.W.Frag) : R2 := fun x y H Q => ∃ F a d, Same F H ∧ Res K H0 F H x a ∧ Is K H d y ∧ Give K F H (evIx a d) Q
def rNeg (K : PySem.W.Frag) : V → Hp → VK → Prop := fun x H Q => ∃ F d, Same F H ∧ Is K H d x ∧ Give K F H (evNeg d) Q
def rSlD (K : PySem.W.Frag) : V → Option Int → Option Int → Hp → VK → Prop := fun x lo hi H Q => ∃ F a, Same F H ∧ Res K H0 F H x a ∧ Give K F H (evSl a lo hi) Q
theorem Give.of {K : PySem.W.Frag} {F H : Hp} {Q : VK} {d : D} {v : V} (s : Same F H) (h : Give K F H (ok1 d) Q) (i : Is K F d v) : Q v H := h v F H (Ext.refl s) i
theorem Give.guard {K : PySem.W.Frag} {F H : Hp} {Q : VK} {b : Bool} {r : R TD} (h : Give K F H (guard b r) Q) : b = true ∧ Give K F H r Q := by
  unfold PV.guard at h
  cases b with
  | true => exact ⟨rfl, h⟩
  | false => exact h.elim
section
variable {X : Cx} {K : PySem.W.Frag}
theorem OpR.imp {f : Value → Value → Sem Value} {r r' : R2} (h : OpR X f r) (k : ∀ x y H Q, r' x y H Q → r x y H Q) : OpR X f r' :=
  fun pins s σ H x y v u Q I rx ry q => h pins s σ H x y v u Q I rx ry (k x y H Q q)
theorem UnR.imp {f : Value → Sem Value} {r r' : V → Hp → VK → Prop} (h : UnR X f r) (k : ∀ x H Q, r' x H Q → r x H Q) : UnR X f r' :=
  fun pins s σ H x v Q I rx q => h pins s σ H x v Q I rx (k x H Q q)
theorem IxR.imp {r r' : R2} (h : IxR X r) (k : ∀ x y H Q, r' x y H Q → r x y H Q) : IxR X r' :=
  fun value slice pins s σ H x y v u Q I rx ry q hs => h value slice pins s σ H x y v u Q I rx ry (k x y H Q q) hs
theorem SlR.imp {r r' : V → Option Int → Option Int → Hp → VK → Prop} (h : SlR X r) (k : ∀ x l u H Q, r' x l u H Q → r x l u H Q) : SlR X r' :=
  fun pins s σ H x v vl vu lo hi sl Q I rx hs pl pu q => h pins s σ H x v vl vu lo hi sl Q I rx hs pl pu (k x lo hi H Q q)
theorem CallR.imp {f : Value} {r r' : List V → Hp → VK → Prop} (h : CallR X f r) (k : ∀ xs H Q, r' xs H Q → r xs H Q) : CallR X f r' :=
  fun pins s σ H xs us Q I rx q => h pins s σ H xs us Q I rx (k xs H Q q)
theorem OpR.none {f : Value → Value → Sem Value} {r : R2} (h : ∀ x y H Q, ¬ r x y H Q) : OpR X f r := fun pins s σ H x y v u Q I rx ry q => absurd q (h x y H Q)
theorem lim_le : lim ≤ sizeLine := by
  rw [sizeLine_eq]
  decide
theorem is_int {H : Hp} {i : Int} {v : V} (h : Is K H (.int i) v) : v = .int i := by simpa only [Is] using h
theorem is_bool {H : Hp} {i : Bool} {v : V} (h : Is K H (.bool i) v) : v = .bl i := by simpa only [Is] using h
theorem is_str {H : Hp} {i : Str} {v : V} (h : Is K H (.str i) v) : v = .str i := by simpa only [Is] using h
theorem is_none {H : Hp} {v : V} (h : Is K H .none v) : v = .non := by simpa only [Is] using h
theorem int_is {H : Hp} {i : Int} : Is K H (.int i) (.int i) := by simp only [Is]
theorem bool_is {H : Hp} {i : Bool} : Is K H (.bool i) (.bl i) := by simp only [Is]
theorem str_is {H : Hp} {i : Str} : Is K H (.str i) (.str i) := by simp only [Is]
theorem Res.int {H1 F H : Hp} {t : Tag} {i : Int} {v : V} (h : Res K H1 F H v (t, .int i)) (s : Same F H) : v = .int i := is_int (h.is s)
theorem Res.str {H1 F H : Hp} {t : Tag} {i : Str} {v : V} (h : Res K H1 F H v (t, .str i)) (s : Same F H) : v = .str i := is_str (h.is s)

/-! ### list + list, list * int: over anything that bears a list -/
def rCatL (K : PySem.W.Frag) : R2 := fun x y H Q => ∃ l b xs zs, x = .ref l ∧ y = .ref b ∧ LL K H l xs ∧ LL K H b zs ∧ xs.length + zs.length ≤ sizeLine ∧ ∀ p, H p = none → Q (.ref p) (upd H p (.lst (xs ++ zs)))
theorem LL.obj {pins : List (Addr × Obj)} {σ : L2.St} {H : Hp} {s : Shared} {l : Addr} {xs : List V} (I : Inv X pins σ H s) (h : LL X.K H l xs) :
    ∃ (its : List Value) (n : Nat), Vals xs its ∧ s.heap.get? l = some { cls := .type "list", data := .seq its.toArray n } := by
  rcases h with h | ⟨its, n, h1, h2, h3⟩
  · obtain ⟨z, its, n, r, e⟩ := h.ok I.hok
    exact ⟨its, n, r, e⟩
  · exact ⟨its, n, h2, I.kIn l _ h1⟩
theorem op_catL : OpR X (binaryOp .Add) (rCatL X.K) := by
  intro pins s σ H x y v u Q I rx ry h
  obtain ⟨l, b, xs, zs, rfl, rfl, hH, hB, hz, q⟩ := h
  cases rx
  cases ry
  obtain ⟨its, n, r, e⟩ := hH.obj I
  obtain ⟨its2, n2, r2, e2⟩ := hB.obj I
  have l1 := r.length
  have l2 := r2.length
  refine PySem.P.add_list e e2 ?_ (by rw [List.size_toArray, List.size_toArray]; omega)
  rw [show its.toArray ++ its2.toArray = (its ++ its2).toArray by simp]
  exact ⟨.ref _, _, I.lnew (t' := s.toks) (r.append r2) (by rw [List.length_append]; omega), rfl, q _ I.fresh⟩
theorem hp_le {t u : Tag} {F H : Hp} (s : Same F H) : Same (hp t F H) (hp (t.jn u) F H) := by
  cases t <;> cases u <;> first | exact Same.refl _ | exact s
theorem hp_le2 {t u : Tag} {F H : Hp} (s : Same F H) : Same (hp u F H) (hp (t.jn u) F H) := by
  cases t <;> cases u <;> first | exact Same.refl _ | exact s
theorem kid_kid (t : Tag) : t.kid.kid = t.kid := by cases t <;> rfl
/-- a new list of such items -/
theorem new_list {F H : Hp} {t : Tag} {ds : List D} {vs : List V} {Q : VK} (ht : t = .sh ∨ t = .pk) (s : Same F H) (h : IsL K (hp t F H) ds vs) (g : Give K F H (.ok (t.root, .list ds)) Q) :
    ∀ p, H p = none → Q (.ref p) (upd H p (.lst vs)) := fun p np => by
  refine g (.ref p) F _ (Ext.new0 s np) ?_
  rcases ht with rfl | rfl
  · exact ⟨p, rfl, np, s.free np, vs, upd_same, h⟩
  · show Is K (upd H p (.lst vs)) (.list ds) (.ref p)
    simp only [Is]
    exact ⟨p, vs, rfl, .of upd_same, h.mono (same_upd np)⟩
theorem kid_cases (t : Tag) : t.kid = .sh ∨ t.kid = .pk := by cases t <;> first | exact .inl rfl | exact .inr rfl
theorem jn_cases (t u : Tag) : t.jn u = .sh ∨ t.jn u = .pk := by cases t <;> cases u <;> first | exact .inl rfl | exact .inr rfl
theorem res_root {H1 F H : Hp} {t : Tag} {ds : List D} {v : V} (h : Res K H1 F H v (t, .list ds)) (c : isRt t = true) : ∃ p vs, v = .ref p ∧ H p = some (.lst vs) ∧ IsL K F ds vs := by
  cases t with
  | rt => obtain ⟨p, rfl, _, vs, e, q⟩ := h; exact ⟨p, vs, rfl, e, q⟩
  | ow => obtain ⟨p, rfl, _, _, vs, e, q⟩ := h; exact ⟨p, vs, rfl, e, q⟩
  | _ => cases c
theorem of_kid {H1 F H : Hp} {t : Tag} {d : D} {v : V} (h : Is K (hp t.kid F H) d v) : Res K H1 F H v (t.kid, d) := by
  cases t <;> exact h
theorem bits_le {i : Int} (h : i.natAbs < 2 ^ 4000) : Builtin.Int.intBits i ≤ 4000 := by
  unfold Builtin.Int.intBits
  split
  · exact Nat.zero_le _
  · rename_i c
    have h0 : i.natAbs ≠ 0 := fun z => c (by simpa using z)
    have := (Nat.log2_lt h0).mpr h
    omega
theorem mulOk_fits {i j : Int} (h : mulOk i j = true) : IntMulOk i j := by
  simp only [mulOk, Bool.or_eq_true, Bool.and_eq_true, decide_eq_true_eq] at h
  rcases h with (⟨h1, h2⟩ | h) | h
  · unfold IntMulOk
    intro z
    simp only [Bool.and_eq_true] at z
    have h3 := z.2
    unfold Builtin.Int.intTooBig at h3
    have h4 := of_decide_eq_true h3
    have a := bits_le h1
    have b := bits_le h2
    have c : (bitsLine : Int) = 134217728 := by decide +kernel
    rw [c] at h4
    omega
  · exact CMul.ok (.inl h)
  · exact CMul.ok (.inr h)
theorem op_isSB : OpR X (compareOp .Is) (fun x y H Q => ((∃ i, x = .int i) ∨ ∃ z, x = .str z) ∧ ∃ b, y = .bl b ∧ Q (.bl false) H) := by
  intro pins s σ H x y v u Q I rx ry h
  obtain ⟨hx, b, rfl, q⟩ := h
  cases (show u = Value.bool b from ry)
  rcases hx with ⟨i, rfl⟩ | ⟨z, rfl⟩
  · obtain ⟨t, rfl⟩ := rx
    exact wpAny_is_other rfl (fun z => by cases z) ⟨.bl false, H, I, rfl, q⟩
  · obtain ⟨t, rfl⟩ := rx
    exact wpAny_is_other rfl (fun z => by cases z) ⟨.bl false, H, I, rfl, q⟩
theorem op_repS : OpR X (binaryOp .Mult) (fun x y H Q => ∃ (z : Str) (k : Int), x = .str z ∧ y = .int k ∧ 0 ≤ k ∧ k ≤ (lim : Int) ∧ z.length * k.toNat ≤ lim ∧ Q (.str (Txt.mul z k)) H) := by
  intro pins s σ H x y v u Q I rx ry h
  obtain ⟨z, k, rfl, rfl, h0, hk, hz, q⟩ := h
  obtain ⟨t, rfl⟩ := rx
  obtain ⟨t', rfl⟩ := ry
  have h62 : (lim : Int) < 2 ^ 62 := by decide
  refine SB.mul ⟨?_, fun h1 _ => ?_, fun _ _ => ?_⟩ fun t' tk => ⟨.str (Txt.mul z k), H, I.tok _, ⟨_, rfl⟩, q⟩
  · rw [Bool.or_eq_false_iff]
    exact ⟨decide_eq_false (by omega), decide_eq_false (by omega)⟩
  · have hk2 : k.toNat = k := by omega
    have h2 : (z.length : Int) * k ≤ (lim : Int) := by
      rw [← hk2]
      exact_mod_cast hz
    have h3 : (z.length : Int) ≤ (2 ^ 63 - 1) / k := by
      refine (Int.le_ediv_iff_mul_le (by omega)).mpr ?_
      omega
    omega
  · show decide (z.length * k.toNat > sizeLine) = false
    exact decide_eq_false (by have := lim_le; omega)
theorem op_mulB : OpR X (binaryOp .Mult) (rI IntMulOk fun i j => .int (i * j)) := opI fun _ _ _ _ _ _ _ hc q => mul_int q hc
theorem cat_tups {H0 F H : Hp} {s t : Tag} {xs ys : List D} {x y : V} {Q : VK} (sm : Same F H) (ra : Res K H0 F H x (s, .tuple xs)) (rb : Res K H0 F H y (t, .tuple ys)) (hs : tgT s = true) (ht : tgT t = true) (hl : xs.length + ys.length ≤ lim)
    (g : Give K F H (.ok (s.jn t, .tuple (xs ++ ys))) Q) : rCatA K x y H Q := by
  have res : ∀ {u : Tag} {d : D} {v : V}, tgT u = true → Res K H0 F H v (u, d) → Is K (hp u F H) d v := fun {u d v} hu r => by
    cases u <;> first | exact r | cases hu
  have ia := (res hs ra).mono (hp_le (u := t) sm)
  have ib := (res ht rb).mono (hp_le2 (t := s) sm)
  have hu : s.jn t = .sh ∨ s.jn t = .pk := jn_cases s t
  generalize s.jn t = u at ia ib hu g
  have sHu : Same (hp u F H) H := by rcases hu with rfl | rfl <;> first | exact sm | exact Same.refl _
  simp only [Is] at ia ib
  obtain ⟨a, vs, rfl, h1, h2⟩ := ia
  obtain ⟨b, ws, rfl, h3, h4⟩ := ib
  have keep : ∀ (v : V), Is K (hp u F H) (.tuple (xs ++ ys)) v → Q v H := fun v iv => g v F H (Ext.refl sm) (by rcases hu with rfl | rfl <;> exact iv)
  refine ⟨a, b, vs, ws, rfl, rfl, sqT_mono sHu h1, sqT_mono sHu h3, by rw [h2.len, h4.len]; exact Nat.le_trans hl lim_le, fun e => ?_, fun _ e => ?_, fun _ _ p np => ?_⟩
  · subst e
    have : xs = [] := List.length_eq_zero_iff.mp h2.len.symm
    subst this
    refine keep _ ?_
    simp only [Is]
    exact ⟨b, ws, rfl, h3, h4⟩
  · subst e
    have : ys = [] := List.length_eq_zero_iff.mp h4.len.symm
    subst this
    refine keep _ ?_
    rw [List.append_nil]
    simp only [Is]
    exact ⟨a, vs, rfl, h1, h2⟩
  · rcases hu with rfl | rfl
    · refine g (.ref p) (upd F p (.tup (vs ++ ws))) _ (Ext.new sm np) ?_
      show Is K (upd F p (.tup (vs ++ ws))) (.tuple (xs ++ ys)) (.ref p)
      simp only [Is]
      exact ⟨p, _, rfl, SqT.of upd_same, (h2.app h4).mono (same_upd (sm.free np))⟩
    · refine g (.ref p) F _ (Ext.new0 sm np) ?_
      show Is K (upd H p (.tup (vs ++ ws))) (.tuple (xs ++ ys)) (.ref p)
      simp only [Is]
      exact ⟨p, _, rfl, SqT.of upd_same, (h2.app h4).mono (same_upd np)⟩
theorem op_bin (o : Bop) : OpR X (binaryOp (bopE o)) (rBin X.K o) := by
  cases o with
  | add =>
    refine OpR.imp (OpR.or op_add (OpR.or op_catL (OpR.or op_catA op_add_str))) fun x y H Q h => ?_
    obtain ⟨F, ⟨s, a⟩, ⟨t, b⟩, sm, ra, rb, g⟩ := h
    cases a with
    | int i =>
      cases b with
      | int j => exact .inl ⟨i, j, ra.int sm, rb.int sm, g.of sm int_is⟩
      | _ => exact g.elim
    | str i =>
      cases b with
      | str j =>
        obtain ⟨g1, g2⟩ := g.guard
        exact .inr (.inr (.inr ⟨i, j, ra.str sm, rb.str sm, Nat.le_trans (of_decide_eq_true g1) lim_le, g2.of sm str_is⟩))
      | _ => exact g.elim
    | list xs =>
      cases b with
      | list ys =>
        obtain ⟨g1, g2⟩ := g.guard
        obtain ⟨l, vs, rfl, h1, h2⟩ := ra.list sm
        obtain ⟨m, ws, rfl, h3, h4⟩ := rb.list sm
        refine .inr (.inl ⟨l, m, vs, ws, rfl, rfl, h1, h3, ?_, new_list (jn_cases _ _) sm ((h2.mono (hp_le sm)).app (h4.mono (hp_le2 sm))) g2⟩)
        rw [h2.len, h4.len]
        exact Nat.le_trans (of_decide_eq_true g1) lim_le
      | _ => exact g.elim
    | tuple xs =>
      cases b with
      | tuple ys =>
        obtain ⟨g1, g2⟩ := g.guard
        simp only [Bool.and_eq_true, decide_eq_true_eq] at g1
        exact .inr (.inr (.inl (cat_tups sm ra rb g1.1.1 g1.1.2 g1.2 g2)))
      | _ => exact g.elim
    | _ => exact g.elim
  | sub =>
    refine OpR.imp op_sub fun x y H Q h => ?_
    obtain ⟨F, ⟨s, a⟩, ⟨t, b⟩, sm, ra, rb, g⟩ := h
    cases a with
    | int i =>
      cases b with
      | int j => exact ⟨i, j, ra.int sm, rb.int sm, g.of sm int_is⟩
      | _ => exact g.elim
    | _ => exact g.elim
  | mul =>
    refine OpR.imp (OpR.or op_repS (OpR.or op_mulB op_rep)) fun x y H Q h => ?_
    obtain ⟨F, ⟨s, a⟩, ⟨t, b⟩, sm, ra, rb, g⟩ := h
    cases a with
    | str z =>
      cases b with
      | int k =>
        obtain ⟨g1, g2⟩ := g.guard
        simp only [Bool.and_eq_true, decide_eq_true_eq] at g1
        exact .inl ⟨z, k, ra.str sm, rb.int sm, g1.1.1, g1.1.2, g1.2, g2.of sm str_is⟩
      | _ => exact g.elim
    | list xs =>
      cases b with
      | int k =>
        obtain ⟨g1, g2⟩ := g.guard
        simp only [Bool.and_eq_true, decide_eq_true_eq] at g1
        obtain ⟨⟨⟨q0, q1⟩, q2⟩, q3⟩ := g1
        obtain ⟨p, vs, rfl, hv, hL⟩ := res_root ra q0
        have h62 : (lim : Int) < 2 ^ 63 := by decide
        exact .inr (.inr ⟨p, k, vs, rfl, rb.int sm, hv, by omega, by omega, by rw [hL.len]; exact Nat.le_trans q3 lim_le, new_list (t := .sh) (.inl rfl) sm (hL.rep k.toNat) g2⟩)
      | _ => exact g.elim
    | int i =>
      cases b with
      | int j =>
        obtain ⟨g1, g2⟩ := g.guard
        exact .inr (.inl ⟨i, j, ra.int sm, rb.int sm, mulOk_fits g1, g2.of sm int_is⟩)
      | _ => exact g.elim
    | _ => exact g.elim
  | fdv =>
    refine OpR.imp op_fdiv fun x y H Q h => ?_
    obtain ⟨F, ⟨s, a⟩, ⟨t, b⟩, sm, ra, rb, g⟩ := h
    cases a with
    | int i =>
      cases b with
      | int j =>
        obtain ⟨g1, g2⟩ := g.guard
        simp only [Bool.and_eq_true, decide_eq_true_eq] at g1
        exact ⟨i, j, ra.int sm, rb.int sm, g1, g2.of sm int_is⟩
      | _ => exact g.elim
    | _ => exact g.elim
  | mod =>
    refine OpR.imp op_mod fun x y H Q h => ?_
    obtain ⟨F, ⟨s, a⟩, ⟨t, b⟩, sm, ra, rb, g⟩ := h
    cases a with
    | int i =>
      cases b with
      | int j =>
        obtain ⟨g1, g2⟩ := g.guard
        exact ⟨i, j, ra.int sm, rb.int sm, of_decide_eq_true g1, g2.of sm int_is⟩
      | _ => exact g.elim
    | _ => exact g.elim
  | pow =>
    refine OpR.imp op_pow fun x y H Q h => ?_
    obtain ⟨F, ⟨s, a⟩, ⟨t, b⟩, sm, ra, rb, g⟩ := h
    cases a with
    | int i =>
      cases b with
      | int j =>
        obtain ⟨g1, g2⟩ := g.guard
        simp only [powOk, Bool.and_eq_true, decide_eq_true_eq] at g1
        exact ⟨i, j, ra.int sm, rb.int sm, ⟨g1.1.1, g1.1.2, g1.2⟩, g2.of sm int_is⟩
      | _ => exact g.elim
    | _ => exact g.elim
  | shl =>
    refine OpR.imp op_shl fun x y H Q h => ?_
    obtain ⟨F, ⟨s, a⟩, ⟨t, b⟩, sm, ra, rb, g⟩ := h
    cases a with
    | int i =>
      cases b with
      | int j =>
        obtain ⟨g1, g2⟩ := g.guard
        simp only [powOk, Bool.and_eq_true, decide_eq_true_eq] at g1
        exact ⟨i, j, ra.int sm, rb.int sm, ⟨g1.1.1, g1.1.2, g1.2⟩, g2.of sm int_is⟩
      | _ => exact g.elim
    | _ => exact g.elim
  | shr =>
    refine OpR.imp op_shr fun x y H Q h => ?_
    obtain ⟨F, ⟨s, a⟩, ⟨t, b⟩, sm, ra, rb, g⟩ := h
    cases a with
    | int i =>
      cases b with
      | int j =>
        obtain ⟨g1, g2⟩ := g.guard
        exact ⟨i, j, ra.int sm, rb.int sm, of_decide_eq_true g1, g2.of sm int_is⟩
      | _ => exact g.elim
    | _ => exact g.elim
  | band =>
    refine OpR.imp op_and fun x y H Q h => ?_
    obtain ⟨F, ⟨s, a⟩, ⟨t, b⟩, sm, ra, rb, g⟩ := h
    cases a with
    | int i =>
      cases b with
      | int j => exact ⟨i, j, ra.int sm, rb.int sm, g.of sm int_is⟩
      | _ => exact g.elim
    | _ => exact g.elim
theorem un_negD : UnR X (unaryOp .USub) (rNeg X.K) := by
  refine UnR.imp un_neg fun x H Q h => ?_
  obtain ⟨F, d, sm, ra, g⟩ := h
  cases d with
  | int i => exact ⟨i, is_int ra, g.of sm int_is⟩
  | _ => exact g.elim
theorem gB_ok {c b r : Bool} (h : gB c b = .ok r) : c = true ∧ b = r := by
  unfold gB at h
  cases c with
  | true =>
    simp only [if_true] at h
    cases h
    exact ⟨rfl, rfl⟩
  | false => simp at h
theorem both_ok {d e : D} (h : both d e = true) : SeqAt.shaped d = true ∧ SeqAt.shaped e = true := by
  simpa only [both, Bool.and_eq_true] using h
theorem isNone_dec {H : Hp} {d : D} {x : V} (h : Is K H d x) : decide (x = V.non) = isNone d := by
  cases d with
  | none => rw [is_none h]; rfl
  | bool _ => rw [is_bool h]; rfl
  | int _ => rw [is_int h]; rfl
  | str _ => rw [is_str h]; rfl
  | list _ => obtain ⟨a, vs, rfl, _⟩ := (by simpa only [Is] using h : ∃ a vs, x = .ref a ∧ _); rfl
  | tuple _ => obtain ⟨a, vs, rfl, _⟩ := (by simpa only [Is] using h : ∃ a vs, x = .ref a ∧ _); rfl
  | dict _ => obtain ⟨a, vs, rfl, _⟩ := (by simpa only [Is] using h : ∃ a vs, x = .ref a ∧ _); rfl
theorem evEq_cases (d e : D) : (∃ x y, d = .str x ∧ e = .str y ∧ evEq d e = .ok (decide (x = y))) ∨ (∃ a b, d = .dict a ∧ e = .dict b ∧ evEq d e = if dSame a b then .ok true else .stuck) ∨ evEq d e = gB (both d e) (PyData.eqv d e) := by
  cases d <;> cases e <;> first | exact .inr (.inr rfl) | exact .inl ⟨_, _, rfl, rfl, rfl⟩ | exact .inr (.inl ⟨_, _, rfl, rfl, rfl⟩)
theorem evNe_cases (d e : D) : (∃ x y, d = .str x ∧ e = .str y ∧ evNe d e = .ok (!decide (x = y))) ∨ (∃ a b, d = .dict a ∧ e = .dict b ∧ evNe d e = if dSame a b then .ok false else .stuck) ∨ evNe d e = gB (both d e) (!PyData.eqv d e) := by
  cases d <;> cases e <;> first | exact .inr (.inr rfl) | exact .inl ⟨_, _, rfl, rfl, rfl⟩ | exact .inr (.inl ⟨_, _, rfl, rfl, rfl⟩)
theorem dkey_of (k : Key) : dkey (keyD k) = some k := by cases k <;> rfl
theorem intKV_is {H : Hp} : ∀ {kvs : List (D × D)} {l : List (Key × Int)} {es : List (Key × V)}, intKV kvs = some l → IsK X.K H kvs es → es = l.map fun p => (p.1, V.int p.2)
  | [], l, es, e, h => by
    cases e
    simpa only [IsK, List.map_nil] using h
  | (k, d) :: r, l, es, e, h => by
    simp only [IsK] at h
    obtain ⟨kk, v, es', rfl, rfl, hv, t⟩ := h
    cases d with
    | int i =>
      unfold intKV at e
      rw [dkey_of] at e
      cases q : intKV r with
      | none => rw [q] at e; cases e
      | some m =>
        rw [q] at e
        cases e
        rw [intKV_is q t, is_int hv]
        rfl
    | _ => cases e
theorem nodup_val {l : List (Key × Int)} (h : (l.map (·.1)).Nodup) : ∀ p ∈ l, valV (l.map fun p => (p.1, V.int p.2)) p.1 = some (.int p.2) := by
  induction l with
  | nil => intro p hp; cases hp
  | cons q r ih =>
    intro p hp
    rw [List.map_cons, List.nodup_cons] at h
    rcases List.mem_cons.mp hp with rfl | hp
    · exact valV_pos rfl
    · have ne : q.1 ≠ p.1 := fun z => h.1 (by rw [z]; exact List.mem_map_of_mem hp)
      have := ih h.2 p hp
      unfold valV at this ⊢
      rw [List.map_cons, List.find?_cons]
      show Option.map _ (match decide (q.1 = p.1) with | true => _ | false => _) = _
      rw [decide_eq_false ne]
      exact this
theorem dict_same {H : Hp} {a b : List (D × D)} {x y : V} (h : dSame a b = true) (ha : Is X.K H (.dict a) x) (hb : Is X.K H (.dict b) y) :
    ∃ p q ks, x = .ref p ∧ y = .ref q ∧ H p = some (.dK ks) ∧ H q = some (.dK ks) ∧ ks.length = ks.length ∧ ∀ e ∈ ks, valV ks e.1 = some e.2 ∧ flatB e.2 = true := by
  simp only [Is] at ha hb
  obtain ⟨p, es, rfl, h1, h2⟩ := ha
  obtain ⟨q, fs, rfl, h3, h4⟩ := hb
  unfold dSame at h
  cases e1 : intKV a with
  | none => rw [e1] at h; cases h
  | some l =>
    cases e2 : intKV b with
    | none => rw [e1, e2] at h; cases h
    | some m =>
      rw [e1, e2] at h
      simp only [Bool.and_eq_true, decide_eq_true_eq] at h
      obtain ⟨rfl, nd⟩ := h
      have g1 := intKV_is e1 h2
      have g2 := intKV_is e2 h4
      subst g1
      subst g2
      refine ⟨p, q, _, rfl, rfl, h1, h3, rfl, fun e he => ?_⟩
      obtain ⟨z, hz, rfl⟩ := List.mem_map.mp he
      exact ⟨nodup_val nd z hz, rfl⟩
theorem dec_strs {x y : Str} : decide (V.str x = V.str y) = decide (x = y) := by
  by_cases h : x = y
  · subst h; simp
  · rw [decide_eq_false h, decide_eq_false fun z => h (by cases z; rfl)]
theorem op_cmp (hu2 : X.A.units + 65 < cLine) (o : Cop) : OpR X (compareOp (copE o)) (rCmp X.K o) := by
  have hu : X.A.units + 64 < cLine := by omega
  cases o with
  | eq =>
    refine OpR.imp (OpR.or op_eq (OpR.or (op_eq_dictA (by omega)) (op_eqD hu))) fun x y H Q h => ?_
    obtain ⟨d, e, b, hd, he, hb, q⟩ := h
    have hb : evEq d e = .ok b := hb
    rcases evEq_cases d e with ⟨u, v, rfl, rfl, z⟩ | ⟨a, b', rfl, rfl, z⟩ | z
    · rw [z] at hb
      cases hb
      rw [is_str hd, is_str he]
      exact .inl ⟨rfl, by rw [dec_strs]; exact q⟩
    · rw [z] at hb
      by_cases c : dSame a b' = true
      · rw [if_pos c] at hb
        cases hb
        obtain ⟨p1, p2, ks, rfl, rfl, e1, e2, e3, e4⟩ := dict_same (X := X) c hd he
        exact .inr (.inl ⟨p1, p2, ks, ks, rfl, rfl, e1, e2, e3, e4, q⟩)
      · rw [if_neg c] at hb
        cases hb
    · rw [z] at hb
      obtain ⟨h1, h2⟩ := gB_ok hb
      obtain ⟨s1, s2⟩ := both_ok h1
      exact .inr (.inr ⟨d, e, hd.dp (SeqAt.canLay_of_shaped s1), he.dp (SeqAt.canLay_of_shaped s2), s1, s2, by rw [h2]; exact q⟩)
  | ne =>
    refine OpR.imp (OpR.or op_ne (OpR.or (op_ne_dictA (by omega)) (op_neD hu))) fun x y H Q h => ?_
    obtain ⟨d, e, b, hd, he, hb, q⟩ := h
    have hb : evNe d e = .ok b := hb
    rcases evNe_cases d e with ⟨u, v, rfl, rfl, z⟩ | ⟨a, b', rfl, rfl, z⟩ | z
    · rw [z] at hb
      cases hb
      rw [is_str hd, is_str he]
      exact .inl ⟨rfl, by rw [dec_strs]; exact q⟩
    · rw [z] at hb
      by_cases c : dSame a b' = true
      · rw [if_pos c] at hb
        cases hb
        obtain ⟨p1, p2, ks, rfl, rfl, e1, e2, e3, e4⟩ := dict_same (X := X) c hd he
        exact .inr (.inl ⟨p1, p2, ks, ks, rfl, rfl, e1, e2, e3, e4, q⟩)
      · rw [if_neg c] at hb
        cases hb
    · rw [z] at hb
      obtain ⟨h1, h2⟩ := gB_ok hb
      obtain ⟨s1, s2⟩ := both_ok h1
      exact .inr (.inr ⟨d, e, hd.dp (SeqAt.canLay_of_shaped s1), he.dp (SeqAt.canLay_of_shaped s2), s1, s2, by rw [h2]; exact q⟩)
  | lt =>
    refine OpR.imp op_lt fun x y H Q h => ?_
    obtain ⟨d, e, b, hd, he, hb, q⟩ := h
    cases d with
    | int i =>
      cases e with
      | int j => cases hb; exact ⟨i, j, is_int hd, is_int he, q⟩
      | _ => cases hb
    | _ => cases hb
  | le =>
    refine OpR.imp op_le fun x y H Q h => ?_
    obtain ⟨d, e, b, hd, he, hb, q⟩ := h
    cases d with
    | int i =>
      cases e with
      | int j => cases hb; exact ⟨i, j, is_int hd, is_int he, q⟩
      | _ => cases hb
    | _ => cases hb
  | gt =>
    refine OpR.imp op_gt fun x y H Q h => ?_
    obtain ⟨d, e, b, hd, he, hb, q⟩ := h
    cases d with
    | int i =>
      cases e with
      | int j => cases hb; exact ⟨i, j, is_int hd, is_int he, q⟩
      | _ => cases hb
    | _ => cases hb
  | ge =>
    refine OpR.imp op_ge fun x y H Q h => ?_
    obtain ⟨d, e, b, hd, he, hb, q⟩ := h
    cases d with
    | int i =>
      cases e with
      | int j => cases hb; exact ⟨i, j, is_int hd, is_int he, q⟩
      | _ => cases hb
    | _ => cases hb
  | is =>
    refine OpR.imp (OpR.or op_isN (OpR.or op_isBl op_isSB)) fun x y H Q h => ?_
    obtain ⟨d, e, b, hd, he, hb, q⟩ := h
    have hb' : (e = .none ∧ b = isNone d) ∨ (∃ u v, d = .bool u ∧ e = .bool v ∧ b = decide (u = v)) ∨ ((∃ i, d = .int i) ∨ ∃ z, d = .str z) ∧ (∃ v, e = .bool v) ∧ b = false := by
      cases e <;> first | (cases hb; exact .inl ⟨rfl, rfl⟩) | (cases d <;> first | (cases hb; done) | (cases hb; exact .inr (.inl ⟨_, _, rfl, rfl, rfl⟩)) | (cases hb; exact .inr (.inr ⟨.inl ⟨_, rfl⟩, ⟨_, rfl⟩, rfl⟩)) | (cases hb; exact .inr (.inr ⟨.inr ⟨_, rfl⟩, ⟨_, rfl⟩, rfl⟩)))
    rcases hb' with ⟨rfl, rfl⟩ | ⟨u, v, rfl, rfl, rfl⟩ | ⟨c, ⟨v, rfl⟩, rfl⟩
    · exact .inl ⟨is_none he, by rw [isNone_dec hd]; exact q⟩
    · exact .inr (.inl ⟨u, v, is_bool hd, is_bool he, q⟩)
    · refine .inr (.inr ⟨?_, v, is_bool he, q⟩)
      rcases c with ⟨i, rfl⟩ | ⟨z, rfl⟩
      · exact .inl ⟨i, is_int hd⟩
      · exact .inr ⟨z, by simpa only [Is] using hd⟩
  | isn =>
    refine OpR.imp (OpR.or op_notN op_notBl) fun x y H Q h => ?_
    obtain ⟨d, e, b, hd, he, hb, q⟩ := h
    have hb' : (e = .none ∧ b = !isNone d) ∨ ∃ u v, d = .bool u ∧ e = .bool v ∧ b = !decide (u = v) := by
      cases e <;> first | (cases hb; exact .inl ⟨rfl, rfl⟩) | (cases d <;> first | (cases hb; done) | (cases hb; exact .inr ⟨_, _, rfl, rfl, rfl⟩))
    rcases hb' with ⟨rfl, rfl⟩ | ⟨u, v, rfl, rfl, rfl⟩
    · exact .inl ⟨is_none he, by rw [isNone_dec hd]; exact q⟩
    · exact .inr ⟨u, v, is_bool hd, is_bool he, q⟩
  | inn =>
    refine OpR.imp (op_inD hu2) fun x y H Q h => ?_
    obtain ⟨d, e, b, hd, he, hb, q⟩ := h
    cases e with
    | list xs =>
      obtain ⟨h1, h2⟩ := gB_ok (show gB (both d (.list xs)) (xs.any fun z => PyData.eqv z d) = .ok b by cases d <;> exact hb)
      obtain ⟨s1, s2⟩ := both_ok h1
      exact ⟨d, xs, hd.dp (SeqAt.canLay_of_shaped s1), he.dp (SeqAt.canLay_of_shaped s2), s1, s2, by rw [h2]; exact q⟩
    | _ => cases d <;> cases hb
  | nin =>
    refine OpR.imp (op_notInD hu2) fun x y H Q h => ?_
    obtain ⟨d, e, b, hd, he, hb, q⟩ := h
    cases e with
    | list xs =>
      obtain ⟨h1, h2⟩ := gB_ok (show gB (both d (.list xs)) (!xs.any fun z => PyData.eqv z d) = .ok b by cases d <;> exact hb)
      obtain ⟨s1, s2⟩ := both_ok h1
      exact ⟨d, xs, hd.dp (SeqAt.canLay_of_shaped s1), he.dp (SeqAt.canLay_of_shaped s2), s1, s2, by rw [h2]; exact q⟩
    | _ => cases d <;> cases hb
theorem atI_isL {H : Hp} {ds : List D} {vs : List V} {i : Int} {d : D} (h : IsL K H ds vs) (e : atI ds i = some d) : ∃ v, atI vs i = some v ∧ Is K H d v := by
  unfold atI at e ⊢
  rw [h.len]
  cases q : ixN ds.length i with
  | none => rw [q] at e; cases e
  | some j =>
    rw [q] at e
    exact h.get (show ds[j]? = some d from e)
theorem ix_D : IxR X (rIxD X.K) := by
  refine IxR.imp ix_seq fun x y H Q h => ?_
  obtain ⟨F, ⟨t, a⟩, d, sm, ra, rb, g⟩ := h
  cases d with
  | int i =>
    cases a with
    | list xs =>
      obtain ⟨l, vs, rfl, h1, h2⟩ := ra.list sm
      cases q : atI xs i with
      | none =>
        simp only [evIx, q] at g
        exact g.elim
      | some d =>
        simp only [evIx, q] at g
        obtain ⟨v, e1, e2⟩ := atI_isL h2 q
        exact .inl ⟨l, vs, i, v, rfl, is_int rb, h1.seq, e1, g v F H (Ext.refl sm) (Res.nt (x := (t.kid, d)) (of_kid e2) sm)⟩
    | tuple xs =>
      obtain ⟨l, vs, rfl, h1, h2⟩ := ra.tuple sm
      cases q : atI xs i with
      | none =>
        simp only [evIx, q] at g
        exact g.elim
      | some d =>
        simp only [evIx, q] at g
        obtain ⟨v, e1, e2⟩ := atI_isL h2 q
        exact .inr (.inl ⟨l, vs, i, v, rfl, is_int rb, h1, e1, g v F H (Ext.refl sm) (Res.nt (x := (t.kid, d)) (of_kid e2) sm)⟩)
    | str z =>
      obtain ⟨g1, g2⟩ := g.guard
      cases q : atI z.cps.toList i with
      | none =>
        simp only [q] at g2
        exact g2.elim
      | some c =>
        simp only [q] at g2
        exact .inr (.inr ⟨z, i, c, ra.str sm, is_int rb, Nat.le_trans (of_decide_eq_true g1) lim_le, q, g2.of sm str_is⟩)
    | _ => exact g.elim
  | _ => cases a <;> exact g.elim
/-- a new tuple of such items -/
theorem new_tup {F H : Hp} {t : Tag} {ds : List D} {vs : List V} {Q : VK} (ht : t = .sh ∨ t = .pk) (s : Same F H) (h : IsL K (hp t F H) ds vs) (g : Give K F H (.ok (t, .tuple ds)) Q) :
    ∀ p, H p = none → Q (.ref p) (upd H p (.tup vs)) := fun p np => by
  rcases ht with rfl | rfl
  · refine g (.ref p) (upd F p (.tup vs)) _ (Ext.new s np) ?_
    show Is K (upd F p (.tup vs)) (.tuple ds) (.ref p)
    simp only [Is]
    exact ⟨p, vs, rfl, SqT.of upd_same, h.mono (same_upd (s.free np))⟩
  · refine g (.ref p) F _ (Ext.new0 s np) ?_
    show Is K (upd H p (.tup vs)) (.tuple ds) (.ref p)
    simp only [Is]
    exact ⟨p, vs, rfl, SqT.of upd_same, h.mono (same_upd np)⟩
theorem sl_D : SlR X (rSlD X.K) := by
  refine SlR.imp (SlR.or (SlR.or sl_list sl_str) sl_tupA) fun x lo hi H Q h => ?_
  obtain ⟨F, ⟨t, a⟩, sm, ra, g⟩ := h
  cases a with
  | list xs =>
    obtain ⟨l, vs, rfl, h1, h2⟩ := ra.list sm
    exact .inl (.inl ⟨l, vs, rfl, h1.seq, new_list (kid_cases t) sm (h2.cut lo hi) g⟩)
  | str z =>
    obtain ⟨c, g⟩ := g.guard
    have := of_decide_eq_true c
    exact .inl (.inr ⟨z, ra.str sm, Nat.le_trans this lim_le, g.of sm str_is⟩)
  | tuple xs =>
    obtain ⟨l, vs, rfl, h1, h2⟩ := ra.tuple sm
    refine .inr ⟨l, vs, rfl, h1, fun w => ?_, fun _ => new_tup (kid_cases t) sm (h2.cut lo hi) g⟩
    have hl := h2.len
    have e : cutD xs lo hi = xs := by
      unfold cutD
      rw [← hl, w.1, w.2, Nat.sub_zero, List.drop_zero, List.take_of_length_le (by omega)]
    have g : Give X.K F H (.ok (t.kid, .tuple (cutD xs lo hi))) Q := g
    rw [e] at g
    refine g (.ref l) F H (Ext.refl sm) ?_
    exact of_kid (by
      cases t with
      | sh => exact (by simpa only [Res] using ra : Is X.K F (.tuple xs) (.ref l))
      | pk => exact (by simpa only [Res] using ra : Is X.K H (.tuple xs) (.ref l))
      | tr =>
        show Is X.K H (.tuple xs) (.ref l)
        simp only [Is]
        exact ⟨l, vs, rfl, h1, h2⟩
      | rt => obtain ⟨p, _, z⟩ := ra; exact z.elim
      | ow => obtain ⟨p, _, _, z⟩ := ra; exact z.elim)
  | _ => exact g.elim
theorem strL_is {H : Hp} : ∀ {xs : List D} {ys : List Str} {vs : List V}, strL xs = some ys → IsL X.K H xs vs → vs = ys.map V.str
  | [], ys, vs, e, h => by
    cases e
    simpa only [IsL, List.map_nil] using h
  | .str z :: r, ys, vs, e, h => by
    unfold strL at e
    cases q : strL r with
    | none => rw [q] at e; cases e
    | some zs =>
      rw [q] at e
      cases e
      simp only [IsL, Is] at h
      obtain ⟨v, w, rfl, rfl, t⟩ := h
      rw [strL_is q t, List.map_cons]
  | .none :: _, _, _, e, _ => by cases e
  | .bool _ :: _, _, _, e, _ => by cases e
  | .int _ :: _, _, _, e, _ => by cases e
  | .list _ :: _, _, _, e, _ => by cases e
  | .tuple _ :: _, _, _, e, _ => by cases e
  | .dict _ :: _, _, _, e, _ => by cases e
theorem isK_val {H : Hp} {k : Key} : ∀ {kvs : List (D × D)} {es : List (Key × V)} {d : D}, IsK K H kvs es → dGetK kvs k = some d → ∃ v, valV es k = some v ∧ Is K H d v
  | [], es, d, h, e => by cases e
  | (kd, c) :: r, es, d, h, e => by
    simp only [IsK] at h
    obtain ⟨kk, v, es', rfl, rfl, hv, t⟩ := h
    unfold dGetK at e
    rw [List.find?_cons] at e
    show ∃ u, Option.map (·.2) (List.find? _ ((kk, v) :: es')) = some u ∧ _
    rw [List.find?_cons]
    rw [dkey_of] at e
    by_cases c : kk = k
    · subst c
      rw [decide_eq_true rfl] at e
      cases e
      exact ⟨v, by simp, hv⟩
    · rw [decide_eq_false (fun z => c (by cases z; rfl))] at e
      obtain ⟨u, h1, h2⟩ := isK_val t (show dGetK r k = some d from e)
      refine ⟨u, ?_, h2⟩
      rw [decide_eq_false c]
      exact h1
theorem isK_any {H : Hp} {k : Key} : ∀ {kvs : List (D × D)} {es : List (Key × V)}, IsK K H kvs es → (kvs.any fun kv => decide (dkey kv.1 = some k)) = es.any fun kv => decide (kv.1 = k)
  | [], es, h => by
    simp only [IsK] at h
    subst h
    rfl
  | (kd, c) :: r, es, h => by
    simp only [IsK] at h
    obtain ⟨kk, v, es', rfl, rfl, hv, t⟩ := h
    rw [List.any_cons, List.any_cons, isK_any t, dkey_of]
    congr 1
    by_cases c : kk = k
    · subst c; simp
    · rw [decide_eq_false c, decide_eq_false fun z => c (by cases z; rfl)]
theorem isK_map {H : Hp} {k : Key} {d : D} {u : V} (hd : Is K H d u) : ∀ {kvs : List (D × D)} {es : List (Key × V)}, IsK K H kvs es → IsK K H (kvs.map fun kv => if dkey kv.1 = some k then (kv.1, d) else kv) (es.map fun kv => if kv.1 = k then (kv.1, u) else kv)
  | [], es, h => by
    simp only [IsK] at h
    subst h
    simp only [List.map_nil, IsK]
  | (kd, c) :: r, es, h => by
    simp only [IsK] at h
    obtain ⟨kk, v, es', rfl, rfl, hv, t⟩ := h
    rw [List.map_cons, List.map_cons, dkey_of]
    simp only [IsK]
    by_cases c : kk = k
    · subst c
      rw [if_pos rfl, if_pos rfl]
      exact ⟨kk, u, _, rfl, rfl, hd, isK_map hd t⟩
    · rw [if_neg c, if_neg fun z => c (by cases z; rfl)]
      exact ⟨kk, v, _, rfl, rfl, hv, isK_map hd t⟩
theorem isK_app {H : Hp} {k : Key} {d : D} {u : V} (hd : Is K H d u) : ∀ {kvs : List (D × D)} {es : List (Key × V)}, IsK K H kvs es → IsK K H (kvs ++ [(dKey k, d)]) (es ++ [(k, u)])
  | [], es, h => by
    simp only [IsK] at h
    subst h
    simp only [List.nil_append, IsK]
    exact ⟨k, u, [], rfl, by cases k <;> rfl, hd, rfl⟩
  | (kd, c) :: r, es, h => by
    simp only [IsK] at h
    obtain ⟨kk, v, es', rfl, rfl, hv, t⟩ := h
    simp only [List.cons_append, IsK]
    exact ⟨kk, v, _, rfl, rfl, hv, isK_app hd t⟩
theorem isK_put {H : Hp} {k : Key} {d : D} {u : V} {kvs : List (D × D)} {es : List (Key × V)} (h : IsK K H kvs es) (hd : Is K H d u) : IsK K H (dPutK kvs k d) (putK es k u) := by
  unfold dPutK putK
  rw [isK_any h]
  split
  · exact isK_map hd h
  · exact isK_app hd h
theorem isK_len {H : Hp} : ∀ {kvs : List (D × D)} {es : List (Key × V)}, IsK K H kvs es → es.length = kvs.length
  | [], es, h => by
    simp only [IsK] at h
    subst h
    rfl
  | (kd, c) :: r, es, h => by
    simp only [IsK] at h
    obtain ⟨kk, v, es', rfl, rfl, hv, t⟩ := h
    rw [List.length_cons, List.length_cons, isK_len t]
theorem key_is {H : Hp} {d : D} {k : Key} {v : V} (h : Is K H d v) (e : dkey d = some k) : v = kV k := by
  cases d with
  | int i => cases e; exact is_int h
  | str s => cases e; exact is_str h
  | _ => cases e
theorem res_dict {H1 F H : Hp} {t : Tag} {kvs : List (D × D)} {v : V} (h : Res K H1 F H v (t, .dict kvs)) (s : Same F H) : ∃ a es, v = .ref a ∧ H a = some (.dK es) ∧ IsK K (hp t.kid F H) kvs es := by
  cases t with
  | sh =>
    have h : Is K F (.dict kvs) v := h
    simp only [Is] at h
    obtain ⟨a, es, h1, h2, h3⟩ := h
    exact ⟨a, es, h1, s _ _ h2, h3⟩
  | pk =>
    have h : Is K H (.dict kvs) v := h
    simp only [Is] at h
    exact h
  | rt =>
    obtain ⟨p, h1, _, es, h2, h3⟩ := h
    exact ⟨p, es, h1, h2, h3⟩
  | ow =>
    obtain ⟨p, h1, _, _, es, h2, h3⟩ := h
    exact ⟨p, es, h1, h2, h3⟩
  | tr =>
    obtain ⟨fp, _, q⟩ := h
    simp only [Own] at q
    obtain ⟨p, es, fq, rfl, rfl, h1, h2, h3, h4⟩ := q
    exact ⟨p, es, rfl, h3, h4.is fun _ _ => rfl⟩
end
end PV

/-! PvBi: the built-in functions of the language. -/
namespace PV
open PySem PySem.Spec PyProof.Rows L2

def ResL (K : PySem.W.Frag) (H F' H' : Hp) : List V → List TD → Prop
  | vs, [] => vs = []
  | vs, x :: r => ∃ v ws, vs = v :: ws ∧ Res K H F' H' v x ∧ ResL K H F' H' ws r
def rBi (K : PySem.W.Frag) (b : Bi) : List V → Hp → VK → Prop := fun vs H Q => ∃ F l, Same F H ∧ ResL K H0 F H vs l ∧ Give K F H (evBi b l) Q
section
variable {X : Cx} {K : PySem.W.Frag}
theorem ResL.one {H1 F H : Hp} {vs : List V} {x : TD} (h : ResL K H1 F H vs [x]) : ∃ v, vs = [v] ∧ Res K H1 F H v x := by
  obtain ⟨v, ws, rfl, h1, h2⟩ := h
  have h3 : ws = [] := h2
  subst h3
  exact ⟨v, rfl, h1⟩
theorem ResL.two {H1 F H : Hp} {vs : List V} {x y : TD} (h : ResL K H1 F H vs [x, y]) : ∃ v w, vs = [v, w] ∧ Res K H1 F H v x ∧ Res K H1 F H w y := by
  obtain ⟨v, ws, rfl, h1, h2⟩ := h
  obtain ⟨w, rfl, h3⟩ := h2.one
  exact ⟨v, w, rfl, h1, h3⟩
theorem CallR.orr {f : Value} {r r' : List V → Hp → VK → Prop} (h : CallR X f r) (h' : CallR X f r') : CallR X f (fun xs H Q => r xs H Q ∨ r' xs H Q) := L2.CallR.or h h'
theorem foldl_min_le : ∀ (r : List Int) (n : Int), r.foldl min n ≤ n ∧ (∀ y ∈ r, r.foldl min n ≤ y) ∧ (r.foldl min n = n ∨ r.foldl min n ∈ r)
  | [], n => ⟨Int.le_refl _, by simp, .inl rfl⟩
  | x :: r, n => by
    obtain ⟨h1, h2, h3⟩ := foldl_min_le r (min n x)
    rw [List.foldl_cons]
    refine ⟨by omega, fun y hy => ?_, ?_⟩
    · rcases List.mem_cons.mp hy with rfl | hy
      · omega
      · exact h2 y hy
    · rcases h3 with h3 | h3
      · by_cases c : n ≤ x
        · exact .inl (by omega)
        · exact .inr (by rw [h3, show min n x = x by omega]; exact List.mem_cons_self)
      · exact .inr (List.mem_cons_of_mem _ h3)
theorem foldl_max_le : ∀ (r : List Int) (n : Int), n ≤ r.foldl max n ∧ (∀ y ∈ r, y ≤ r.foldl max n) ∧ (r.foldl max n = n ∨ r.foldl max n ∈ r)
  | [], n => ⟨Int.le_refl _, by simp, .inl rfl⟩
  | x :: r, n => by
    obtain ⟨h1, h2, h3⟩ := foldl_max_le r (max n x)
    rw [List.foldl_cons]
    refine ⟨by omega, fun y hy => ?_, ?_⟩
    · rcases List.mem_cons.mp hy with rfl | hy
      · omega
      · exact h2 y hy
    · rcases h3 with h3 | h3
      · by_cases c : x ≤ n
        · exact .inl (by omega)
        · exact .inr (by rw [h3, show max n x = x by omega]; exact List.mem_cons_self)
      · exact .inr (List.mem_cons_of_mem _ h3)
theorem min_is {n m : Int} {r : List Int} (h1 : m ∈ n :: r) (h2 : ∀ y, y ∈ n :: r → m ≤ y) : m = r.foldl min n := by
  obtain ⟨a, b, c⟩ := foldl_min_le r n
  have e1 : r.foldl min n ≤ m := by
    rcases List.mem_cons.mp h1 with rfl | h
    · exact a
    · exact b m h
  have e2 : m ≤ r.foldl min n := by
    rcases c with c | c
    · rw [c]
      exact h2 n List.mem_cons_self
    · exact h2 _ (List.mem_cons_of_mem _ c)
  omega
theorem max_is {n m : Int} {r : List Int} (h1 : m ∈ n :: r) (h2 : ∀ y, y ∈ n :: r → y ≤ m) : m = r.foldl max n := by
  obtain ⟨a, b, c⟩ := foldl_max_le r n
  have e1 : m ≤ r.foldl max n := by
    rcases List.mem_cons.mp h1 with rfl | h
    · exact a
    · exact b m h
  have e2 : r.foldl max n ≤ m := by
    rcases c with c | c
    · rw [c]
      exact h2 n List.mem_cons_self
    · exact h2 _ (List.mem_cons_of_mem _ c)
  omega
theorem hp_intL {F H : Hp} {t : Tag} {xs : List D} {ns : List Int} {vs : List V} (h : IsL K (hp t F H) xs vs) (e : intL xs = some ns) : vs = ns.map V.int := by
  rw [intL_map e] at h
  exact isL_ints h
theorem hp_boolL {F H : Hp} {t : Tag} {xs : List D} {ns : List Bool} {vs : List V} (h : IsL K (hp t F H) xs vs) (e : boolL xs = some ns) : vs = ns.map V.bl := by
  rw [boolL_map e] at h
  exact isL_bools h

theorem bi_len : CallR X (.builtin "len") (rBi X.K .len) := by
  refine CallR.imp (CallR.orr call_len_seq call_len_str) fun vs H Q h => ?_
  obtain ⟨F, l, sm, hl, g⟩ := h
  match l, hl, g with
  | [(t, .list xs)], hl, g =>
    obtain ⟨v, rfl, r⟩ := hl.one
    obtain ⟨a, ws, rfl, h1, h2⟩ := r.list sm
    exact .inl ⟨a, ws, rfl, .inl h1.seq, by rw [h2.len]; exact g.of sm int_is⟩
  | [(t, .tuple xs)], hl, g =>
    obtain ⟨v, rfl, r⟩ := hl.one
    obtain ⟨a, ws, rfl, h1, h2⟩ := r.tuple sm
    exact .inl ⟨a, ws, rfl, .inr h1, by rw [h2.len]; exact g.of sm int_is⟩
  | [(t, .str z)], hl, g =>
    obtain ⟨v, rfl, r⟩ := hl.one
    obtain ⟨g1, g2⟩ := g.guard
    exact .inr ⟨z, by rw [r.str sm], Nat.le_trans (of_decide_eq_true g1) lim_le, g2.of sm int_is⟩
  | [(_, .none)], _, g => exact g.elim
  | [(_, .bool _)], _, g => exact g.elim
  | [(_, .int _)], _, g => exact g.elim
  | [(_, .dict _)], _, g => exact g.elim
  | [], _, g => exact g.elim
  | (_, a) :: _ :: _, _, g => cases a <;> exact g.elim
theorem bi_abs : CallR X (.builtin "abs") (rBi X.K .abs) := by
  refine CallR.imp call_abs fun vs H Q h => ?_
  obtain ⟨F, l, sm, hl, g⟩ := h
  match l, hl, g with
  | [(t, .int i)], hl, g =>
    obtain ⟨v, rfl, r⟩ := hl.one
    exact ⟨i, by rw [r.int sm], g.of sm int_is⟩
  | [(_, .none)], _, g => exact g.elim
  | [(_, .bool _)], _, g => exact g.elim
  | [(_, .str _)], _, g => exact g.elim
  | [(_, .list _)], _, g => exact g.elim
  | [(_, .tuple _)], _, g => exact g.elim
  | [(_, .dict _)], _, g => exact g.elim
  | [], _, g => exact g.elim
  | (_, a) :: _ :: _, _, g => cases a <;> exact g.elim
theorem bi_min (hc : X.calm = true) : CallR X (.builtin "min") (rBi X.K .min) := by
  refine CallR.imp (CallR.orr (call_min2 hc) (cr_min hc)) fun vs H Q h => ?_
  obtain ⟨F, l, sm, hl, g⟩ := h
  match l, hl, g with
  | [(t, .list xs)], hl, g =>
    obtain ⟨v, rfl, r⟩ := hl.one
    obtain ⟨a, ws, rfl, h1, h2⟩ := r.list sm
    cases q : intL xs with
    | none => simp only [evBi, q] at g; exact g.elim
    | some ns =>
      cases ns with
      | nil => simp only [evBi, q] at g; exact g.elim
      | cons n r =>
        simp only [evBi, q] at g
        have e := hp_intL h2 q
        subst e
        exact .inr ⟨a, n :: r, rfl, h1.seq, by simp, fun m m1 m2 => by rw [min_is m1 m2]; exact g.of sm int_is⟩
  | [(_, .none)], _, g => exact g.elim
  | [(_, .bool _)], _, g => exact g.elim
  | [(_, .str _)], _, g => exact g.elim
  | [(_, .int _)], _, g => exact g.elim
  | [(_, .tuple _)], _, g => exact g.elim
  | [(_, .dict _)], _, g => exact g.elim
  | [], _, g => exact g.elim
  | (_, a) :: (_, b) :: [], hl, g =>
    cases a with
    | int i =>
      cases b with
      | int j =>
        obtain ⟨v, w, rfl, r1, r2⟩ := hl.two
        exact .inl ⟨i, j, by rw [r1.int sm, r2.int sm], g.of sm int_is⟩
      | _ => exact g.elim
    | _ => cases b <;> exact g.elim
  | (_, a) :: (_, b) :: _ :: _, _, g => cases a <;> cases b <;> exact g.elim
theorem bi_max (hc : X.calm = true) : CallR X (.builtin "max") (rBi X.K .max) := by
  refine CallR.imp (CallR.orr (call_max2 hc) (cr_max hc)) fun vs H Q h => ?_
  obtain ⟨F, l, sm, hl, g⟩ := h
  match l, hl, g with
  | [(t, .list xs)], hl, g =>
    obtain ⟨v, rfl, r⟩ := hl.one
    obtain ⟨a, ws, rfl, h1, h2⟩ := r.list sm
    cases q : intL xs with
    | none => simp only [evBi, q] at g; exact g.elim
    | some ns =>
      cases ns with
      | nil => simp only [evBi, q] at g; exact g.elim
      | cons n r =>
        simp only [evBi, q] at g
        have e := hp_intL h2 q
        subst e
        exact .inr ⟨a, n :: r, rfl, h1.seq, by simp, fun m m1 m2 => by rw [max_is m1 m2]; exact g.of sm int_is⟩
  | [(_, .none)], _, g => exact g.elim
  | [(_, .bool _)], _, g => exact g.elim
  | [(_, .str _)], _, g => exact g.elim
  | [(_, .int _)], _, g => exact g.elim
  | [(_, .tuple _)], _, g => exact g.elim
  | [(_, .dict _)], _, g => exact g.elim
  | [], _, g => exact g.elim
  | (_, a) :: (_, b) :: [], hl, g =>
    cases a with
    | int i =>
      cases b with
      | int j =>
        obtain ⟨v, w, rfl, r1, r2⟩ := hl.two
        exact .inl ⟨i, j, by rw [r1.int sm, r2.int sm], g.of sm int_is⟩
      | _ => exact g.elim
    | _ => cases b <;> exact g.elim
  | (_, a) :: (_, b) :: _ :: _, _, g => cases a <;> cases b <;> exact g.elim
theorem bi_int : CallR X (.type "int") (rBi X.K .int) := by
  refine CallR.imp call_int1 fun vs H Q h => ?_
  obtain ⟨F, l, sm, hl, g⟩ := h
  match l, hl, g with
  | [(t, .int i)], hl, g =>
    obtain ⟨v, rfl, r⟩ := hl.one
    exact .inl ⟨i, by rw [r.int sm], g.of sm int_is⟩
  | [(_, .bool b)], hl, g =>
    obtain ⟨v, rfl, r⟩ := hl.one
    exact .inr ⟨b, by rw [is_bool (r.is sm)], g.of sm int_is⟩
  | [(_, .none)], _, g => exact g.elim
  | [(_, .str _)], _, g => exact g.elim
  | [(_, .list _)], _, g => exact g.elim
  | [(_, .tuple _)], _, g => exact g.elim
  | [(_, .dict _)], _, g => exact g.elim
  | [], _, g => exact g.elim
  | (_, a) :: _ :: _, _, g => cases a <;> exact g.elim
theorem bi_list : CallR X (.type "list") (rBi X.K .list) := by
  refine CallR.imp call_list_of fun vs H Q h => ?_
  obtain ⟨F, l, sm, hl, g⟩ := h
  match l, hl, g with
  | [(t, .list xs)], hl, g =>
    obtain ⟨v, rfl, r⟩ := hl.one
    obtain ⟨a, ws, rfl, h1, h2⟩ := r.list sm
    exact ⟨a, ws, rfl, .inl h1.seq, new_list (kid_cases t) sm h2 g⟩
  | [(t, .tuple xs)], hl, g =>
    obtain ⟨v, rfl, r⟩ := hl.one
    obtain ⟨a, ws, rfl, h1, h2⟩ := r.tuple sm
    exact ⟨a, ws, rfl, .inr h1, new_list (kid_cases t) sm h2 g⟩
  | [(_, .none)], _, g => exact g.elim
  | [(_, .bool _)], _, g => exact g.elim
  | [(_, .str _)], _, g => exact g.elim
  | [(_, .int _)], _, g => exact g.elim
  | [(_, .dict _)], _, g => exact g.elim
  | [], _, g => exact g.elim
  | (_, a) :: _ :: _, _, g => cases a <;> exact g.elim
theorem bi_tuple : CallR X (.type "tuple") (rBi X.K .tuple) := by
  refine CallR.imp call_tuple_of fun vs H Q h => ?_
  obtain ⟨F, l, sm, hl, g⟩ := h
  match l, hl, g with
  | [(t, .list xs)], hl, g =>
    obtain ⟨v, rfl, r⟩ := hl.one
    obtain ⟨a, ws, rfl, h1, h2⟩ := r.list sm
    exact ⟨a, ws, rfl, .inl ⟨h1.seq, new_tup (kid_cases t) sm h2 g⟩⟩
  | [(_, .none)], _, g => exact g.elim
  | [(_, .bool _)], _, g => exact g.elim
  | [(_, .str _)], _, g => exact g.elim
  | [(_, .int _)], _, g => exact g.elim
  | [(_, .tuple _)], _, g => exact g.elim
  | [(_, .dict _)], _, g => exact g.elim
  | [], _, g => exact g.elim
  | (_, a) :: _ :: _, _, g => cases a <;> exact g.elim
theorem bi_sum (hc : X.calm = true) : CallR X (.builtin "sum") (rBi X.K .sum) := by
  refine CallR.imp (cr_sum hc) fun vs H Q h => ?_
  obtain ⟨F, l, sm, hl, g⟩ := h
  match l, hl, g with
  | [(t, .list xs)], hl, g =>
    obtain ⟨v, rfl, r⟩ := hl.one
    obtain ⟨a, ws, rfl, h1, h2⟩ := r.list sm
    cases q : intL xs with
    | none => simp only [evBi, q] at g; exact g.elim
    | some ns =>
      simp only [evBi, q] at g
      have e := hp_intL h2 q
      subst e
      exact ⟨a, ns, rfl, h1.seq, g.of sm int_is⟩
  | [(_, .none)], _, g => exact g.elim
  | [(_, .bool _)], _, g => exact g.elim
  | [(_, .str _)], _, g => exact g.elim
  | [(_, .int _)], _, g => exact g.elim
  | [(_, .tuple _)], _, g => exact g.elim
  | [(_, .dict _)], _, g => exact g.elim
  | [], _, g => exact g.elim
  | (_, a) :: _ :: _, _, g => cases a <;> exact g.elim
theorem bi_any (hc : X.calm = true) : CallR X (.builtin "any") (rBi X.K .any) := by
  refine CallR.imp (cr_any hc) fun vs H Q h => ?_
  obtain ⟨F, l, sm, hl, g⟩ := h
  match l, hl, g with
  | [(t, .list xs)], hl, g =>
    obtain ⟨v, rfl, r⟩ := hl.one
    obtain ⟨a, ws, rfl, h1, h2⟩ := r.list sm
    cases q : boolL xs with
    | none => simp only [evBi, q] at g; exact g.elim
    | some ns =>
      simp only [evBi, q] at g
      have e := hp_boolL h2 q
      subst e
      exact ⟨a, ns, rfl, h1.seq, g.of sm bool_is⟩
  | [(_, .none)], _, g => exact g.elim
  | [(_, .bool _)], _, g => exact g.elim
  | [(_, .str _)], _, g => exact g.elim
  | [(_, .int _)], _, g => exact g.elim
  | [(_, .tuple _)], _, g => exact g.elim
  | [(_, .dict _)], _, g => exact g.elim
  | [], _, g => exact g.elim
  | (_, a) :: _ :: _, _, g => cases a <;> exact g.elim
theorem bi_all (hc : X.calm = true) : CallR X (.builtin "all") (rBi X.K .all) := by
  refine CallR.imp (cr_all hc) fun vs H Q h => ?_
  obtain ⟨F, l, sm, hl, g⟩ := h
  match l, hl, g with
  | [(t, .list xs)], hl, g =>
    obtain ⟨v, rfl, r⟩ := hl.one
    obtain ⟨a, ws, rfl, h1, h2⟩ := r.list sm
    cases q : boolL xs with
    | none => simp only [evBi, q] at g; exact g.elim
    | some ns =>
      simp only [evBi, q] at g
      have e := hp_boolL h2 q
      subst e
      exact ⟨a, ns, rfl, h1.seq, g.of sm bool_is⟩
  | [(_, .none)], _, g => exact g.elim
  | [(_, .bool _)], _, g => exact g.elim
  | [(_, .str _)], _, g => exact g.elim
  | [(_, .int _)], _, g => exact g.elim
  | [(_, .tuple _)], _, g => exact g.elim
  | [(_, .dict _)], _, g => exact g.elim
  | [], _, g => exact g.elim
  | (_, a) :: _ :: _, _, g => cases a <;> exact g.elim
theorem bi_str : CallR X (.type "str") (rBi X.K .str) := by
  refine CallR.imp (CallR.orr call_str_int SkE.call_str_str) fun vs H Q h => ?_
  obtain ⟨F, l, sm, hl, g⟩ := h
  match l, hl, g with
  | [(t, .int i)], hl, g =>
    obtain ⟨v, rfl, r⟩ := hl.one
    obtain ⟨g1, g2⟩ := g.guard
    exact .inl ⟨i, by rw [r.int sm], of_decide_eq_true g1, g2.of sm str_is⟩
  | [(t, .str z)], hl, g =>
    obtain ⟨v, rfl, r⟩ := hl.one
    exact .inr ⟨z, by rw [r.str sm], g.of sm str_is⟩
  | [(_, .none)], _, g => exact g.elim
  | [(_, .bool _)], _, g => exact g.elim
  | [(_, .list _)], _, g => exact g.elim
  | [(_, .tuple _)], _, g => exact g.elim
  | [(_, .dict _)], _, g => exact g.elim
  | [], _, g => exact g.elim
  | (_, a) :: _ :: _, _, g => cases a <;> exact g.elim

/-! ### repr of data -/
theorem bi_repr (hu : X.A.units + 190 < cLine) (hg : X.A.guards = some []) : CallR X (.builtin "repr") (rBi X.K .repr) := by
  intro pins s σ H vs us Q I rv h
  obtain ⟨F, l, sm, hl, g⟩ := h
  have go : ∀ (t : Tag) (d : D), (∃ xs, d = .list xs ∨ d = .tuple xs) → ResL X.K H0 F H vs [(t, d)] → Give X.K F H (guard (reprOk d) (ok1 (.str d.shown))) Q → wpAny (model X.prog X.w) X.A (PySem.call (.builtin "repr") us) (EP X pins σ Q) X.xe s := by
    intro t d hd hl g
    obtain ⟨v, rfl, r⟩ := hl.one
    obtain ⟨g1, g2⟩ := g.guard
    simp only [reprOk, Bool.and_eq_true, decide_eq_true_eq] at g1
    obtain ⟨⟨⟨c1, c2⟩, c3⟩, c4⟩ := g1
    obtain ⟨u, rfl, ru⟩ := Vals.one rv
    have hi := r.is sm
    obtain ⟨as, hR⟩ := Dp.reads I d v u (hi.dp c2) ru
    obtain ⟨a, rfl⟩ : ∃ a, v = .ref a := by
      obtain ⟨xs, e | e⟩ := hd
      · subst e
        obtain ⟨a, ws, e, _⟩ := (by simpa only [Is] using hi : ∃ a vs, v = .ref a ∧ _)
        exact ⟨a, e⟩
      · subst e
        obtain ⟨a, ws, e, _⟩ := (by simpa only [Is] using hi : ∃ a vs, v = .ref a ∧ _)
        exact ⟨a, e⟩
    have ru' : u = Value.ref a := ru
    subst ru'
    refine repr_of_reads' hR c1 (PyData.noDict_hsm (PyData.hasDict_of_canLay d c2)) hg (by omega) (fun _ _ e => e) (fun h' u tk hk => ?_) (Nat.le_trans c3 lim_le)
    exact ⟨.str d.shown, H, I.kept (t' := tk) hk, ⟨_, rfl⟩, g2.of sm str_is⟩
  match l, hl, g with
  | [(t, .list xs)], hl, g => exact go t _ ⟨xs, .inl rfl⟩ hl g
  | [(t, .tuple xs)], hl, g => exact go t _ ⟨xs, .inr rfl⟩ hl g
  | [(_, .none)], _, g => exact g.elim
  | [(_, .bool _)], _, g => exact g.elim
  | [(_, .str _)], _, g => exact g.elim
  | [(_, .int _)], _, g => exact g.elim
  | [(_, .dict _)], _, g => exact g.elim
  | [], _, g => exact g.elim
  | (_, a) :: _ :: _, _, g => cases a <;> exact g.elim

/-! ### sorted of data -/
theorem isL_zip {H : Hp} : ∀ {ds : List D} {vs : List V}, IsL K H ds vs → ∀ p ∈ vs.zip ds, Is K H p.2 p.1
  | [], _, h, p, hp => by
    simp only [IsL] at h
    subst h
    simp at hp
  | d :: ds, _, h, p, hp => by
    simp only [IsL] at h
    obtain ⟨v, r, rfl, q, u⟩ := h
    rw [List.zip_cons_cons] at hp
    rcases List.mem_cons.mp hp with rfl | hp
    · exact q
    · exact isL_zip u p hp
theorem isL_of {H : Hp} : ∀ {l : List (V × D)}, (∀ p ∈ l, Is K H p.2 p.1) → IsL K H (l.map (·.2)) (l.map (·.1))
  | [], _ => .nil
  | p :: l, h => .cons (h p List.mem_cons_self) (isL_of fun q hq => h q (List.mem_cons_of_mem _ hq))
theorem each_of {its : List Value} {P : Value → V × D → Prop} : ∀ {vs : List V} {ds : List D}, Vals vs its → vs.length = ds.length → (∀ v u d, RelV v u → (v, d) ∈ vs.zip ds → P u (v, d)) → PySem.W.EachIs P its (vs.zip ds) := by
  induction its with
  | nil =>
    intro vs ds r hl hP
    cases r
    exact .nil
  | cons u us ih =>
    intro vs ds r hl hP
    cases r with
    | cons r1 r2 =>
      rename_i v vs
      cases ds with
      | nil => simp at hl
      | cons d ds =>
        rw [List.zip_cons_cons]
        refine .cons (hP v u d r1 (by simp)) (ih r2 (by simpa using hl) fun v u d a b => hP v u d a (by rw [List.zip_cons_cons]; exact List.mem_cons_of_mem _ b))
theorem zip_snd {α β : Type} : ∀ {xs : List α} {ys : List β}, xs.length = ys.length → (xs.zip ys).map (·.2) = ys
  | [], [], _ => rfl
  | [], _ :: _, h => by simp at h
  | _ :: _, [], h => by simp at h
  | x :: xs, y :: ys, h => by
    rw [List.zip_cons_cons, List.map_cons, zip_snd (by simpa using h)]
theorem vals_each : ∀ {out : List Value} {l : List (V × D)}, PySem.W.EachIs (fun u p => RelV p.1 u) out l → Vals (l.map (·.1)) out
  | _, _, .nil => .nil
  | _, _, .cons h t => .cons h (vals_each t)
theorem sortOk_of {xs : List D} (h : sortOk xs = true) : PySem.W.AllAlike xs ∧ PySem.W.Sortable xs ∧ ∀ d ∈ xs, d.depth ≤ 60 ∧ d.canLay0 = true := by
  simp only [sortOk, Bool.and_eq_true, Bool.or_eq_true, List.all_eq_true, decide_eq_true_eq] at h
  obtain ⟨⟨h1, h2⟩, h3⟩ := h
  refine ⟨fun d hd e he => h1 d hd e he, ?_, h3⟩
  rcases h2 with h2 | h2
  · refine .inl fun d hd => ?_
    have q := h2 d hd
    match d, q with
    | .tuple (x :: r), _ => exact ⟨x, r, rfl⟩
  · refine .inr fun d hd => ?_
    have q := h2 d hd
    constructor
    · rintro rfl
      simp at q
    · rintro xs rfl
      simp at q
theorem bi_sorted {k : Nat} (hr : Room k X.A) : CallR X (.builtin "sorted") (rBi X.K .sorted) := by
  intro pins s σ H vs us Q I rv h
  obtain ⟨F, l, sm, hl, g⟩ := h
  match l, hl, g with
  | [(t, .list xs)], hl, g =>
    obtain ⟨v, rfl, r⟩ := hl.one
    obtain ⟨g1, g2⟩ := g.guard
    obtain ⟨a, ws, rfl, h1, h2⟩ := r.list sm
    obtain ⟨its, rw', pl, hz⟩ := I.list h1.seq
    rw [Vals.ref1 rv]
    obtain ⟨o1, o2, o3⟩ := sortOk_of g1
    have hlen := h2.len
    have hu := hr.un
    have sn := zip_snd (xs := ws) (ys := xs) hlen
    have hlz : (ws.zip xs).length ≤ sizeLine := by
      rw [List.length_zip]
      omega
    -- how each item reads
    have lay : ∀ p ∈ ws.zip xs, ∀ u, RelV p.1 u → ∃ as, Reads s.heap u p.2 as := fun p hp u ru => by
      have hi := isL_zip h2 p hp
      have cl : p.2.canLay0 = true := by
        have hm : p.2 ∈ xs := by
          rw [← sn]
          exact List.mem_map_of_mem hp
        exact (o3 _ hm).2
      exact Dp.reads I p.2 p.1 u ((hi.mono (hp_same sm)).dp cl) ru
    refine PySem.W.sorted_data (bs := ws.zip xs) (enc := fun p : V × D => p.2) (R := fun u p => RelV p.1 u) pl.isList (each_of rw' hlen fun v u d ru _ => ru) (each_of rw' hlen fun v u d ru hm => lay _ hm u ru)
      (by rw [sn]; exact o1) (by rw [sn]; exact o2) hlz (fun b hb => ?_) fun out e1 e2 => ?_
    · have hm : b.2 ∈ xs := by
        rw [← sn]
        exact List.mem_map_of_mem hb
      have := (o3 _ hm).1
      omega
    · obtain ⟨ep, he'⟩ := PyProof.Rows.sortedAll_at s.heap its out.toArray
      have em : ((ws.zip xs).mergeSort (PySem.W.dataLe false fun p : V × D => p.2)).map (·.2) = xs.mergeSort leD := by
        rw [List.map_mergeSort (r := PySem.W.dataLe false fun p : V × D => p.2) (s := leD) (f := fun p : V × D => p.2) (fun _ _ _ _ => rfl), sn]
      have hI : IsL X.K (hp t.kid F H) (xs.mergeSort leD) (((ws.zip xs).mergeSort (PySem.W.dataLe false fun p : V × D => p.2)).map (·.1)) := by
        rw [← em]
        exact isL_of fun p hp => isL_zip h2 p ((List.mergeSort_perm _ _).mem_iff.mp hp)
      have hlen2 : (((ws.zip xs).mergeSort (PySem.W.dataLe false fun p : V × D => p.2)).map (·.1)).length ≤ sizeLine := by
        rw [List.length_map, List.length_mergeSort]
        exact hlz
      exact ⟨.ref _, _, I.laid (a := s.heap.objs.size + 1) (o := .lst (((ws.zip xs).mergeSort (PySem.W.dataLe false fun p : V × D => p.2)).map (·.1))) (t' := s.toks) (fun _ _ => PyProof.Rows.sortedAll_old) (Nat.le_succ _) ⟨hlen2, out, ep, vals_each e2, he'⟩, rfl,
        new_list (kid_cases t) sm hI g2 _ (I.hok.fresh (Nat.le_succ _))⟩
  | [(_, .none)], _, g => exact g.elim
  | [(_, .bool _)], _, g => exact g.elim
  | [(_, .str _)], _, g => exact g.elim
  | [(_, .int _)], _, g => exact g.elim
  | [(_, .tuple _)], _, g => exact g.elim
  | [(_, .dict _)], _, g => exact g.elim
  | [], _, g => exact g.elim
  | (_, a) :: _ :: _, _, g => cases a <;> exact g.elim
end
end PV

/-! PvSnd: what the look finds is what the reckoning says: expressions, tests, sources. -/
namespace PV
open PySem PySem.Spec PyProof.Rows L2

/-! ### a def that keeps a promise while no repr runs around it -/
structure FnG (P : Program) (w : World) (K : PySem.W.Frag) (mg : Str → Option Value) (base : Heap) (k : Nat) (f : Addr) (fd : FuncData) (ps : List Str) (sp : Sp) : Prop where
  len : ∀ vs H Q E, sp vs H Q E → vs.length = ps.length
  run : ∀ (A : Around) (outer : List PySem.Env) (s : Shared) (H : Hp) (args : Args) (us : List Value) (vs : List V) (Q : VK) (E : XK), Room k A → A.guards = some [] →
    Env0 P w K mg base A outer s H → BindsTo s fd args (ps.zip us) → Vals vs us → sp vs H Q E → codeAny (model P w) A (.call (.ref f) args) (CR (L2.CX P w) outer P w H s Q E) s
structure ExcC (K : PySem.W.Frag) (mg : Str → Option Value) (cref : Str → Value) (c : Str) (C : Addr) : Prop where
  mg : mg c = some (.ref C)
  cr : cref c = .ref C
  ex : PySem.W.excIn K C [.type "ValueError", .type "Exception", .type "BaseException", .type "object"] "ValueError.__new__" = true
  kp : PySem.W.keepIn K (.ref C) = true
  sb : PySem.W.subIn K (.ref C) (.type "BaseException") = some true
  ty : PySem.W.typeIn K (.ref C) = some (.type "type")
/-- changed(counts, place, change): a count that is a number is changed in place -/
def spCh : Sp := fun vs H Q _ => ∃ p xs k c j v, vs = [.ref p, .int k, .int c] ∧ H p = some (.lst xs) ∧ ixN xs.length k = some j ∧ xs[j]? = some v ∧ ((v = .non ∧ Q .non H) ∨ ∃ m, v = .int m ∧ Q .non (upd H p (.lst (xs.set j (.int (m + c))))))
/-- what is asked of an error of class c -/
def ErrF (K : PySem.W.Frag) (mg : Str → Option Value) (cref : Str → Value) (cs : List Str) (c : Str) : Prop := ∃ D, cref c = .ref D ∧ L2.ExcC K D ∧ ∀ x, (x ∈ cs ∨ x = "LegionError" ∨ x = "ValueError") →
  ∃ v, PySem.W.kitOne K (.ref D) v = some (subE c x) ∧ (x = "ValueError" → v = .type "ValueError") ∧ (x ≠ "ValueError" → ∃ C, v = .ref C ∧ mg x = some (.ref C)) ∧ (x ∈ cs → x ≠ "ValueError" ∧ PySem.W.exmOne K (.ref D) v = some (subE c x))
/-- the module around: the built-in names that are used, the defs by what they reckon, the exceptions -/
structure GC (P : Program) (w : World) (K : PySem.W.Frag) (mg : Str → Option Value) (base : Heap) (cref : Str → Value) (n : Nat) (G : Gam) (bs cs : List Str) : Prop where
  blt : ∀ x ∈ bs, mg x = none
  fns : ∀ (x : Str) g, bang x = false → G x = some g → ∃ f fd ps, mg x = some (.ref f) ∧ PySem.W.keepIn K (.ref f) = true ∧ Binds K fd ps [] ∧ FnG P w K mg base n f fd ps (spD K cref ps.length g) ∧ ∀ ds, g ds ≠ .stuck → ds.length = ps.length
  kwf : ∀ (x k : Str) g, G (kwn x k) = some g → ∃ f fd ps m, mg x = some (.ref f) ∧ PySem.W.keepIn K (.ref f) = true ∧ KBn K fd ps m [k] (fun us ws => us ++ ws) (fun vs zs => vs ++ zs) ∧ FnG P w K mg base n f fd ps (spD K cref ps.length g) ∧ (∀ ds, g ds ≠ .stuck → ds.length = ps.length) ∧ m + 1 = ps.length
  exs : ∀ c ∈ cs, ∃ C, ExcC K mg cref c C
  chg : ∀ g, G "!changed" = some g → ∃ f fd, mg "changed" = some (.ref f) ∧ PySem.W.keepIn K (.ref f) = true ∧ Binds K fd ["counts", "place", "change"] [] ∧ FnG P w K mg base n f fd ["counts", "place", "change"] spCh
  err : ("!try" : Str) ∈ bs → ∀ c ∈ cs, ErrF K mg cref cs c
  con : ∀ (x : Str) g, G (cgn x) = some g → ∃ d u v, g [] = .ok (.sh, d) ∧ mg x = some u ∧ RelV v u ∧ ∀ H, Is K H d v
  dfl : ∀ (x : Str) g, G (dfn x) = some g → ∃ f fd ps dus dvs dds g0, mg x = some (.ref f) ∧ PySem.W.keepIn K (.ref f) = true ∧ Binds K fd ps dus ∧ Vals dvs dus ∧ (∀ H, IsL K H dds dvs) ∧ FnG P w K mg base n f fd ps (spD K cref ps.length g0) ∧ (∀ ds, g ds = g0 (ds ++ dds)) ∧ ∀ ds, g0 ds ≠ .stuck → ds.length = ps.length
theorem room_s {k : Nat} {A : Around} (r : Room (k + 1) A) (env : PySem.Env) : Room k (A.deeper env) ∧ Room k (A.deeper env).in1.in1 :=
  ⟨r.deeper env, r.hd, by have := r.dp; show A.depth + 1 + 3 * k + 5 < _; omega, by have := r.un; show A.units + 3 + 1 + 1 + 16 * k + 200 < _; omega⟩
def wx (cref : Str → Value) (W : Str → L2.St → Hp → Prop) : WX := fun cls d σ H => d = none ∧ ∃ c, cls = cref c ∧ W c σ H
structure Fit (X : Cx) (W : Str → L2.St → Hp → Prop) (cref : Str → Value) (n : Nat) (G : Gam) (bs cs : List Str) (N : List Str) (sc : Scope) : Prop where
  gc : GC X.prog X.w X.K X.mg X.base cref n G bs cs
  hN : X.N = N
  nd : N.Nodup
  hsc : X.env.scope = sc
  calm : ("range" : Str) ∈ bs → X.calm = true
  un : X.A.units + 65 < cLine
  rm : (∃ f g, G f = some g) ∨ ("sorted" : Str) ∈ bs → Room n X.A ∧ Room n X.A.in1.in1
  rp : ("repr" : Str) ∈ bs → X.A.units + 190 < cLine
  gd : X.A.guards = some []
  tk : Takes X (wx cref W)

/-! ### small facts about the text -/
def noStar : Expr → Bool | .Starred .. => false | _ => true
theorem star_cons {e : Expr} {es : List Expr} {env : PySem.Env} (h : noStar e = true) : starEach (e :: es) env = (false, eval e env) :: starEach es env := by
  cases e <;> first | rfl | cases h
theorem star_any {env : PySem.Env} {pos : Pos} : ∀ {es : List Expr}, es.all noStar = true → (backTo pos (starEach es env)).any (·.1) = false
  | [], _ => rfl
  | e :: es, h => by
    simp only [List.all_cons, Bool.and_eq_true] at h
    rw [star_cons h.1]
    show (false || (backTo pos (starEach es env)).any (·.1)) = false
    rw [star_any h.2]
    rfl
theorem plainIx_of {e : Expr} (h : noSl e = true) : PlainIx e := fun o i => by
  cases e <;> first | rfl | cases h
section
variable {N bs cs : List Str}
theorem chk_noStar {ex : Ex} {sc : Scope} {e : Expr} (h : chkE N bs ex sc e = true) : noStar e = true := by
  cases e <;> first | rfl | (cases ex <;> simp [chkE, frzE, isLC] at h)
theorem chks_noStar : ∀ {es : Exs} {sc : Scope} {xs : List Expr}, chkEs N bs es sc xs = true → xs.all noStar = true
  | .nil, _, [], _ => rfl
  | .nil, _, _ :: _, h => by simp [chkEs] at h
  | .cons _ _, _, [], h => by simp [chkEs] at h
  | .cons e es, sc, x :: xs, h => by
    simp only [chkEs, Bool.and_eq_true] at h
    simp only [List.all_cons, Bool.and_eq_true]
    exact ⟨chk_noStar h.1, chks_noStar h.2⟩
theorem vis_of {sc : Scope} {x : Str} (h : visB sc x = true) : Vis sc x := by
  unfold visB at h
  unfold Vis
  split at h <;> simp_all
theorem gl_of {sc : Scope} {x : Str} (h : glB sc x = true) : sc.names.lookup x = some .globalImplicit := by
  unfold glB at h
  split at h <;> simp_all
theorem nm_of {x : Str} (h : nmB x = true) : (x == ("__debug__" : Str)) = false ∧ (x == ("__classdict__" : Str)) = false := by
  simpa only [nmB, Bool.and_eq_true, Bool.not_eq_true'] using h
theorem noSet_mark {op : CmpOp} {e : Expr} (h : noSet e = true) : behindInMarks op e = false := by
  cases e <;> first | rfl | cases h
theorem chk_noSet {ex : Ex} {sc : Scope} {e : Expr} (h : chkE N bs ex sc e = true) : noSet e = true := by
  cases e <;> first | rfl | (cases ex <;> simp [chkE, frzE, isLC] at h)
end

/-! ### readings -/
section
variable (K : PySem.W.Frag) (W : Str → L2.St → Hp → Prop) (G : Gam)
def tE (ex : Ex) : TE := fun σ H Q => ∃ F env, Rel K F H σ env ∧ Aft F H (fun c H' => W c σ H') (ev G ex env) fun x F' H' => ∀ v, Res K H F' H' v x → Q v H'
def tP (p : Pt) : TO := fun σ H Q => ∃ F env, Rel K F H σ env ∧ Aft F H (fun c H' => W c σ H') (evP G p env) fun x F' H' => Q x H'
def tEs (es : Exs) : TA := fun σ H Q => ∃ F env, Rel K F H σ env ∧ Aft F H (fun c H' => W c σ H') (evs G es env) fun l F' H' => ∀ vs, ResL K H F' H' vs l → Q vs H'
def tT (t : Te) : TT := fun σ H Q => ∃ F env, Rel K F H σ env ∧ Aft F H (fun c H' => W c σ H') (evT G t env) fun b F' H' => Q b H'
def tTA (t : Tes) : TT := fun σ H Q => ∃ F env, Rel K F H σ env ∧ Aft F H (fun c H' => W c σ H') (evTA G t env) fun b F' H' => Q b H'
def tTO (t : Tes) : TT := fun σ H Q => ∃ F env, Rel K F H σ env ∧ Aft F H (fun c H' => W c σ H') (evTO G t env) fun b F' H' => Q b H'
def tAn (es : Exs) : TE := fun σ H Q => ∃ F env, Rel K F H σ env ∧ Aft F H (fun c H' => W c σ H') (evAnd G es env) fun x F' H' => ∀ v, Res K H F' H' v x → Q v H'
def tOn (es : Exs) : TE := fun σ H Q => ∃ F env, Rel K F H σ env ∧ Aft F H (fun c H' => W c σ H') (evOr G es env) fun x F' H' => ∀ v, Res K H F' H' v x → Q v H'
end
/-- an iterator walks the items ds: Po keeps what it walks, Pi bears the items -/
structure ItOk (K : PySem.W.Frag) (Po Pi : Hp) (J : It) (ds : List D) : Prop where
  go : ∀ H1 (i : Nat), Same Po H1 → i < ds.length → J.go i H1
  stop : ∀ H1, Same Po H1 → J.stop ds.length H1
  yld : ∀ F1 H1 (i : Nat) x H2 d, Same Po H1 → Same F1 H1 → ds[i]? = some d → (Same Pi F1 ∨ scal d = true) → J.yld i H1 x H2 → ∃ F2, Ext F1 H1 F2 H2 ∧ Is K F2 d x
def tSrc (K : PySem.W.Frag) (W : Str → L2.St → Hp → Prop) (G : Gam) (src : Src) : TI := fun σ H R' => ∃ F env, Rel K F H σ env ∧ Aft F H (fun c H' => W c σ H') (evSrc G src env) fun s F' H' =>
  ∀ J, ItOk K H' (hp s.1.kid F' H') J s.2 → (s.1.dm = .sh → ∃ F2, Ext F H F2 H' ∧ ItOk K F2 F2 J s.2) → R' J H'
theorem pe_imp {X : Cx} {e : Expr} {t t' : TE} (h : PE X e t) (k : ∀ σ H Q, t' σ H Q → t σ H Q) : PE X e t' := ⟨fun pins s σ H Q I q => h.run pins s σ H Q I (k σ H Q q)⟩
theorem pt_imp {X : Cx} {e : Expr} {t t' : TT} (h : PT X e t) (k : ∀ σ H Q, t' σ H Q → t σ H Q) : PT X e t' := ⟨fun pins s σ H Q I q => h.run pins s σ H Q I (k σ H Q q)⟩
theorem pw_imp {X : Cx} {e : Expr} {t t' : TT} (h : PW X e t) (k : ∀ σ H Q, t' σ H Q → t σ H Q) : PW X e t' := ⟨fun wh pins s σ H Q I q => h.run wh pins s σ H Q I (k σ H Q q)⟩
theorem po_imp {X : Cx} {e : Option Expr} {t t' : TO} (h : PO X e t) (k : ∀ σ H Q, t' σ H Q → t σ H Q) : PO X e t' := ⟨fun pins s σ H Q I q => h.run pins s σ H Q I (k σ H Q q)⟩
theorem pa_imp {X : Cx} {e : List Expr} {t t' : TA} (h : PA X e t) (k : ∀ σ H Q, t' σ H Q → t σ H Q) : PA X e t' := ⟨fun pos pins s σ H Q I q => h.run pos pins s σ H Q I (k σ H Q q)⟩
theorem pi_imp {X : Cx} {tg e : Expr} {t t' : TI} (h : PI X tg e t) (k : ∀ σ H Q, t' σ H Q → t σ H Q) : PI X tg e t' := ⟨fun pins s σ H R I q => h.run pins s σ H R I (k σ H R q)⟩

section
variable {X : Cx} {W : Str → L2.St → Hp → Prop} {cref : Str → Value} {n : Nat} {G : Gam} {bs cs N : List Str} {sc : Scope}
theorem Fit.gl (f : Fit X W cref n G bs cs N sc) {x : Str} (h : glB sc x = true) : Gl X x := by
  show X.env.scope.names.lookup x = _
  rw [f.hsc]
  exact gl_of h
theorem Fit.glN (f : Fit X W cref n G bs cs N sc) {x : Str} (h : glN sc bs x = true) : Gl X x ∧ X.mg x = none := by
  simp only [PV.glN, Bool.and_eq_true, decide_eq_true_eq] at h
  exact ⟨f.gl h.1, f.gc.blt x h.2⟩

/-! ### the call of a def -/
theorem run_g {pins : List (Addr × Obj)} {σ : L2.St} {H : Hp} {s : Shared} {Q : VK} {us : List Value} {vs : List V} {f : Addr} {fd : FuncData} {ps : List Str} {sp : Sp} {E : L2.St → XK} {k : Nat} (F : FnG X.prog X.w X.K X.mg X.base k f fd ps sp) (hr : Room k X.A) (hg : X.A.guards = some [])
    (hb : Binds X.K fd ps []) (hx : PassesAt (L2.CX X.prog X.w) X σ (E σ)) (I : Inv X pins σ H s) (r : Vals vs us) (h : sp vs H Q (E σ)) : wpAny (model X.prog X.w) X.A (PySem.call (.ref f) us) (EP X pins σ Q) X.xe s := by
  have hl : us.length = ps.length := r.length.symm.trans (F.len _ _ _ _ h)
  have b := hb s us I.kIn (by simpa using hl)
  rw [List.append_nil] at b
  have run := F.run X.A X.stack s H ⟨us, []⟩ us vs Q (E σ) hr hg I.env0 b r h
  refine wpAny_call (codeAny_mono run fun res s' q => ?_)
  match res, q with
  | .error e, q => exact hx pins H s e s' I q
  | .ok (.ret u), q => exact I.after q
  | .ok .next, q => exact False.elim q
  | .ok .brk, q => exact False.elim q
  | .ok .cont, q => exact False.elim q
theorem run_gd {pins : List (Addr × Obj)} {σ : L2.St} {H : Hp} {s : Shared} {Q : VK} {us dus : List Value} {vs dvs : List V} {f : Addr} {fd : FuncData} {ps : List Str} {sp : Sp} {E : L2.St → XK} {k : Nat} (F : FnG X.prog X.w X.K X.mg X.base k f fd ps sp) (hr : Room k X.A) (hg : X.A.guards = some [])
    (hb : Binds X.K fd ps dus) (hd : Vals dvs dus) (hx : PassesAt (L2.CX X.prog X.w) X σ (E σ)) (I : Inv X pins σ H s) (r : Vals vs us) (h : sp (vs ++ dvs) H Q (E σ)) : wpAny (model X.prog X.w) X.A (PySem.call (.ref f) us) (EP X pins σ Q) X.xe s := by
  have r2 := r.append hd
  have hl : (us ++ dus).length = ps.length := r2.length.symm.trans (F.len _ _ _ _ h)
  have b := hb s us I.kIn hl
  have run := F.run X.A X.stack s H ⟨us, []⟩ (us ++ dus) (vs ++ dvs) Q (E σ) hr hg I.env0 b r2 h
  refine wpAny_call (codeAny_mono run fun res s' q => ?_)
  match res, q with
  | .error e, q => exact hx pins H s e s' I q
  | .ok (.ret u), q => exact I.after q
  | .ok .next, q => exact False.elim q
  | .ok .brk, q => exact False.elim q
  | .ok .cont, q => exact False.elim q
theorem pe_gd {f : Addr} {fd : FuncData} {ps : List Str} {sp : Sp} {dus : List Value} {dvs : List V} {E : L2.St → XK} {k : Nat} {x : Str} {p pos : Pos} {e : Expr} {es : List Expr} {t : TA} (F : FnG X.prog X.w X.K X.mg X.base k f fd ps sp) (hr : Room k X.A) (hg : X.A.guards = some []) (gx : Gl X x)
    (hm : X.mg x = some (.ref f)) (hk : PySem.W.keepIn X.K (.ref f) = true) (hb : Binds X.K fd ps dus) (hv : Vals dvs dus) (hx : ∀ σ, PassesAt (L2.CX X.prog X.w) X σ (E σ)) (ha : PA X (e :: es) t) (hs : (e :: es).all noStar = true) (hd : (x == ("__debug__" : Str)) = false) :
    PE X (.Call (.Name x p) (e :: es) [] pos) (fun σ H Q => t σ H fun vs H1 => sp (vs ++ dvs) H1 Q (E σ)) := by
  simp only [List.all_cons, Bool.and_eq_true] at hs
  refine ⟨fun pins s σ H Q I h => wpAny_Call_Name_kw (ld_glob I gx hm ?_ hd)⟩
  exact PySem.W.callWith_K (h₀ := X.base) I.ok.mod.kin hk (thn (ha.run pos pins s σ H _ I h) fun us s1 ⟨vs, H1, I1, r, q⟩ => ⟨I1.kIn, run_gd F hr hg hb hv (hx σ) I1 r q⟩) (star_cons hs.1) (star_any hs.2)
theorem pe_g {f : Addr} {fd : FuncData} {ps : List Str} {sp : Sp} {E : L2.St → XK} {k : Nat} {x : Str} {p pos : Pos} {e : Expr} {es : List Expr} {t : TA} (F : FnG X.prog X.w X.K X.mg X.base k f fd ps sp) (hr : Room k X.A) (hg : X.A.guards = some []) (gx : Gl X x)
    (hm : X.mg x = some (.ref f)) (hk : PySem.W.keepIn X.K (.ref f) = true) (hb : Binds X.K fd ps []) (hx : ∀ σ, PassesAt (L2.CX X.prog X.w) X σ (E σ)) (ha : PA X (e :: es) t) (hs : (e :: es).all noStar = true) (hd : (x == ("__debug__" : Str)) = false) :
    PE X (.Call (.Name x p) (e :: es) [] pos) (tCallS sp E t) := by
  simp only [List.all_cons, Bool.and_eq_true] at hs
  refine ⟨fun pins s σ H Q I h => wpAny_Call_Name_kw (ld_glob I gx hm ?_ hd)⟩
  exact PySem.W.callWith_K (h₀ := X.base) I.ok.mod.kin hk (thn (ha.run pos pins s σ H _ I h) fun us s1 ⟨vs, H1, I1, r, q⟩ => ⟨I1.kIn, run_g F hr hg hb (hx σ) I1 r q⟩) (star_cons hs.1) (star_any hs.2)
end

section
variable {X : Cx}
/-- f(.., k = v) -/
def tCallG (sp : Sp) (m : Nat) (E : L2.St → XK) (t tk : TA) : TE := fun σ H Q => t σ H fun vs H1 => tk σ H1 fun zs H2 => vs.length = m ∧ zs.length = 1 ∧ sp (vs ++ zs) H2 Q (E σ)
theorem pe_gk {f : Addr} {fd : FuncData} {ps : List Str} {sp : Sp} {E : L2.St → XK} {lv m : Nat} {x k : Str} {p pos kp : Pos} {e v : Expr} {es : List Expr} {t tk : TA} (F : FnG X.prog X.w X.K X.mg X.base lv f fd ps sp) (hr : Room lv X.A) (hg : X.A.guards = some []) (gx : Gl X x)
    (hm : X.mg x = some (.ref f)) (hk : PySem.W.keepIn X.K (.ref f) = true) (hb : KBn X.K fd ps m [k] (fun us ws => us ++ ws) (fun vs zs => vs ++ zs)) (hx : ∀ σ, PassesAt (L2.CX X.prog X.w) X σ (E σ)) (ha : PA X (e :: es) t) (hs : (e :: es).all noStar = true)
    (hkw : PK X [⟨some k, v, kp⟩] tk) (hd : (x == ("__debug__" : Str)) = false) : PE X (.Call (.Name x p) (e :: es) [⟨some k, v, kp⟩] pos) (tCallG sp m E t tk) := by
  simp only [List.all_cons, Bool.and_eq_true] at hs
  refine ⟨fun pins s σ H Q I h => wpAny_Call_Name_kw (ld_glob I gx hm ?_ hd)⟩
  refine PySem.W.callWith_KW (h₀ := X.base) I.ok.mod.kin hk rfl (thn (ha.run pos pins s σ H _ I h) fun us s1 ⟨vs, H1, I1, r, q⟩ => ?_) (by rw [star_any (es := e :: es) (by simp only [List.all_cons, Bool.and_eq_true]; exact hs)]; rfl) (star_cons hs.1)
  refine thn (hkw.run pos pins s1 σ H1 _ I1 q) fun ws s2 ⟨zs, H2, I2, rz, l1, l2, q2⟩ => ⟨I2.kIn, ?_⟩
  show wpAny _ _ (PySem.call (.ref f) us ([k].zip ws)) _ _ _
  have hw : ws.length = 1 := by rw [← rz.length]; exact l2
  have hu : us.length = m := by rw [← r.length]; exact l1
  have run := F.run X.A X.stack s2 H2 ⟨us, [k].zip ws⟩ (us ++ ws) (vs ++ zs) Q (E σ) hr hg I2.env0 (hb.to s2 us ws I2.kIn hu hw) (hb.rel r rz) q2
  refine wpAny_call (codeAny_mono run fun res s' qq => ?_)
  match res, qq with
  | .error e, qq => exact hx σ pins H2 s2 e s' I2 qq
  | .ok (.ret u), qq => exact I2.after qq
  | .ok .next, qq => exact False.elim qq
  | .ok .brk, qq => exact False.elim qq
  | .ok .cont, qq => exact False.elim qq
end
section
variable {K : PySem.W.Frag}
theorem ResL.snoc {H F1 H1 F2 H2 : Hp} {x : TD} {v : V} : ∀ {l : List TD} {vs : List V}, ResL K H F1 H1 vs l → Ext F1 H1 F2 H2 → Res K H F2 H2 v x → ResL K H F2 H2 (vs ++ [v]) (l ++ [x])
  | [], _, h, _, r => by
    have h' : _ = [] := h
    subst h'
    exact ⟨v, [], rfl, r, rfl⟩
  | y :: l, _, ⟨u, ws, e, h1, h2⟩, z, r => by
    subst e
    exact ⟨u, ws ++ [v], rfl, h1.mono z, ResL.snoc h2 z r⟩
end
/-! ### arguments: new roots frozen -/
section
variable {K : PySem.W.Frag}
theorem ResL.mono {H F' H' F2 H2 : Hp} : ∀ {vs : List V} {l : List TD}, ResL K H F' H' vs l → Ext F' H' F2 H2 → ResL K H F2 H2 vs l
  | _, [], h, _ => h
  | _, x :: l, ⟨v, ws, e, h1, h2⟩, z => ⟨v, ws, e, h1.mono z, ResL.mono h2 z⟩
theorem ResL.back {H H0 F' H' : Hp} (s : Same H0 H) : ∀ {vs : List V} {l : List TD}, ResL K H F' H' vs l → ResL K H0 F' H' vs l
  | _, [], h => h
  | _, x :: l, ⟨v, ws, e, h1, h2⟩ => ⟨v, ws, e, h1.back s, ResL.back s h2⟩
theorem ResL.is {H F' H' : Hp} (s : Same F' H') : ∀ {vs : List V} {l : List TD}, ResL K H F' H' vs l → IsL K H' (l.map (·.2)) vs
  | _, [], h => by
    have h' : _ = [] := h
    subst h'
    exact .nil
  | _, x :: l, ⟨v, ws, e, h1, h2⟩ => by
    subst e
    exact .cons (h1.is s) (ResL.is s h2)
/-- one new root more in the frozen part, whether it is there already or not -/
theorem dm_one {F H F' H' Fa : Hp} {v : V} {x : TD} (h : Res K H F' H' v x) (c : x.1.dm = .sh) (e : Ext F H Fa H') (s : Same F' Fa) : ∃ F2, Ext F H F2 H' ∧ Same Fa F2 ∧ Is K F2 x.2 v := by
  obtain ⟨t, d⟩ := x
  cases t with
  | sh => exact ⟨Fa, e, Same.refl _, Is.mono s h⟩
  | pk => cases c
  | rt => cases c
  | ow =>
    obtain ⟨p, rfl, n, q⟩ := h
    have fin : ∀ o, H' p = some o → (∀ F2, Same F' F2 → F2 p = some o → Is K F2 d (.ref p)) → ∃ F2, Ext F H F2 H' ∧ Same Fa F2 ∧ Is K F2 d (.ref p) := fun o ho k => by
      cases hF : Fa p with
      | none =>
        refine ⟨upd Fa p o, ⟨e.f.trans (same_upd hF), e.h, same_updF e.s ho, fun b z => ?_⟩, same_upd hF, k _ (s.trans (same_upd hF)) upd_same⟩
        by_cases c : b = p
        · subst c
          exact .inr n
        · rw [upd_ne c] at z
          exact e.n b z
      | some u =>
        have := e.s p u hF
        rw [ho] at this
        cases this
        exact ⟨Fa, e, Same.refl _, k Fa s hF⟩
    cases d with
    | list ds =>
      obtain ⟨_, vs, h1, h2⟩ := q
      refine fin _ h1 fun F2 s2 h3 => ?_
      simp only [Is]
      exact ⟨p, vs, rfl, .of h3, h2.mono s2⟩
    | dict ds =>
      obtain ⟨_, vs, h1, h2⟩ := q
      refine fin _ h1 fun F2 s2 h3 => ?_
      simp only [Is]
      exact ⟨p, vs, rfl, h3, h2.mono s2⟩
    | _ => exact q.elim
  | tr =>
    obtain ⟨fp, n, q⟩ := h
    refine ⟨frzAt Fa H' fp, ⟨e.f.trans (frzAt_same e.s), e.h, frzAt_sub e.s, fun b z => ?_⟩, frzAt_same e.s, q.frozen⟩
    by_cases c : b ∈ fp
    · exact .inr (n b c)
    · rw [frzAt_out c] at z
      exact e.n b z
theorem jnL_cons {x : TD} {l : List TD} (j : jnL (x :: l) = .sh) : x.1.dm = .sh ∧ jnL l = .sh := by
  unfold jnL at j
  cases a : x.1.dm <;> cases b : jnL l <;> simp [a, b, Tag.jn] at j ⊢
theorem ResL.dm {F H F' H' : Hp} : ∀ {vs : List V} {l : List TD} {Fa : Hp}, ResL K H F' H' vs l → jnL l = .sh → Ext F H Fa H' → Same F' Fa → ∃ F2, Ext F H F2 H' ∧ Same Fa F2 ∧ IsL K F2 (l.map (·.2)) vs
  | _, [], Fa, h, _, e, s => by
    have h' : _ = [] := h
    subst h'
    exact ⟨Fa, e, Same.refl _, .nil⟩
  | _, x :: l, Fa, ⟨v, ws, e1, h1, h2⟩, j, e, s => by
    subst e1
    obtain ⟨j1, j2⟩ := jnL_cons j
    obtain ⟨F2, e2, s2, q2⟩ := dm_one h1 j1 e s
    obtain ⟨F3, e3, s3, q3⟩ := ResL.dm h2 j2 e2 (s.trans s2)
    exact ⟨F3, e3, s2.trans s3, .cons (Is.mono s3 q2) q3⟩
end
end PV

/-! PvKey: sorted(xs, key=f), f a def that keeps a promise. -/
namespace PV
open PySem PySem.Spec PyProof.Rows L2
section
variable {X : Cx} {pins : List (Addr × Obj)} {σ : L2.St} {H : Hp} {s : Shared}
structure Frs (X : Cx) (pins : List (Addr × Obj)) (a : Addr) : Prop where
  sz : X.s_0.heap.objs.size ≤ a
  lo : a ≠ X.env.locals
  ce : ∀ x c, X.env.cells.lookup x = some c → c ≠ a
  pi : ∀ p ∈ X.pn ++ pins, p.1 ≠ a
  fs : a ∉ X.fs
theorem frs_of (I : Inv X pins σ H s) {a : Addr} (h : s.heap.objs.size ≤ a) : Frs X pins a := by
  have no : ∀ b : Addr, b < s.heap.objs.size → b ≠ a := fun b hb z => Nat.lt_irrefl _ (Nat.lt_of_lt_of_le (z ▸ hb) h)
  refine ⟨Nat.le_trans I.sz h, (no _ I.lt).symm, fun x c e => ?_, fun p hp => no _ (Heap.lt_size (I.pin p hp).1), I.nofs h⟩
  obtain ⟨v, o, ho, _⟩ := I.cell x c e
  exact no _ (Heap.lt_size ho)
/-- two untracked things of ours have changed, one of them is tracked now -/
theorem inv_two {a k : Addr} {o : HO} {h' : Heap} {t' : Nat} (I : Inv X pins σ H s) (fa : Frs X pins a) (fk : Frs X pins k) (na : H a = none) (nk : H k = none) (kp : ∀ b u, b ≠ a → b ≠ k → s.heap.get? b = some u → h'.get? b = some u)
    (new : ObjOk X.prog X.w (upd H a o) h' a o) : Inv X pins σ (upd H a o) { s with heap := h', toks := t' } := by
  have nt : ∀ b u, H b = some u → b ≠ a ∧ b ≠ k := fun b u e => ⟨fun z => (by rw [z, na] at e; cases e), fun z => (by rw [z, nk] at e; cases e)⟩
  refine I.step (g' := s.gens) (d' := s.drawn) (ch := [a, k]) (fun b hb => ?_) (fun b o _ _ hc e _ => kp b o (fun z => hc (by simp [z])) (fun z => hc (by simp [z])) e) (fun b o _ _ hc e _ => ⟨o.slots, kp b o (fun z => hc (by simp [z])) (fun z => hc (by simp [z])) e⟩)
    (fun b _ hc _ n => by rw [upd_ne (fun z => hc (by simp [z]))]; exact n) (fun b o hc e => ⟨o, kp b o (fun z => hc (by simp [z])) (fun z => hc (by simp [z])) e⟩)
    (fun b _ e => by rw [upd_ne (nt b _ e).1]; exact e) (fun b _ _ e => by rw [upd_ne (nt b _ e).1]; exact e) (fun b ps e => ⟨#[], by rw [upd_ne (nt b _ e).1, e]; simp⟩) (fun m hm => ?_) (fun b u e => ?_) I.bare
  · simp only [List.mem_cons, List.not_mem_nil, or_false] at hb
    rcases hb with rfl | rfl
    · exact ⟨.inr fa.sz, fa.lo, fa.ce, fa.pi⟩
    · exact ⟨.inr fk.sz, fk.lo, fk.ce, fk.pi⟩
  · obtain ⟨o, es, ep, ho, r⟩ := hm
    exact ⟨o, es, ep, kp _ o (Ne.symm fa.lo) (Ne.symm fk.lo) ho, r⟩
  · by_cases c : b = a
    · subst c
      rw [upd_same] at e
      cases e
      exact new
    · rw [upd_ne c] at e
      refine (I.hok b u e).stay (fun c v hc q => ?_) (fun b e => by rw [upd_ne (nt b _ e).1]; exact e) fun b _ e => by rw [upd_ne (nt b _ e).1]; exact e
      have : c ≠ a ∧ c ≠ k := by
        rcases hc with z | z
        · rw [z]; exact nt b u e
        · exact nt c _ z
      exact kp c v this.1 this.2 q
end
section
variable {X : Cx} {pins : List (Addr × Obj)} {σ : L2.St} {H : Hp} {s : Shared} {cref : Str → Value} {n : Nat} {g : List D → R TD} {G : Gam} {f l : Addr} {fd : FuncData} {ps : List Str}
theorem each_map {α β γ : Type} {R : α → γ → Prop} (f : β → γ) : ∀ {as : List α} {bs : List β}, PySem.W.EachIs (fun a b => R a (f b)) as bs → PySem.W.EachIs R as (bs.map f)
  | _, _, .nil => .nil
  | _, _, .cons h t => .cons h (each_map f t)
theorem sortedK {its : List Value} {ws : List V} {xs ks : List D} {Q : VK} (I : Inv X pins σ H s) (hl : s.heap.IsList l its.toArray) (rv : Vals ws its) (hz : ws.length ≤ sizeLine) (hI : IsL X.K H xs ws)
    (F : FnG X.prog X.w X.K X.mg X.base n f fd ps (spD X.K cref ps.length g)) (hb : Binds X.K fd ps []) (hps : ∀ ds, g ds ≠ .stuck → ds.length = ps.length) (hr : Room n X.A.in1.in1) (hg : X.A.guards = some [])
    (hk : ∀ (i : Nat) (d : D), xs[i]? = some d → ∃ (t : Tag) (k : D), ks[i]? = some k ∧ g [d] = .ok (t, k)) (lk : ks.length = xs.length) (o : sortOk ks = true)
    (q : ∀ H' p, Same H H' → H p = none → H' p = none → Q (.ref p) (upd H' p (.lst (sortV ws ks)))) :
    wpAny (model X.prog X.w) X.A (PySem.call (.builtin "sorted") [.ref l] [(Str.ofString "key", .ref f)]) (EP X pins σ Q) X.xe s := by
  have hlen := hI.len
  have hil := rv.length
  obtain ⟨o1, o2, o3⟩ := sortOk_of o
  have hL : its.length ≤ sizeLine := by omega
  refine PySem.W.sorted_of_sort hl hL (PyProof.Rows.ksk_s1 _ _) (fun _ => PyProof.Rows.ksk_l1 _ _) fun E' => ?_
  rw [PyProof.Rows.ksk_t1]
  have ho := PySem.W.copyHeap_at s.heap its
  have fa : Frs X pins (s.heap.objs.size + 1) := frs_of I (Nat.le_succ _)
  have na0 : H (s.heap.objs.size + 1) = none := I.hok.fresh (Nat.le_succ _)
  have nolda : ∀ b o, s.heap.get? b = some o → b ≠ s.heap.objs.size + 1 := fun b o e => Nat.ne_of_lt (Nat.lt_succ_of_lt (Heap.lt_size e))
  have old0 : ∀ b o, s.heap.get? b = some o → (PySem.W.copyHeap s.heap its).get? b = some o := fun b o e => PySem.W.copyHeap_old e
  have hs0 : s.heap.objs.size ≤ (PySem.W.copyHeap s.heap its).objs.size := Nat.le_of_lt (Nat.lt_of_succ_lt (Heap.lt_size ho))
  generalize s.heap.objs.size + 1 = a at ho fa na0 nolda
  have ha : a < (PySem.W.copyHeap s.heap its).objs.size := Heap.lt_size ho
  generalize PySem.W.copyHeap s.heap its = h0 at ho old0 ha hs0
  obtain ⟨e1, ho1⟩ : ∃ e1, (h0.update a (Obj.mapSeq fun _ => (#[] : Array Value))).get? a = some (seqObj "list" #[] e1) := ⟨_, get?_update_seq ho fun _ => #[]⟩
  unfold PyProof.Rows.ksk_tree
  refine wpAny_bind (listItems_at ho rfl ?_)
  refine wpAny_bind (listUpdate_at ho rfl ?_ (by rw [List.size_toArray]; exact hL) (Nat.zero_le _))
  refine wpAny_bind (seqEpoch_at ho1 rfl ?_)
  refine wpAny_bind (wpAny_newTuple ?_ (by show its.length ≤ _; exact hL))
  refine wpAny_bind (wpAny_newList ?_ (Nat.zero_le _))
  refine wpAny_holding ?_
  have old1 : ∀ b o, s.heap.get? b = some o → (PySem.W.sortingHeap h0 a its).get? b = some o := fun b o e => PySem.W.sortingHeap_old (nolda b o e) (old0 b o e)
  have hkS : ((h0.update a (Obj.mapSeq fun _ => (#[] : Array Value))).push (seqObj "tuple" its.toArray 0)).objs.size = h0.objs.size + 1 := by rw [size_push', Heap.size_update]
  have I1 : Inv X pins σ H { s with heap := PySem.W.sortingHeap h0 a its } := I.kept (t' := s.toks) old1
  have g1 : (PySem.W.sortingHeap h0 a its).get? a = some (seqObj "list" #[] e1) := Heap.get?_push_of_some _ (Heap.get?_push_of_some _ ho1)
  have g2 : (PySem.W.sortingHeap h0 a its).get? ((h0.update a (Obj.mapSeq fun _ => (#[] : Array Value))).push (seqObj "tuple" its.toArray 0)).objs.size = some (seqObj "list" #[] 0) := Heap.get?_push_size _ rfl
  show wpAny (model X.prog X.w) X.A.in1.in1 (PyProof.Rows.ksk_rest a (.ref f) false its.toArray e1 (.ref ((h0.update a (Obj.mapSeq fun _ => (#[] : Array Value))).push (seqObj "tuple" its.toArray 0)).objs.size)) _ _ { s with heap := PySem.W.sortingHeap h0 a its }
  have nka : ((h0.update a (Obj.mapSeq fun _ => (#[] : Array Value))).push (seqObj "tuple" its.toArray 0)).objs.size ≠ a := by rw [hkS]; exact Nat.ne_of_gt (Nat.lt_succ_of_lt ha)
  have fk : Frs X pins ((h0.update a (Obj.mapSeq fun _ => (#[] : Array Value))).push (seqObj "tuple" its.toArray 0)).objs.size := frs_of I (by rw [hkS]; exact Nat.le_succ_of_le hs0)
  have nk0 : H ((h0.update a (Obj.mapSeq fun _ => (#[] : Array Value))).push (seqObj "tuple" its.toArray 0)).objs.size = none := I.hok.fresh (by rw [hkS]; exact Nat.le_succ_of_le hs0)
  clear hkS
  generalize ((h0.update a (Obj.mapSeq fun _ => (#[] : Array Value))).push (seqObj "tuple" its.toArray 0)).objs.size = kS at g2 nka fk nk0
  generalize PySem.W.sortingHeap h0 a its = h1 at old1 I1 g1 g2
  unfold PyProof.Rows.ksk_rest
  refine wpAny_bind (wpAny_rule ?_)
  first
    | rw [List.forIn_toArray]
    | (rw [← Array.forIn_toList]; simp only [List.toList_toArray])
    | rw [← Array.forIn_toList]
  refine wpAny_bind (ksk_fold (fun i s' => ∃ H' kA e kvs, Inv X pins σ H' s' ∧ Same H H' ∧ H' a = none ∧ H' kS = none ∧ s'.heap.get? kS = some (seqObj "list" kA e) ∧ s'.heap.get? a = some (seqObj "list" #[] e1) ∧ Vals kvs kA.toList ∧ IsL X.K H' (ks.take i) kvs) its 0 _
    ⟨H, #[], 0, [], I1, Same.refl _, na0, nk0, g2, g1, .nil, by rw [List.take_zero]; exact .nil⟩ ?step ?done)
  case step =>
    rintro j x s' hx ⟨H', kA, e, kvs, I', sm, na, nk, gk, ga, rk, ik⟩
    simp only [Nat.zero_add] at ik ⊢
    have hj : j < its.length := (List.getElem?_eq_some_iff.mp hx).1
    obtain ⟨v, hv, rvx⟩ : ∃ v, ws[j]? = some v ∧ RelV v x := by
      have hw : j < ws.length := by omega
      obtain ⟨u, h1, h2⟩ := rv.get (List.getElem?_eq_getElem hw)
      rw [hx] at h1
      cases h1
      exact ⟨_, List.getElem?_eq_getElem hw, h2⟩
    obtain ⟨d, hd, isd⟩ := hI.getV hv
    obtain ⟨t, k, hkj, hgd⟩ := hk j d hd
    have Ip : Inv X ((a, seqObj "list" #[] e1) :: (kS, seqObj "list" kA e) :: pins) σ H' s' := I'.pins_of fun p hp => by
      rcases List.mem_cons.mp hp with rfl | hp
      · exact ⟨ga, na, fa.lo, fa.fs, fun v z => by cases z⟩
      · rcases List.mem_cons.mp hp with rfl | hp
        · exact ⟨gk, nk, fk.lo, fk.fs, fun v z => by cases z⟩
        · exact I'.pin p (List.mem_append_right _ hp)
    have hz2 : kA.size ≤ its.length := by
      have q1 : kvs.length = kA.size := rk.length.trans (Array.length_toList ..)
      have q2 : kvs.length = min j ks.length := by rw [ik.len, List.length_take]
      rw [← q1, q2]
      exact Nat.le_trans (Nat.min_le_left _ _) (Nat.le_of_lt hj)
    have e0 : L2.Env0 X.prog X.w X.K X.mg X.base X.A.in1.in1 X.stack s' H' := I'.env0.in1.in1
    have hps1 : ps.length = 1 := (hps [d] (by rw [hgd]; intro z; cases z)).symm
    have hbt := hb s' [x] I'.kIn (by simpa using hps1.symm)
    rw [List.append_nil] at hbt
    have run := F.run X.A.in1.in1 X.stack s' H' ⟨[x], []⟩ [x] [v] (fun v' H2 => Same H' H2 ∧ Is X.K H2 k v') (fun _ _ _ => False) hr hg e0 hbt (.cons rvx .nil) ⟨by simpa using hps1.symm, H', [d], Same.refl _, .one (isd.mono sm), by
      rw [hgd]
      exact fun v' F2 H2 e4 r4 => ⟨e4.h, r4.is e4.s⟩⟩
    refine wpAny_bind (wpAny_attempt (wpAny_call (codeAny_mono run fun res s2 qq => ?_)))
    match res, qq with
    | .error e, qq =>
      obtain ⟨_, _, _, _, _, _, _, _, _, _, _, _, z⟩ := qq
      exact z.elim
    | .ok .next, qq => exact False.elim qq
    | .ok .brk, qq => exact False.elim qq
    | .ok .cont, qq => exact False.elim qq
    | .ok (.ret u), qq =>
    obtain ⟨v', H2, I2, r2, sm2, ik2⟩ := Ip.after qq
    have pa := I2.pin (a, seqObj "list" #[] e1) (List.mem_append_right _ List.mem_cons_self)
    have pk := I2.pin (kS, seqObj "list" kA e) (List.mem_append_right _ (List.mem_cons_of_mem _ List.mem_cons_self))
    have nk2 : s2.heap.get? kS = some (seqObj "list" kA e) := pk.1
    have na2 : s2.heap.get? a = some (seqObj "list" #[] e1) := pa.1
    have s1 := Heap.SameBut.update s2.heap kS (Obj.mapSeq (·.push u))
    obtain ⟨c2, hc2⟩ : ∃ c2, (s2.heap.update kS (Obj.mapSeq (·.push u))).get? kS = some (seqObj "list" (kA.push u) c2) := ⟨_, get?_update_seq nk2 (·.push u)⟩
    refine wpAny_bind (listUpdate_at nk2 rfl ?_ (Nat.le_trans hz2 hL) (Nat.le_trans (Nat.le_of_eq (Array.size_push ..)) (Nat.succ_le_succ (Nat.le_trans hz2 hL))))
    have I3 : Inv X pins σ H2 s2 := I2.pins_of fun p hp => I2.pin p (List.mem_append_right _ (List.mem_cons_of_mem _ (List.mem_cons_of_mem _ hp)))
    have I4 := I3.turned (t' := s2.toks) (it := kS) (h' := s2.heap.update kS (Obj.mapSeq (·.push u))) (fun b o hb e => (s1.2 b hb).trans e) pk.2.1 fk.lo (.inr fk.sz) fk.ce fk.pi
    refine wpAny_pure ⟨rfl, H2, kA.push u, c2, kvs ++ [v'], I4, sm.trans sm2, pa.2.1, pk.2.1, hc2, (s1.2 a nka.symm).trans na2, ?_, ?_⟩
    · rw [Array.toList_push]
      exact rk.append (.cons r2 .nil)
    · rw [show ks.take (j + 1) = ks.take j ++ [k] from by rw [List.take_add_one, hkj]; rfl]
      exact (ik.mono sm2).app (.one ik2)
  case done =>
    rintro s' ⟨H', kA, e, kvs, I', sm, na, nk, gk, ga, rk, ik⟩
    rw [Nat.zero_add, List.take_of_length_le (by omega)] at ik
    have hks : kA.toList.length = ks.length := rk.length.symm.trans ik.len
    have hsz : kA.size = its.length := by
      rw [← Array.length_toList, hks]
      omega
    have sn := zip_snd (xs := kA.toList) (ys := ks) hks
    have hk' : PySem.W.EachIs (fun v k => ∃ as, Reads s'.heap v k as) kA.toList ks := by
      have := each_of (P := fun u p => ∃ as, Reads s'.heap u p.2 as) rk ik.len fun v u d ru hm => by
        have hi := isL_zip ik _ hm
        have cl : d.canLay0 = true := (o3 d (List.of_mem_zip hm).2).2
        exact Dp.reads I' d v u (hi.dp cl) ru
      have e2 : (kvs.zip ks).map (·.2) = ks := zip_snd ik.len
      have := each_map (R := fun (u : Value) (d : D) => ∃ as, Reads s'.heap u d as) (fun p : V × D => p.2) this
      rwa [e2] at this
    try dsimp only
    refine wpAny_bind (listItems_at gk rfl ?_)
    obtain ⟨h2, r1, r2⟩ := L2.restrict s'.heap fun b => decide (b ≠ kS)
    have kp : PySem.W.KeepsBut a h2 s'.heap := fun b o hb eo => by
      by_cases c : b = kS
      · rw [c, r2 kS (by simp)] at eo
        cases eo
      · rw [← r1 b (by simpa using c)]
        exact eo
    refine PySem.W.keyH_end (κ := PySem.W.dataKind s'.heap ks) (h₁ := h2) kp (r2 kS (by simp)) gk ga nka (PySem.W.SortsAt.data (s := s') hk' o1 o2 fun d hd => ?_) hsz hL fun h3 tk3 c kp3 g3 => ⟨rfl, ?_⟩
    · have := (o3 d hd).1
      have := hr.un
      omega
    · have hb0 : (ws.zip ks).map (·.2) = ks := zip_snd (by omega)
      have ko : PySem.W.KeyedOut false ((ws.zip ks).map fun p : V × D => p.2) its (PySem.W.sortVals (PySem.W.dataKind s'.heap ks) false kA.toList its) := by
        rw [hb0]
        exact ⟨s'.heap, kA.toList, o1, rfl, hk'⟩
      have eo := PySem.W.keyedOut_each (fun p : V × D => p.2) ko (each_of (P := fun u p => RelV p.1 u) rv (by omega) fun v u d ru _ => ru)
      refine ⟨.ref a, _, inv_two (t' := tk3) (o := .lst (sortV ws ks)) I' fa fk na nk (fun b u h1 h2 e => kp3 b u h1 (by rw [r1 b (by simpa using h2)]; exact e)) ⟨?_, _, c, vals_each eo, g3⟩, rfl, q H' a sm na0 na⟩
      unfold sortV
      rw [List.length_map, List.length_mergeSort, List.length_zip]
      omega
theorem keysOf_spec {g : List D → R TD} : ∀ {xs ks : List D}, keysOf g xs = some ks → ks.length = xs.length ∧ ∀ (i : Nat) (d : D), xs[i]? = some d → ∃ (t : Tag) (k : D), ks[i]? = some k ∧ g [d] = .ok (t, k)
  | [], ks, h => by
    cases h
    exact ⟨rfl, fun i d e => by simp at e⟩
  | x :: r, ks, h => by
    unfold keysOf at h
    cases hg : g [x] with
    | ok p =>
      obtain ⟨t, k⟩ := p
      rw [hg] at h
      have h : (keysOf g r).map (k :: ·) = some ks := h
      cases hr : keysOf g r with
      | none => rw [hr] at h; cases h
      | some q =>
        rw [hr] at h
        cases h
        obtain ⟨l, f⟩ := keysOf_spec hr
        refine ⟨by simp [l], fun i d e => ?_⟩
        match i, e with
        | 0, e =>
          cases e
          exact ⟨t, k, rfl, hg⟩
        | i + 1, e => exact f i d e
    | exc c => rw [hg] at h; cases h
    | stuck => rw [hg] at h; cases h
theorem evSrk_exc (G : Gam) (f : Str) (x : TD) : ∀ c, evSrk G f x ≠ .exc c := by
  intro c h
  obtain ⟨t, d⟩ := x
  cases d with
  | list xs =>
    simp only [evSrk] at h
    cases hG : G f with
    | none => rw [hG] at h; cases h
    | some g =>
      rw [hG] at h
      cases hk : keysOf g xs with
      | none => simp only [hk] at h; cases h
      | some ks =>
        simp only [hk] at h
        cases ho : sortOk ks <;> rw [ho] at h <;> cases h
  | _ => simp only [evSrk] at h; cases h
/-- what sorted(xs, key=f) asks -/
def rSrk (K : PySem.W.Frag) (G : Gam) (f : Str) (fa : Addr) : List V → List V → Hp → VK → Prop := fun vs zs H Q => zs = [.ref fa] ∧ ∃ F v x, vs = [v] ∧ Same F H ∧ Res K H0 F H v x ∧ Give K F H (evSrk G f x) Q
theorem zip3a : ∀ {ws : List V} {xs ks : List D}, ws.length = xs.length → ws.zip ks = ((ws.zip xs).zip ks).map fun p => (p.1.1, p.2)
  | [], [], _, _ => by simp
  | [], _ :: _, _, h => by simp at h
  | _ :: _, [], _, h => by simp at h
  | _ :: _, _ :: _, [], _ => by simp
  | w :: ws, x :: xs, k :: ks, h => by
    rw [List.zip_cons_cons, List.zip_cons_cons, List.zip_cons_cons, List.map_cons, ← zip3a (by simpa using h)]
theorem zip3b : ∀ {ws : List V} {xs ks : List D}, ws.length = xs.length → xs.zip ks = ((ws.zip xs).zip ks).map fun p => (p.1.2, p.2)
  | [], [], _, _ => by simp
  | [], _ :: _, _, h => by simp at h
  | _ :: _, [], _, h => by simp at h
  | _ :: _, _ :: _, [], _ => by simp
  | w :: ws, x :: xs, k :: ks, h => by
    rw [List.zip_cons_cons, List.zip_cons_cons, List.zip_cons_cons, List.map_cons, ← zip3b (by simpa using h)]
theorem isL_sort {H : Hp} {xs ks : List D} {ws : List V} (h : IsL X.K H xs ws) : IsL X.K H (sortV xs ks) (sortV ws ks) := by
  have hl := h.len
  unfold sortV
  rw [zip3a (xs := xs) hl, zip3b (ws := ws) hl]
  rw [← List.map_mergeSort (r := PySem.W.dataLe false fun p : (V × D) × D => p.2) (s := PySem.W.dataLe false fun p : V × D => p.2) (f := fun p : (V × D) × D => (p.1.1, p.2)) (fun _ _ _ _ => rfl),
    ← List.map_mergeSort (r := PySem.W.dataLe false fun p : (V × D) × D => p.2) (s := PySem.W.dataLe false fun p : D × D => p.2) (f := fun p : (V × D) × D => (p.1.2, p.2)) (fun _ _ _ _ => rfl)]
  have mem : ∀ p ∈ (((ws.zip xs).zip ks).mergeSort (PySem.W.dataLe false fun p : (V × D) × D => p.2)).map (·.1), Is X.K H p.2 p.1 := fun p hp => by
    obtain ⟨q, hq, rfl⟩ := List.mem_map.mp hp
    have := (List.mergeSort_perm _ _).mem_iff.mp hq
    exact isL_zip h _ (List.of_mem_zip this).1
  have := isL_of mem
  rw [List.map_map, List.map_map] at this
  rw [List.map_map, List.map_map]
  exact this
theorem cr_srk {k : Nat} {fa : Addr} {x : Str} {gg : List D → R TD} (hG : G x = some gg) (F : FnG X.prog X.w X.K X.mg X.base k fa fd ps (spD X.K cref ps.length gg)) (hb : Binds X.K fd ps []) (hps : ∀ ds, gg ds ≠ .stuck → ds.length = ps.length)
    (hr : Room k X.A.in1.in1) (hg : X.A.guards = some []) : CallRK X (.builtin "sorted") [Str.ofString "key"] (rSrk X.K G x fa) := by
  intro pins s σ H vs zs us ws Q I r rz h
  obtain ⟨rfl, F1, v, y, rfl, sm, rv, gv⟩ := h
  obtain ⟨u, rfl, ru⟩ := vals1 r
  obtain ⟨w1, rfl, e1⟩ := vals1 rz
  obtain rfl : w1 = Value.ref fa := e1
  obtain ⟨t, d⟩ := y
  cases d with
  | list xs =>
    simp only [evSrk] at gv
    rw [hG] at gv
    cases hk : keysOf gg xs with
    | none => simp only [hk] at gv; exact gv.elim
    | some ks =>
      simp only [hk] at gv
      obtain ⟨g1, g2⟩ := gv.guard
      obtain ⟨lk, hki⟩ := keysOf_spec hk
      obtain ⟨a, vs, rfl, h1, h2⟩ := rv.list sm
      obtain ⟨its, rw', pl, hz⟩ := I.list h1.seq
      obtain rfl : u = Value.ref a := ru
      refine sortedK I pl.isList rw' hz (h2.mono (hp_same sm)) F hb hps hr hg hki lk g1 fun H' p sm2 np np' => ?_
      refine g2 (.ref p) F1 _ ⟨Same.refl _, sm2.trans (same_upd np'), sm.trans (sm2.trans (same_upd np')), fun b z => .inl z⟩ ?_
      have hI := isL_sort (X := X) (ks := ks) h2
      rcases kid_cases t with e | e
      · rw [e] at hI ⊢
        exact ⟨p, rfl, np, sm.free np, _, upd_same, hI⟩
      · rw [e] at hI ⊢
        show Is X.K (upd H' p (.lst _)) (.list _) (.ref p)
        simp only [Is]
        exact ⟨p, _, rfl, .of upd_same, hI.mono (sm2.trans (same_upd np'))⟩
  | _ => simp only [evSrk] at gv; exact gv.elim
/-- what sorted(xs, key=f) asks, told by the items themselves -/
def rSrt (K : PySem.W.Frag) (G : Gam) (f : Str) (fa : Addr) : List V → List V → Hp → VK → Prop := fun vs zs H Q => zs = [.ref fa] ∧ ∃ l ws xs ks g, vs = [.ref l] ∧ H l = some (.lst ws) ∧ IsL K H xs ws ∧ G f = some g ∧ keysOf g xs = some ks ∧ sortOk ks = true ∧
  ∀ H' p, Same H H' → H p = none → H' p = none → Q (.ref p) (upd H' p (.lst (sortV ws ks)))
theorem cr_srt {k : Nat} {fa : Addr} {x : Str} {gg : List D → R TD} (hG : G x = some gg) (F : FnG X.prog X.w X.K X.mg X.base k fa fd ps (spD X.K cref ps.length gg)) (hb : Binds X.K fd ps []) (hps : ∀ ds, gg ds ≠ .stuck → ds.length = ps.length)
    (hr : Room k X.A.in1.in1) (hg : X.A.guards = some []) : CallRK X (.builtin "sorted") [Str.ofString "key"] (rSrt X.K G x fa) := by
  intro pins s σ H vs zs us ws Q I r rz h
  obtain ⟨rfl, l, vs2, xs, ks, g, rfl, h1, h2, h3, hk, g1, q⟩ := h
  rw [hG] at h3
  cases h3
  obtain ⟨u, rfl, ru⟩ := vals1 r
  obtain ⟨w1, rfl, e1⟩ := vals1 rz
  obtain rfl : w1 = Value.ref fa := e1
  obtain ⟨lk, hki⟩ := keysOf_spec hk
  obtain ⟨its, rw', pl, hz⟩ := I.list (LL.of (K := X.K) h1).seq
  obtain rfl : u = Value.ref l := ru
  exact sortedK I pl.isList rw' hz h2 F hb hps hr hg hki lk g1 q
theorem ownL_perm {F H : Hp} {ps qs : List (V × D)} (h : List.Perm ps qs) : ∀ {fq : List Addr}, OwnL X.K F H (ps.map (·.2)) (ps.map (·.1)) fq → ∃ fp, OwnL X.K F H (qs.map (·.2)) (qs.map (·.1)) fp ∧ ∀ a, a ∈ fp ↔ a ∈ fq := by
  induction h with
  | nil => exact fun {fq} h => ⟨fq, h, fun _ => Iff.rfl⟩
  | cons x _ ih =>
    intro fq h
    simp only [List.map_cons, OwnL] at h ⊢
    obtain ⟨v, w, f, g, e, rfl, h0, h1, h2⟩ := h
    obtain ⟨rfl, rfl⟩ := List.cons.inj e
    obtain ⟨g', h3, h4⟩ := ih h2
    exact ⟨f ++ g', ⟨_, _, f, g', rfl, rfl, fun a ha z => h0 a ha ((h4 a).mp z), h1, h3⟩, fun a => by rw [List.mem_append, List.mem_append, h4]⟩
  | swap x y l =>
    intro fq h
    simp only [List.map_cons, OwnL] at h ⊢
    obtain ⟨v, w, f, g, e, rfl, h0, h1, v2, w2, f2, g2, e2, rfl, k0, k1, k2⟩ := h
    obtain ⟨rfl, rfl⟩ := List.cons.inj e
    obtain ⟨rfl, rfl⟩ := List.cons.inj e2
    refine ⟨f2 ++ (f ++ g2), ⟨_, _, f2, f ++ g2, rfl, rfl, fun a ha z => ?_, k1, _, _, f, g2, rfl, rfl, fun a ha z => h0 a ha (List.mem_append_right _ z), h1, k2⟩, fun a => ?_⟩
    · rcases List.mem_append.mp z with z | z
      · exact h0 a z (List.mem_append_left _ ha)
      · exact k0 a ha z
    · simp only [List.mem_append]
      constructor
      · rintro (z | z | z)
        · exact .inr (.inl z)
        · exact .inl z
        · exact .inr (.inr z)
      · rintro (z | z | z)
        · exact .inr (.inl z)
        · exact .inl z
        · exact .inr (.inr z)
  | trans _ _ ih1 ih2 =>
    intro fq h
    obtain ⟨f1, h1, k1⟩ := ih1 h
    obtain ⟨f2, h2, k2⟩ := ih2 h1
    exact ⟨f2, h2, fun a => (k2 a).trans (k1 a)⟩
theorem ownL_sort {F H : Hp} {xs ks : List D} {ws : List V} {fq : List Addr} (h : OwnL X.K F H xs ws fq) (hl : ws.length = xs.length) (lk : ks.length = xs.length) : ∃ fp, OwnL X.K F H (sortV xs ks) (sortV ws ks) fp ∧ ∀ a, a ∈ fp ↔ a ∈ fq := by
  have e1 : sortV ws ks = ((((ws.zip xs).zip ks).mergeSort (PySem.W.dataLe false fun p : (V × D) × D => p.2)).map (·.1)).map (·.1) := by
    unfold sortV
    rw [zip3a (xs := xs) hl, ← List.map_mergeSort (r := PySem.W.dataLe false fun p : (V × D) × D => p.2) (s := PySem.W.dataLe false fun p : V × D => p.2) (f := fun p : (V × D) × D => (p.1.1, p.2)) (fun _ _ _ _ => rfl), List.map_map, List.map_map]
    rfl
  have e2 : sortV xs ks = ((((ws.zip xs).zip ks).mergeSort (PySem.W.dataLe false fun p : (V × D) × D => p.2)).map (·.1)).map (·.2) := by
    unfold sortV
    rw [zip3b (ws := ws) hl, ← List.map_mergeSort (r := PySem.W.dataLe false fun p : (V × D) × D => p.2) (s := PySem.W.dataLe false fun p : D × D => p.2) (f := fun p : (V × D) × D => (p.1.2, p.2)) (fun _ _ _ _ => rfl), List.map_map, List.map_map]
    rfl
  have pm := (List.mergeSort_perm ((ws.zip xs).zip ks) (PySem.W.dataLe false fun p : (V × D) × D => p.2)).map (·.1)
  have e3 : ((ws.zip xs).zip ks).map (·.1) = ws.zip xs := List.map_fst_zip (by rw [List.length_zip]; omega)
  rw [e3] at pm
  have e4 : (ws.zip xs).map (·.1) = ws := List.map_fst_zip (by omega)
  have e5 : (ws.zip xs).map (·.2) = xs := List.map_snd_zip (by omega)
  rw [e1, e2]
  exact ownL_perm pm.symm (by rw [e4, e5]; exact h)
end
end PV

/-! PvSrc: what is walked, and the targets. -/
namespace PV
open PySem PySem.Spec PyProof.Rows L2
section
variable {K : PySem.W.Frag}
theorem seq_inj {a : Addr} {P : Hp} {vs : List V} (h : LL K P a vs) {H1 : Hp} (s : Same P H1) : SqL K H1 a vs := (h.mono s).seq
theorem ok_list {a : Addr} {Po Pi : Hp} {vs : List V} {ds : List D} (h : LL K Po a vs) (q : IsL K Pi ds vs) : ItOk K Po Pi (Itl K a) ds where
  go := fun H1 i s hi => ⟨vs, vs[i]'(by rw [q.len]; exact hi), seq_inj h s, List.getElem?_eq_getElem _⟩
  stop := fun H1 s => ⟨vs, seq_inj h s, by rw [q.len]; exact Nat.le_refl _⟩
  yld := fun F1 H1 i x H2 d s sf hd hs y => by
    obtain ⟨rfl, hx⟩ := y
    obtain ⟨v, e1, e2⟩ := q.get hd
    have e3 := hx vs (seq_inj h s)
    rw [e1] at e3
    cases e3
    refine ⟨F1, Ext.refl sf, ?_⟩
    rcases hs with hs | hs
    · exact e2.mono hs
    · exact e2.scal hs
theorem ok_tup {a : Addr} {Po Pi : Hp} {vs : List V} {ds : List D} (h : SqT K Po a vs) (q : IsL K Pi ds vs) : ItOk K Po Pi (Itt K a) ds where
  go := fun H1 i s hi => ⟨vs, vs[i]'(by rw [q.len]; exact hi), sqT_mono s h, List.getElem?_eq_getElem _⟩
  stop := fun H1 s => ⟨vs, sqT_mono s h, by rw [q.len]; exact Nat.le_refl _⟩
  yld := fun F1 H1 i x H2 d s sf hd hs y => by
    obtain ⟨rfl, hx⟩ := y
    obtain ⟨v, e1, e2⟩ := q.get hd
    have e3 := hx vs (sqT_mono s h)
    rw [e1] at e3
    cases e3
    refine ⟨F1, Ext.refl sf, ?_⟩
    rcases hs with hs | hs
    · exact e2.mono hs
    · exact e2.scal hs
theorem ranged_len (a b : Int) : (ranged a b).length = (b - a).toNat := by simp [ranged]
theorem ranged_get {a b : Int} {i : Nat} (h : i < (b - a).toNat) : (ranged a b)[i]? = some (.int (a + (i : Nat))) := by
  simp [ranged, List.getElem?_map, List.getElem?_range h]
theorem ok_rng {lo hi : Int} {Po Pi : Hp} : ItOk K Po Pi (Itr lo (hi - lo).toNat) (ranged lo hi) where
  go := fun H1 i s h => by
    rw [ranged_len] at h
    exact h
  stop := fun H1 s => by
    rw [ranged_len]
    exact Nat.le_refl _
  yld := fun F1 H1 i x H2 d s sf hd hs y => by
    obtain ⟨rfl, rfl⟩ := y
    have hi : i < (hi - lo).toNat := by
      have := (List.getElem?_eq_some_iff.mp hd).1
      rwa [ranged_len] at this
    rw [ranged_get hi] at hd
    cases hd
    exact ⟨F1, Ext.refl sf, int_is⟩
theorem rangedD_len (a b : Int) : (rangedD a b).length = (a - b).toNat := by simp [rangedD]
theorem rangedD_get {a b : Int} {i : Nat} (h : i < (a - b).toNat) : (rangedD a b)[i]? = some (.int (a - (i : Nat))) := by
  simp [rangedD, List.getElem?_map, List.getElem?_range h]
theorem ok_rgd {hi lo : Int} {Po Pi : Hp} : ItOk K Po Pi (Itc hi (-1) (hi - lo).toNat) (rangedD hi lo) where
  go := fun H1 i s h => by
    rw [rangedD_len] at h
    exact h
  stop := fun H1 s => by
    rw [rangedD_len]
    exact Nat.le_refl _
  yld := fun F1 H1 i x H2 d s sf hd hs y => by
    obtain ⟨rfl, rfl⟩ := y
    have hi : i < (hi - lo).toNat := by
      have := (List.getElem?_eq_some_iff.mp hd).1
      rwa [rangedD_len] at this
    rw [rangedD_get hi] at hd
    cases hd
    refine ⟨F1, Ext.refl sf, ?_⟩
    rw [Int.mul_neg, Int.mul_one, ← Int.sub_eq_add_neg]
    exact int_is
theorem enum_len : ∀ (ds : List D) (k : Nat), (enumD k ds).length = ds.length
  | [], _ => rfl
  | _ :: r, k => by
    unfold enumD
    rw [List.length_cons, List.length_cons, enum_len r]
theorem enum_get : ∀ (ds : List D) (k i : Nat) (d : D), (enumD k ds)[i]? = some d → ∃ e, ds[i]? = some e ∧ d = .tuple [.int ((k + i : Nat) : Int), e]
  | [], _, _, _, h => by simp [enumD] at h
  | e :: r, k, 0, d, h => by
    simp [enumD] at h
    exact ⟨e, rfl, by rw [← h]; rfl⟩
  | e :: r, k, i + 1, d, h => by
    unfold enumD at h
    obtain ⟨e', h1, h2⟩ := enum_get r (k + 1) i d (by simpa using h)
    exact ⟨e', by simpa using h1, by rw [h2, show k + 1 + i = k + (i + 1) by omega]⟩
theorem ok_enum {a : Addr} {Po Pi : Hp} {vs : List V} {ds : List D} (h : LL K Po a vs) (q : IsL K Pi ds vs) : ItOk K Po Pi (Ite K a) (enumD 0 ds) where
  go := fun H1 i s hi => by
    rw [enum_len] at hi
    exact ⟨vs, vs[i]'(by rw [q.len]; exact hi), seq_inj h s, List.getElem?_eq_getElem _⟩
  stop := fun H1 s => ⟨vs, seq_inj h s, by rw [q.len, enum_len]; exact Nat.le_refl _⟩
  yld := fun F1 H1 i x H2 d s sf hd hs y => by
    obtain ⟨T, x1, rfl, hT, rfl, hx⟩ := y
    obtain ⟨e, he, rfl⟩ := enum_get ds 0 i d hd
    obtain ⟨v, e1, e2⟩ := q.get he
    have e3 := hx vs (seq_inj h s)
    rw [e1] at e3
    cases e3
    have hs' : Same Pi F1 := by
      rcases hs with hs | hs
      · exact hs
      · simp [scal] at hs
    refine ⟨upd F1 T (.tup [.int (i : Nat), x1]), Ext.new sf hT, ?_⟩
    simp only [Is]
    refine ⟨T, _, rfl, SqT.of upd_same, .cons (by rw [Nat.zero_add]; exact int_is) (.cons ((e2.mono hs').mono (same_upd (sf.free hT))) .nil)⟩
theorem zipD_get : ∀ (ds es : List D) (i : Nat) (d : D), (zipD ds es)[i]? = some d → ∃ a b, ds[i]? = some a ∧ es[i]? = some b ∧ d = .tuple [a, b]
  | [], _, _, _, h => by simp [zipD] at h
  | _ :: _, [], _, _, h => by simp [zipD] at h
  | a :: r, b :: s, 0, d, h => by
    simp [zipD] at h
    exact ⟨a, b, rfl, rfl, h.symm⟩
  | a :: r, b :: s, i + 1, d, h => by
    unfold zipD at h
    obtain ⟨x, y, h1, h2, h3⟩ := zipD_get r s i d (by simpa using h)
    exact ⟨x, y, by simpa using h1, by simpa using h2, h3⟩
theorem zipD_len : ∀ (ds es : List D), (zipD ds es).length = min ds.length es.length
  | [], es => by simp [zipD]
  | _ :: _, [] => by simp [zipD]
  | a :: r, b :: s => by
    unfold zipD
    rw [List.length_cons, List.length_cons, List.length_cons, zipD_len r s]
    omega
theorem ok_zip {a b : Addr} {Po Pi : Hp} {vs ws : List V} {ds es : List D} (h : LL K Po a vs) (q : IsL K Pi ds vs) (h' : LL K Po b ws) (q' : IsL K Pi es ws) : ItOk K Po Pi (Itz K a b) (zipD ds es) where
  go := fun H1 i s hi => by
    rw [zipD_len] at hi
    have l1 : i < vs.length := by rw [q.len]; omega
    have l2 : i < ws.length := by rw [q'.len]; omega
    exact ⟨vs, ws, vs[i], ws[i], seq_inj h s, seq_inj h' s, List.getElem?_eq_getElem _, List.getElem?_eq_getElem _⟩
  stop := fun H1 s => ⟨vs, ws, seq_inj h s, seq_inj h' s, by rw [q.len, q'.len, zipD_len]; omega⟩
  yld := fun F1 H1 i x H2 d s sf hd hs y => by
    obtain ⟨T, x1, y1, rfl, hT, rfl, hx, hy⟩ := y
    obtain ⟨d1, d2, g1, g2, rfl⟩ := zipD_get ds es i d hd
    obtain ⟨v, e1, e2⟩ := q.get g1
    obtain ⟨u, e1', e2'⟩ := q'.get g2
    have e3 := hx vs (seq_inj h s)
    rw [e1] at e3
    cases e3
    have e3 := hy ws (seq_inj h' s)
    rw [e1'] at e3
    cases e3
    have hs' : Same Pi F1 := by
      rcases hs with hs | hs
      · exact hs
      · simp [scal] at hs
    refine ⟨upd F1 T (.tup [x1, y1]), Ext.new sf hT, ?_⟩
    have m := same_upd (o := .tup [x1, y1]) (sf.free hT)
    simp only [Is]
    exact ⟨T, _, rfl, SqT.of upd_same, .cons ((e2.mono hs').mono m) (.cons ((e2'.mono hs').mono m) .nil)⟩
theorem ok_rev {a : Addr} {Po Pi : Hp} {vs : List V} {ds : List D} (h : LL K Po a vs) (q : IsL K Pi ds vs) : ItOk K Po Pi (Itv K a vs.length) ds.reverse where
  go := fun H1 i s hi => by
    rw [List.length_reverse, ← q.len] at hi
    have l1 : vs.length - 1 - i < vs.length := by omega
    exact ⟨hi, vs, vs[vs.length - 1 - i], seq_inj h s, List.getElem?_eq_getElem _⟩
  stop := fun H1 s => by
    rw [List.length_reverse, ← q.len]
    exact Nat.le_refl _
  yld := fun F1 H1 i x H2 d s sf hd hs y => by
    obtain ⟨rfl, hx⟩ := y
    have hi : i < ds.length := by
      have := (List.getElem?_eq_some_iff.mp hd).1
      rwa [List.length_reverse] at this
    rw [List.getElem?_reverse hi] at hd
    obtain ⟨v, e1, e2⟩ := q.get hd
    have e3 := hx vs (seq_inj h s)
    rw [q.len, e1] at e3
    cases e3
    refine ⟨F1, Ext.refl sf, ?_⟩
    rcases hs with hs | hs
    · exact e2.mono hs
    · exact e2.scal hs

/-! ### a source's value, whatever its tag: for a comprehension, for a loop -/
theorem res_dm2 {F H F' H' : Hp} {v : V} {x : TD} (e : Ext F H F' H') (h : Res K H F' H' v x) (c : x.1.dm = .sh) : ∃ F2, Ext F H F2 H' ∧ Same F' F2 ∧ Is K F2 x.2 v :=
  dm_one h c e (Same.refl _)
theorem is_list {P : Hp} {ds : List D} {v : V} (h : Is K P (.list ds) v) : ∃ a vs, v = .ref a ∧ LL K P a vs ∧ IsL K P ds vs := by simpa only [Is] using h
theorem is_tuple {P : Hp} {ds : List D} {v : V} (h : Is K P (.tuple ds) v) : ∃ a vs, v = .ref a ∧ SqT K P a vs ∧ IsL K P ds vs := by simpa only [Is] using h
theorem LL.inj_of {X : Cx} {pins : List (Addr × Obj)} {σ : L2.St} {H : Hp} {s : Shared} {a : Addr} {xs ys : List V} (I : Inv X pins σ H s) (h : LL X.K H a xs) (h' : LL X.K H a ys) : xs = ys := I.list_inj h.seq h'.seq
end

/-! ### targets -/
section
variable {X : Cx} {N : List Str} {sc : Scope} {cok : Str → Bool}
theorem st_of {i : Nat} {x : Str} (hN : X.N = N) (hsc : X.env.scope = sc) (hc : ∀ x, cok x = true → X.fn x = true) (h : stB N sc cok i x = true) : X.N[i]? = some x ∧ Loc X.env.scope x ∧ (X.fn x = true ∨ X.env.scope.names.lookup x = some .local) := by
  subst hN hsc
  simp only [stB, Bool.and_eq_true, decide_eq_true_eq] at h
  obtain ⟨h1, h2⟩ := h
  refine ⟨h1, ?_⟩
  split at h2
  · rename_i q
    exact ⟨.inl q, .inr q⟩
  · rename_i q
    exact ⟨.inr q, .inl (hc x h2)⟩
  · cases h2
def gNs : List Nat → TGs | [] => gNil | i :: r => gCons (gName i) (gNs r)
theorem gNs_go : ∀ {is : List Nat} {vs : List V} {σ : L2.St} {H : Hp} {Q : L2.St → Hp → Prop}, vs.length = is.length → Q ((is.zip vs).foldl (fun e p => e.set p.1 (some p.2)) σ) H → gNs is vs σ H Q
  | [], vs, σ, H, Q, hl, h => by
    have : vs = [] := List.length_eq_zero_iff.mp hl
    subst this
    exact ⟨rfl, h⟩
  | i :: is, [], _, _, _, hl, _ => by simp at hl
  | i :: is, v :: vs, σ, H, Q, hl, h => ⟨v, vs, rfl, gNs_go (by simpa using hl) (by simpa using h)⟩
def gTg (K : PySem.W.Frag) : Tg → TG | .nm i => gName i | .tp is => gTup K is.length (gNs is)
theorem names_each {cok : Str → Bool} : ∀ {is : List Nat} {es : List Expr}, chkTg.go N sc cok is es = true → (assignEach es X.env).length = is.length ∧ (assignEach es X.env).findIdx? (·.1) = none
  | [], [], _ => ⟨rfl, rfl⟩
  | [], _ :: _, h => by simp [chkTg.go] at h
  | _ :: _, [], h => by simp [chkTg.go] at h
  | i :: is, e :: es, h => by
    cases e with
    | Name x p =>
      simp only [chkTg.go, Bool.and_eq_true] at h
      obtain ⟨h1, h2⟩ := names_each h.2
      refine ⟨?_, ?_⟩
      · show (assignEach es X.env).length + 1 = is.length + 1
        rw [h1]
      · show List.findIdx? (·.1) ((false, assign (.Name x p) X.env) :: assignEach es X.env) = none
        rw [List.findIdx?_cons, h2]
        rfl
    | _ => simp [chkTg.go] at h
theorem pgs_of (hN : X.N = N) (nd : N.Nodup) (hsc : X.env.scope = sc) (hc : ∀ x, cok x = true → X.fn x = true) : ∀ {is : List Nat} {es : List Expr}, chkTg.go N sc cok is es = true → PGs X es (gNs is)
  | [], [], _ => pgs_nil
  | [], _ :: _, h => by simp [chkTg.go] at h
  | _ :: _, [], h => by simp [chkTg.go] at h
  | i :: is, e :: es, h => by
    cases e with
    | Name x p =>
      simp only [chkTg.go, Bool.and_eq_true] at h
      obtain ⟨a, b, c⟩ := st_of hN hsc hc h.1
      exact pgs_cons (pg_name (by rw [hN]; exact nd) a b c) (pgs_of hN nd hsc hc h.2) rfl
    | _ => simp [chkTg.go] at h
theorem pg_of (hN : X.N = N) (nd : N.Nodup) (hsc : X.env.scope = sc) (hc : ∀ x, cok x = true → X.fn x = true) (calm : X.calm = true) {tg : Tg} {e : Expr} (h : chkTg N sc cok tg e = true) : PG X e (gTg X.K tg) := by
  cases tg with
  | nm i =>
    cases e with
    | Name x p =>
      obtain ⟨a, b, c⟩ := st_of hN hsc hc (by simpa only [chkTg] using h)
      exact pg_name (by rw [hN]; exact nd) a b c
    | _ => simp [chkTg] at h
  | tp is =>
    cases e with
    | Tuple es k p =>
      have h' : chkTg.go N sc cok is es = true := by simpa only [chkTg] using h
      obtain ⟨l1, l2⟩ := names_each (X := X) h'
      exact pg_tup calm (pgs_of hN nd hsc hc h') l1 l2
    | _ => simp [chkTg] at h
end
section
variable {K : PySem.W.Frag}
theorem rel_sets {F H : Hp} : ∀ {is : List Nat} {ds : List D} {vs : List V} {σ : L2.St} {env : Env}, Rel K F H σ env → IsL K F ds vs → Rel K F H ((is.zip vs).foldl (fun e p => e.set p.1 (some p.2)) σ) ((is.zip ds).foldl (fun e p => e.set p.1 (.sh p.2)) env)
  | [], _, _, _, _, r, _ => r
  | i :: is, [], vs, _, _, r, h => by
    simp only [IsL] at h
    subst h
    exact r
  | i :: is, d :: ds, _, σ, env, r, h => by
    simp only [IsL] at h
    obtain ⟨v, w, rfl, h1, h2⟩ := h
    show Rel K F H ((is.zip w).foldl (fun e p => e.set p.1 (some p.2)) (σ.set i (some v))) ((is.zip ds).foldl (fun e p => e.set p.1 (.sh p.2)) (env.set i (.sh d)))
    exact rel_sets (r.set h1) h2
/-- a target bound -/
theorem bind_ok {F H : Hp} {σ : L2.St} {env env2 : Env} {tg : Tg} {d : D} {v : V} {Q : L2.St → Hp → Prop} {t : Tag} (r : Rel K F H σ env) (h : Is K F d v) (e : bindT tg (t, d) env = some env2)
    (k : ∀ σ2, Rel K F H σ2 env2 → (∀ vs : List Nat, tgIn tg vs = true → wipe σ2 vs = wipe σ vs) → Q σ2 H) : gTg K tg v σ H Q := by
  have ws : ∀ (vs : List Nat) (i : Nat) (x : Option V) (τ : L2.St), i ∈ vs → wipe (τ.set i x) vs = wipe τ vs := fun vs i x τ hi => by
    apply List.ext_getElem?
    intro j
    by_cases hj : j ∈ vs
    · have a1 : ∀ ρ : L2.St, ρ.length = τ.length → (wipe ρ vs)[j]? = if j < τ.length then some none else none := fun ρ hl => wiped ρ τ vs j hj hl
      rw [a1 _ (by rw [List.length_set]), a1 τ rfl]
    · rw [wipe_at hj, wipe_at hj, List.getElem?_set_ne (fun z => hj (by rw [← z]; exact hi))]
  cases tg with
  | nm i =>
    cases t <;> first | cases e | skip
    refine k _ (r.set h) fun vs hv => ws vs i _ σ (by simpa [tgIn] using hv)
  | tp is =>
    cases t <;> first | (cases d <;> cases e) | skip
    cases d with
    | tuple ds =>
      by_cases hl : ds.length = is.length
      · simp only [bindT, if_pos hl] at e
        cases e
        obtain ⟨a, vs, rfl, h1, h2⟩ := is_tuple h
        refine ⟨a, vs, rfl, sqT_mono r.sub h1, by rw [h2.len, hl], gNs_go (by rw [h2.len, hl]) (k _ (rel_sets r h2) fun us hu => ?_)⟩
        have : ∀ (is : List Nat) (ws' : List V) (τ : L2.St), (∀ i ∈ is, i ∈ us) → wipe ((is.zip ws').foldl (fun e p => e.set p.1 (some p.2)) τ) us = wipe τ us := by
          intro is
          induction is with
          | nil => intro ws' τ _; rfl
          | cons i r ih =>
            intro ws' τ hh
            cases ws' with
            | nil => rfl
            | cons v w =>
              show wipe ((r.zip w).foldl (fun e p => e.set p.1 (some p.2)) (τ.set i (some v))) us = _
              rw [ih w _ fun j hj => hh j (List.mem_cons_of_mem _ hj), ws us i _ τ (hh i List.mem_cons_self)]
        exact this is vs σ (by simpa [tgIn] using hu)
      · simp only [bindT, if_neg hl] at e
        cases e
    | _ => cases e
where
  wiped (ρ τ : L2.St) : ∀ (vs : List Nat) (j : Nat), j ∈ vs → ρ.length = τ.length → (wipe ρ vs)[j]? = if j < τ.length then some none else none
    | [], j, h, _ => by simp at h
    | v :: vs, j, h, hl => by
      unfold wipe
      by_cases c : v = j
      · subst c
        by_cases q : v < τ.length
        · rw [if_pos q, List.getElem?_set_self (by rw [wipe_length, hl]; exact q)]
        · rw [if_neg q, List.getElem?_eq_none (by rw [List.length_set, wipe_length, hl]; omega)]
      · rw [List.getElem?_set_ne c]
        exact wiped ρ τ vs j (by rcases List.mem_cons.mp h with z | z; exact absurd z.symm c; exact z) hl
end
end PV

/-! PvExp: every expression that the look takes is read by the reckoning. -/
namespace PV
open PySem PySem.Spec PyProof.Rows L2
def W0 : Str → L2.St → Hp → Prop := fun _ _ _ => False
theorem Ext.mut {F H F' H' : Hp} (e : Ext F H F' H') {p : Addr} {o : HO} (h : H p = none) (f : F' p = none) : Ext F H F' (upd H' p o) := by
  refine ⟨e.f, fun b u q => ?_, fun b u q => ?_, e.n⟩
  · rw [upd_ne (ne_of_none q h)]
    exact e.h _ _ q
  · rw [upd_ne (ne_of_none q f)]
    exact e.s _ _ q
theorem wipe_wipe (σ : L2.St) (vs : List Nat) : wipe (wipe σ vs) vs = wipe σ vs := by
  apply List.ext_getElem?
  intro j
  by_cases hj : j ∈ vs
  · rw [bind_ok.wiped (wipe σ vs) σ vs j hj (wipe_length σ vs), bind_ok.wiped σ σ vs j hj rfl]
  · rw [wipe_at hj]
theorem lim_lt : lim < sizeLine := by
  rw [sizeLine_eq]
  decide
section
variable {K : PySem.W.Frag} {G : Gam}
theorem cpl_cons {f : D → R (Option D)} {d : D} {r s : List D} (h : cpl f (d :: r) = .ok s) : ∃ o t, f d = .ok o ∧ cpl f r = .ok t ∧ s = (match o with | none => t | some x => x :: t) := by
  unfold cpl at h
  cases q : f d with
  | ok o =>
    rw [q] at h
    cases q2 : cpl f r with
    | ok t =>
      rw [q2] at h
      cases o with
      | none => exact ⟨none, t, rfl, rfl, by cases h; rfl⟩
      | some x => exact ⟨some x, t, rfl, rfl, by cases h; rfl⟩
    | exc c => rw [q2] at h; cases h
    | stuck => rw [q2] at h; cases h
  | exc c => rw [q] at h; cases h
  | stuck => rw [q] at h; cases h
theorem Rbind_ok {α β : Type} {r : R α} {f : α → R β} {b : β} (h : r.bind f = .ok b) : ∃ a, r = .ok a ∧ f a = .ok b := by
  cases r with
  | ok a => exact ⟨a, rfl, h⟩
  | exc c => cases h
  | stuck => cases h
theorem shOnly_ok {x : TD} {d : D} (h : shOnly x = .ok d) : (nt x.1 x.2).dm = .sh ∧ d = x.2 := by
  unfold shOnly at h
  split at h
  · rename_i q
    cases h
    exact ⟨q, rfl⟩
  · cases h
theorem treeOf_own {H F' H' : Hp} {v : V} {x : TD} {d : D} (h : Res K H F' H' v x) (s : Same F' H') (e : treeOf x = .ok d) : ∃ fp, (∀ a ∈ fp, H a = none) ∧ Own K F' H' d v fp := by
  obtain ⟨t, c⟩ := x
  have sc : (if scal c then R.ok c else .stuck) = .ok d → ∃ fp, (∀ a ∈ fp, H a = none) ∧ Own K F' H' d v fp := fun z => by
    split at z
    · rename_i k
      cases z
      exact ⟨[], (fun a z => by cases z), own_scal (h.is s) k⟩
    · cases z
  cases t with
  | tr => cases e; exact h
  | ow =>
    cases c with
    | list ds =>
      simp only [treeOf] at e
      split at e
      · rename_i k
        cases e
        obtain ⟨p, rfl, n, f, vs, h1, h2⟩ := h
        refine ⟨[p], fun a ha => ?_, ?_⟩
        · rcases List.mem_cons.mp ha with rfl | ha
          · exact n
          · cases ha
        · simp only [Own]
          exact ⟨p, vs, [], rfl, rfl, (fun z => by cases z), f, h1, ownL_scal h2 k⟩
      · cases e
    | dict kvs =>
      cases kvs with
      | nil =>
        cases e
        obtain ⟨p, rfl, n, f, es, h1, h2⟩ := h
        simp only [IsK] at h2
        subst h2
        refine ⟨[p], fun a ha => ?_, ?_⟩
        · rcases List.mem_cons.mp ha with rfl | ha
          · exact n
          · cases ha
        · simp only [Own]
          exact ⟨p, [], [], rfl, rfl, (fun z => by cases z), f, h1, by simp only [OwnK]; exact ⟨trivial, trivial⟩⟩
      | cons _ _ => exact sc e
    | _ => exact sc e
  | _ => exact sc e
theorem ownL_ext {F H F' H' : Hp} {d : List D} {v : List V} {fp : List Addr} (o : OwnL K F H d v fp) (e : Ext F H F' H') : OwnL K F' H' d v fp := o.keep fun a ha => ⟨e.gone (o.at a ha).1 (o.at a ha).2, e.stay (o.at a ha).2⟩
theorem ownL_len {F H : Hp} : ∀ {ds : List D} {vs : List V} {fp : List Addr}, OwnL K F H ds vs fp → vs.length = ds.length
  | [], _, _, h => by
    simp only [OwnL] at h
    rw [h.1]
    rfl
  | d :: r, _, _, h => by
    simp only [OwnL] at h
    obtain ⟨v, w, f, g, rfl, _, _, _, t⟩ := h
    rw [List.length_cons, List.length_cons, ownL_len t]
/-- a list comprehension -/
theorem lc_readS {W : Str → L2.St → Hp → Prop} {own : List (Str × Nat)} {tg : Tg} {src : Src} {c : Tes} {e : Ex} (hpr : isPr e = false) (hw : tgIn tg (own.map (·.2)) = true) (σ : L2.St) (H : Hp) (Q : VK) (h : tE K W G (.cpr own tg src c e) σ H Q) :
    tLc (tSrc K W G src) (gTg K tg) (tTA K W0 G c) (tE K W0 G e) (own.map (·.2)) σ H Q := by
  obtain ⟨F, env, rel, h⟩ := h
  unfold ev at h
  have hI : ∀ x, itm e x = shOnly x := fun x => by unfold itm; rw [hpr]; rfl
  have hT : cpTag e = .ow := by unfold cpTag; rw [hpr]; rfl
  simp only [hI, hT] at h
  refine ⟨F, env, rel, h.bind.imp fun s F1 H1 hs e1 h1 => ?_⟩
  intro J hJ _ Dl hD
  -- the whole comprehension is reckoned
  generalize hf : (fun d => match bindT tg (nt s.1.kid d, d) (wipeE env (own.map (·.2))) with
        | none => .stuck
        | some env2 => (evTA G c env2).bind fun t => match t with | true => (ev G e env2).bind fun x => (shOnly x).bind fun d => .ok (some d) | false => .ok none : D → R (Option D)) = f at h1
  cases hc : cpl f s.2 with
  | exc z => rw [hc] at h1; exact h1.elim
  | stuck => rw [hc] at h1; exact h1.elim
  | ok r =>
    rw [hc] at h1
    have h2 : Aft F1 H1 (fun c H' => W c σ H') (PV.guard (decide (s.2.length ≤ lim)) (.ok (.ow, .list r))) (fun x F' H' => ∀ v, Res K H F' H' v x → Q v H') := h1
    have hz : s.2.length ≤ lim := by
      by_cases q : s.2.length ≤ lim
      · exact q
      · rw [decide_eq_false q] at h2
        exact h2.elim
    rw [decide_eq_true hz] at h2
    have fin : ∀ F' H', Ext F1 H1 F' H' → ∀ v, Res K H F' H' v (.ow, .list r) → Q v H' := h2
    clear h1 h2
    refine ⟨fun i m H2 => m = s.2.length - i ∧ i ≤ s.2.length ∧ ∃ F2 es acc rest, Ext F1 H1 F2 H2 ∧ F2 Dl = none ∧ H2 Dl = some (.lst acc) ∧ IsL K F2 es acc ∧ es.length ≤ i ∧ cpl f (s.2.drop i) = .ok rest ∧ es ++ rest = r,
      ⟨s.2.length, rfl, Nat.zero_le _, F1, [], [], r, Ext.new0 e1.s hD, e1.s.free hD, upd_same, .nil, Nat.le_refl _, by rw [List.drop_zero]; exact hc, rfl⟩, ?_⟩
    rintro i m H2 ⟨rfl, hi, F2, es, acc, rest, x1, x2, x3, x4, x5, x6, x7⟩
    by_cases hlt : i < s.2.length
    · refine .inr ⟨hJ.go H2 i x1.h hlt, _, fun H' z => ⟨s.2.length - (i + 1), by omega, z⟩, fun x H3 y => ?_⟩
      rw [List.drop_eq_getElem_cons hlt] at x6
      obtain ⟨o, t, y1, y2, y3⟩ := cpl_cons x6
      have hd : s.2[i]? = some s.2[i] := List.getElem?_eq_getElem hlt
      generalize s.2[i] = d at y1 hd
      rw [← hf] at y1
      cases hb : bindT tg (nt s.1.kid d, d) (wipeE env (own.map (·.2))) with
      | none => simp only [hb] at y1; cases y1
      | some env2 =>
        simp only [hb] at y1
        obtain ⟨b, z1, z2⟩ := Rbind_ok y1
        have hsc : Same (hp s.1.kid F1 H1) F2 ∨ scal d = true := by
          rcases kid_cases s.1 with q | q
          · rw [q]
            exact .inl x1.f
          · rw [q] at hb
            unfold nt at hb
            by_cases q2 : scal d = true
            · exact .inr q2
            · rw [if_neg q2] at hb
              cases tg <;> cases d <;> cases hb
        obtain ⟨F3, w1, w2⟩ := hJ.yld F2 H2 i x H3 d x1.h x1.s hd hsc y
        have g3 : F3 Dl = none := w1.gone x2 (by rw [x3]; intro z; cases z)
        have h3 : H3 Dl = some (.lst acc) := w1.h _ _ x3
        have r3 : Rel K F3 H3 σ env := ((rel.ext e1).ext x1).ext w1
        refine bind_ok (r3.wipe _) w2 hb fun σ2 r2 hwp => ⟨by rw [hwp _ hw, wipe_wipe], F3, env2, r2, ?_⟩
        rw [z1]
        intro F4 H4 e4
        have g4 : F4 Dl = none := e4.gone g3 (by rw [h3]; intro z; cases z)
        have h4 : H4 Dl = some (.lst acc) := e4.h _ _ h3
        cases b with
        | false =>
          cases z2
          refine (if_neg Bool.false_ne_true).mpr ⟨rfl, by omega, F4, es, acc, t, (x1.trans w1).trans e4, g4, h4, (x4.mono w1.f).mono e4.f, by omega, y2, ?_⟩
          rw [← x7, y3]
        | true =>
          obtain ⟨x', z3, z4⟩ := Rbind_ok z2
          obtain ⟨dd, z5, z6⟩ := Rbind_ok z4
          cases z6
          obtain ⟨z7, z8⟩ := shOnly_ok z5
          subst z8
          refine (if_pos rfl).mpr ⟨F4, env2, r2.ext e4, ?_⟩
          rw [z3]
          intro F5 H5 e5 v rv
          have g5 : F5 Dl = none := e5.gone g4 (by rw [h4]; intro z; cases z)
          have h5 : H5 Dl = some (.lst acc) := e5.h _ _ h4
          obtain ⟨F6, e6, s6, i6⟩ := res_dm2 e5 (rv.nt e5.s) z7
          have g6 : F6 Dl = none := e6.gone g4 (by rw [h4]; intro z; cases z)
          have la : acc.length = es.length := x4.len
          have ll := lim_lt
          refine ⟨acc, h5, by omega, rfl, by omega, F6, es ++ [x'.2], acc ++ [v], t, (((x1.trans w1).trans e4).trans e6).mut hD g6, g6, upd_same, ?_, by rw [List.length_append, List.length_singleton]; omega, y2, ?_⟩
          · exact ((((x4.mono w1.f).mono e4.f).mono e5.f).mono s6).app (.one i6)
          · rw [← x7, y3, List.append_assoc]
            rfl
    · have e0 : i = s.2.length := by omega
      subst e0
      rw [List.drop_length] at x6
      cases x6
      refine .inl ⟨hJ.stop H2 x1.h, fin F2 H2 x1 _ ⟨Dl, rfl, e1.h.free hD, x2, acc, x3, ?_⟩⟩
      rw [← x7, List.append_nil]
      exact x4
/-- a list comprehension -/
theorem lc_readT {W : Str → L2.St → Hp → Prop} {own : List (Str × Nat)} {tg : Tg} {src : Src} {c : Tes} {e : Ex} (hpr : isPr e = true) (hw : tgIn tg (own.map (·.2)) = true) (σ : L2.St) (H : Hp) (Q : VK) (h : tE K W G (.cpr own tg src c e) σ H Q) :
    tLc (tSrc K W G src) (gTg K tg) (tTA K W0 G c) (tE K W0 G e) (own.map (·.2)) σ H Q := by
  obtain ⟨F, env, rel, h⟩ := h
  unfold ev at h
  have hI : ∀ x, itm e x = treeOf x := fun x => by unfold itm; rw [hpr]; rfl
  have hT : cpTag e = .tr := by unfold cpTag; rw [hpr]; rfl
  simp only [hI, hT] at h
  refine ⟨F, env, rel, h.bind.imp fun s F1 H1 hs e1 h1 => ?_⟩
  intro J hJ _ Dl hD
  -- the whole comprehension is reckoned
  generalize hf : (fun d => match bindT tg (nt s.1.kid d, d) (wipeE env (own.map (·.2))) with
        | none => .stuck
        | some env2 => (evTA G c env2).bind fun t => match t with | true => (ev G e env2).bind fun x => (treeOf x).bind fun d => .ok (some d) | false => .ok none : D → R (Option D)) = f at h1
  cases hc : cpl f s.2 with
  | exc z => rw [hc] at h1; exact h1.elim
  | stuck => rw [hc] at h1; exact h1.elim
  | ok r =>
    rw [hc] at h1
    have h2 : Aft F1 H1 (fun c H' => W c σ H') (PV.guard (decide (s.2.length ≤ lim)) (.ok (.tr, .list r))) (fun x F' H' => ∀ v, Res K H F' H' v x → Q v H') := h1
    have hz : s.2.length ≤ lim := by
      by_cases q : s.2.length ≤ lim
      · exact q
      · rw [decide_eq_false q] at h2
        exact h2.elim
    rw [decide_eq_true hz] at h2
    have fin : ∀ F' H', Ext F1 H1 F' H' → ∀ v, Res K H F' H' v (.tr, .list r) → Q v H' := h2
    clear h1 h2
    refine ⟨fun i m H2 => m = s.2.length - i ∧ i ≤ s.2.length ∧ ∃ F2 es acc rest fq, Ext F1 H1 F2 H2 ∧ F2 Dl = none ∧ H2 Dl = some (.lst acc) ∧ (OwnL K F2 H2 es acc fq ∧ Dl ∉ fq ∧ ∀ a ∈ fq, H1 a = none) ∧ es.length ≤ i ∧ cpl f (s.2.drop i) = .ok rest ∧ es ++ rest = r,
      ⟨s.2.length, rfl, Nat.zero_le _, F1, [], [], r, [], Ext.new0 e1.s hD, e1.s.free hD, upd_same, ⟨by simp only [OwnL]; exact ⟨trivial, trivial⟩, (fun z => by cases z), fun a z => by cases z⟩, Nat.le_refl _, by rw [List.drop_zero]; exact hc, rfl⟩, ?_⟩
    rintro i m H2 ⟨rfl, hi, F2, es, acc, rest, fq, x1, x2, x3, ⟨x4, x4b, x4c⟩, x5, x6, x7⟩
    by_cases hlt : i < s.2.length
    · refine .inr ⟨hJ.go H2 i x1.h hlt, _, fun H' z => ⟨s.2.length - (i + 1), by omega, z⟩, fun x H3 y => ?_⟩
      rw [List.drop_eq_getElem_cons hlt] at x6
      obtain ⟨o, t, y1, y2, y3⟩ := cpl_cons x6
      have hd : s.2[i]? = some s.2[i] := List.getElem?_eq_getElem hlt
      generalize s.2[i] = d at y1 hd
      rw [← hf] at y1
      cases hb : bindT tg (nt s.1.kid d, d) (wipeE env (own.map (·.2))) with
      | none => simp only [hb] at y1; cases y1
      | some env2 =>
        simp only [hb] at y1
        obtain ⟨b, z1, z2⟩ := Rbind_ok y1
        have hsc : Same (hp s.1.kid F1 H1) F2 ∨ scal d = true := by
          rcases kid_cases s.1 with q | q
          · rw [q]
            exact .inl x1.f
          · rw [q] at hb
            unfold nt at hb
            by_cases q2 : scal d = true
            · exact .inr q2
            · rw [if_neg q2] at hb
              cases tg <;> cases d <;> cases hb
        obtain ⟨F3, w1, w2⟩ := hJ.yld F2 H2 i x H3 d x1.h x1.s hd hsc y
        have g3 : F3 Dl = none := w1.gone x2 (by rw [x3]; intro z; cases z)
        have h3 : H3 Dl = some (.lst acc) := w1.h _ _ x3
        have r3 : Rel K F3 H3 σ env := ((rel.ext e1).ext x1).ext w1
        refine bind_ok (r3.wipe _) w2 hb fun σ2 r2 hwp => ⟨by rw [hwp _ hw, wipe_wipe], F3, env2, r2, ?_⟩
        rw [z1]
        intro F4 H4 e4
        have g4 : F4 Dl = none := e4.gone g3 (by rw [h3]; intro z; cases z)
        have h4 : H4 Dl = some (.lst acc) := e4.h _ _ h3
        cases b with
        | false =>
          cases z2
          refine (if_neg Bool.false_ne_true).mpr ⟨rfl, by omega, F4, es, acc, t, fq, (x1.trans w1).trans e4, g4, h4, ⟨ownL_ext (ownL_ext x4 w1) e4, x4b, x4c⟩, by omega, y2, ?_⟩
          rw [← x7, y3]
        | true =>
          obtain ⟨x', z3, z4⟩ := Rbind_ok z2
          obtain ⟨dd, z5, z6⟩ := Rbind_ok z4
          cases z6
          refine (if_pos rfl).mpr ⟨F4, env2, r2.ext e4, ?_⟩
          rw [z3]
          intro F5 H5 e5 v rv
          have g5 : F5 Dl = none := e5.gone g4 (by rw [h4]; intro z; cases z)
          have h5 : H5 Dl = some (.lst acc) := e5.h _ _ h4
          obtain ⟨fp, nn, oo⟩ := treeOf_own rv e5.s z5
          have la : acc.length = es.length := ownL_len x4
          have ll := lim_lt
          have nd : Dl ∉ fp := fun z => by have := nn Dl z; rw [h4] at this; cases this
          have x5' := ownL_ext (ownL_ext (ownL_ext x4 w1) e4) e5
          have dj : ∀ a ∈ fq, a ∉ fp := fun a ha z => ((ownL_ext (ownL_ext x4 w1) e4).at a ha).2 (nn a z)
          have ku : ∀ a ∈ fq, F5 a = none ∧ upd H5 Dl (.lst (acc ++ [v])) a = H5 a := fun a ha => ⟨(x5'.at a ha).1, upd_ne fun z => x4b (by rw [← z]; exact ha)⟩
          have kv : ∀ a ∈ fp, F5 a = none ∧ upd H5 Dl (.lst (acc ++ [v])) a = H5 a := fun a ha => ⟨(oo.at a ha).1, upd_ne fun z => nd (by rw [← z]; exact ha)⟩
          refine ⟨acc, h5, by omega, rfl, by omega, F5, es ++ [dd], acc ++ [v], t, fq ++ fp, (((x1.trans w1).trans e4).trans e5).mut hD g5, g5, upd_same, ⟨OwnL.app (.one (oo.keep kv)) (x5'.keep ku) dj, ?_, ?_⟩, by rw [List.length_append, List.length_singleton]; omega, y2, ?_⟩
          · intro z
            rcases List.mem_append.mp z with z | z
            · exact x4b z
            · exact nd z
          · intro a ha
            rcases List.mem_append.mp ha with z | z
            · exact x4c a z
            · exact ((x1.trans w1).trans e4).h.free (nn a z)
          · rw [← x7, y3, List.append_assoc]
            rfl
    · have e0 : i = s.2.length := by omega
      subst e0
      rw [List.drop_length] at x6
      cases x6
      refine .inl ⟨hJ.stop H2 x1.h, fin F2 H2 x1 _ ⟨Dl :: fq, ?_, ?_⟩⟩
      · intro a ha
        rcases List.mem_cons.mp ha with rfl | ha
        · exact e1.h.free hD
        · exact e1.h.free (x4c a ha)
      · simp only [Own]
        exact ⟨Dl, acc, fq, rfl, rfl, x4b, x2, x3, by rw [← x7, List.append_nil]; exact x4⟩
theorem lc_read {W : Str → L2.St → Hp → Prop} {own : List (Str × Nat)} {tg : Tg} {src : Src} {c : Tes} {e : Ex} (hw : tgIn tg (own.map (·.2)) = true) (σ : L2.St) (H : Hp) (Q : VK) (h : tE K W G (.cpr own tg src c e) σ H Q) :
    tLc (tSrc K W G src) (gTg K tg) (tTA K W0 G c) (tE K W0 G e) (own.map (·.2)) σ H Q := by
  cases hp : isPr e with
  | true => exact lc_readT hp hw σ H Q h
  | false => exact lc_readS hp hw σ H Q h
end

section
variable {cref : Str → Value} {n : Nat} {G : Gam} {bs cs N : List Str}
theorem Fit.nm {X : Cx} {W : Str → L2.St → Hp → Prop} {sc : Scope} (f : Fit X W cref n G bs cs N sc) {i : Nat} {x : Str} (h : N[i]? = some x) (v : visB sc x = true) (d : nmB x = true) {pos : Pos} : PE X (.Name x pos) (tVar i) :=
  pe_var (by rw [f.hN]; exact h) (by rw [f.hsc]; exact vis_of v) (nm_of d).1 (nm_of d).2
theorem Fit.blk {X : Cx} {W : Str → L2.St → Hp → Prop} {sc : Scope} (f : Fit X W cref n G bs cs N sc) (s : Shared) (H : Hp) (scope : Scope) (cl : List (Str × Addr)) (C : Addr) (fp : List Addr) :
    Fit (X.blk s H scope (compEnvC scope cl C X.env) fp) W0 cref n G bs cs N (relS scope sc) where
  gc := f.gc
  hN := f.hN
  nd := f.nd
  hsc := by
    rw [← f.hsc]
    rfl
  calm := f.calm
  un := f.un
  rm := f.rm
  rp := f.rp
  gd := f.gd
  tk := takes0.imp fun c d σ H q => by
    obtain ⟨_, c, _, z⟩ := q
    exact z
theorem nofold {e : Expr} {env : PySem.Env} (h : noSet e = true) (x : Value) : foldedSetIterable e env x = pure x := by
  cases e <;> first | rfl | cases h
theorem Bi.rule {X : Cx} {W : Str → L2.St → Hp → Prop} {sc : Scope} (f : Fit X W cref n G bs cs N sc) (b : Bi) {p pos : Pos} {e : Expr} {es : List Expr} {t : TA} (hg : Gl X b.name) (hm : X.mg b.name = none) (hb : b.name ∈ bs) (hq : (b.calm || decide (("range" : Str) ∈ bs)) = true) (ha : PA X (e :: es) t) (hs : (e :: es).all noStar = true) :
    PE X (.Call (.Name b.name p) (e :: es) [] pos) (tCB (rBi X.K b) t) := by
  simp only [List.all_cons, Bool.and_eq_true] at hs
  have h1 := star_cons (es := es) (env := X.env) hs.1
  have h2 := star_any (env := X.env) (pos := pos) hs.2
  cases b with
  | len => exact pe_callB bi_len hg hm boot_len ha (by decide) (by decide) h1 h2
  | abs => exact pe_callB bi_abs hg hm boot_abs ha (by decide) (by decide) h1 h2
  | min => exact pe_callB (bi_min (f.calm (by simpa [Bi.calm] using hq))) hg hm boot_min ha (by decide) (by decide) h1 h2
  | max => exact pe_callB (bi_max (f.calm (by simpa [Bi.calm] using hq))) hg hm boot_max ha (by decide) (by decide) h1 h2
  | int => exact pe_callTy bi_int hg hm PyProof.Rows.boot_int ha (by decide) (by decide) h1 h2
  | list => exact pe_callTy bi_list hg hm PyProof.Rows.boot_list ha (by decide) (by decide) h1 h2
  | tuple => exact pe_callTy bi_tuple hg hm PyProof.Rows.boot_tuple ha (by decide) (by decide) h1 h2
  | sum => exact pe_callB (bi_sum (f.calm (by simpa [Bi.calm] using hq))) hg hm boot_sum ha (by decide) (by decide) h1 h2
  | any => exact pe_callB (bi_any (f.calm (by simpa [Bi.calm] using hq))) hg hm boot_any ha (by decide) (by decide) h1 h2
  | all => exact pe_callB (bi_all (f.calm (by simpa [Bi.calm] using hq))) hg hm boot_all ha (by decide) (by decide) h1 h2
  | sorted => exact pe_callB (bi_sorted (f.rm (.inr hb)).1) hg hm boot_sorted ha (by decide) (by decide) h1 h2
  | repr => exact pe_callB (bi_repr (f.rp hb) f.gd) hg hm boot_repr ha (by decide) (by decide) h1 h2
  | str => exact pe_callTy bi_str hg hm PyProof.Rows.boot_str ha (by decide) (by decide) h1 h2

/-! ### isinstance -/
theorem tyx_list {K : PySem.W.Frag} {H : Hp} {a : Addr} {vs : List V} (h : LL K H a vs) : TyX K H (.ref a) (.type "list") := by
  rcases h with (h | ⟨o, h⟩) | ⟨its, n, h, _⟩
  · exact .base (.lst h)
  · exact .base (.frz h)
  · exact .kList h rfl
theorem tyx_tuple {K : PySem.W.Frag} {H : Hp} {a : Addr} {vs : List V} (h : SqT K H a vs) : TyX K H (.ref a) (.type "tuple") := by
  rcases h with (h | ⟨o, h⟩) | ⟨o, its, n, h, c, _⟩
  · exact .base (.tup h)
  · exact .fTuple h
  · exact .kTuple h c
def tyName : D → String | .none => "NoneType" | .bool _ => "bool" | .int _ => "int" | .str _ => "str" | .list _ => "list" | .tuple _ => "tuple" | .dict _ => "dict"
theorem tyx_of {K : PySem.W.Frag} {H : Hp} {d : D} {v : V} (h : Is K H d v) (hd : ∀ kvs, d ≠ .dict kvs) : TyX K H v (.type (tyName d)) := by
  cases d with
  | none => rw [is_none h]; exact .base .non
  | bool b => rw [is_bool h]; exact .base (.bl b)
  | int i => rw [is_int h]; exact .base (.int i)
  | str s => rw [is_str h]; exact .base (.str s)
  | list ds => obtain ⟨a, vs, rfl, q, _⟩ := is_list h; exact tyx_list q
  | tuple ds => obtain ⟨a, vs, rfl, q, _⟩ := is_tuple h; exact tyx_tuple q
  | dict kvs => exact absurd rfl (hd kvs)
theorem kit_all {K : PySem.W.Frag} {t : Ty} {d : D} {b : Bool} (h : isT t d = some b) : PySem.W.kitOne K (.type (tyName d)) (.type t.name) = some b ∧ ∀ kvs, d ≠ .dict kvs := by
  cases t <;> cases d <;> first | (cases h; dsimp only [tyName, Ty.name]; exact ⟨kit_ty (by decide +kernel), fun _ z => by cases z⟩) | (cases h; done)
theorem ty_boot (t : Ty) : bootBuiltins (Str.ofString t.name) = some (.type t.name) := by
  cases t <;> decide +kernel
theorem ty_nm (t : Ty) : (Str.ofString t.name) ≠ "__name__" ∧ ((Str.ofString t.name) == ("__debug__" : Str)) = false := by
  cases t <;> decide +kernel
def rIs (K : PySem.W.Frag) (t : Ty) : List V → Hp → VK → Prop := fun vs H Q => ∃ v d b, vs = [v, .ty t.name] ∧ Is K H d v ∧ isT t d = some b ∧ Q (.bl b) H
theorem bi_isi {X : Cx} (t : Ty) : CallR X (.builtin "isinstance") (rIs X.K t) := by
  refine CallR.imp call_isi fun vs H Q h => ?_
  obtain ⟨v, d, b, rfl, h1, h2, q⟩ := h
  obtain ⟨k1, k2⟩ := kit_all (K := X.K) h2
  exact ⟨v, .ty t.name, _, _, b, rfl, .ty _, tyx_of h1 k2, k1, q⟩
end
end PV

/-! PvRev: list(reversed(a list)): a new list -/
namespace PV
open PySem PySem.Spec PyProof.Rows L2
section
variable {prog : Program} {w : World} {A : Around} {E : Value → Shared → Prop} {s : Shared}
/-- the list at S, empty, takes the items of the walker at it -/
theorem rev_extend {R : Result → Shared → Prop} {it l S : Addr} {items : Array Value} {c₀ : Nat} (hh : A.handled = none) (hit : s.heap.IsRevIter it l ((items.size : Int) - 1)) (hl : s.heap.IsList l items) (hne : l ≠ it) (hn : items.size ≤ sizeLine)
    (hSi : S ≠ it) (hSl : S ≠ l) (res : Value) (hS : s.heap.get? S = some { cls := .type "list", data := .seq #[] c₀ })
    (hR : ∀ h' tk acc' c', (∀ b o, b ≠ S → b ≠ it → s.heap.get? b = some o → h'.get? b = some o) → h'.get? S = some { cls := .type "list", dict := none, data := .seq acc' c', slots := #[] } → ItemsOf (fun i v => items[items.size - 1 - i]? = some v) acc' items.size → R (.ok (.ret res)) { s with heap := h', toks := tk }) :
    wpAny (model prog w) A.in1 (Builtin.List.listExtendWith (.ref S) (.ref it) res)
      (fun fin s' => match fin with | .done f => R (.ok f) s' | .again c' => c'.quiet = true ∧ codeAny (model prog w) A c' R s') (fun e s' => R (.error e) s') s := by
  have W := (Walks.listRev (prog := prog) (w := w) (A := A.in1) hh it l hne items).toS
  have hSf : S ∉ [it, l] := by simp only [List.mem_cons, List.not_mem_nil, or_false, not_or]; exact ⟨hSi, hSl⟩
  have hT : s.TypeIs (.ref it) "list_reverseiterator" := hit.typeIs
  have h1 : Builtin.List.listSameRef (.ref S) (.ref it) = false := by simp [Builtin.List.listSameRef, hSi]
  have e0 : ((items.size : Nat) : Int) - 1 - ((0 : Nat) : Int) = (items.size : Int) - 1 := by omega
  unfold Builtin.List.listExtendWith
  refine wpAny_bind (wpAny_typeOf hT ?_)
  rw [if_neg (by rw [h1]; decide)]
  refine wpAny_bind (wpAny_pyIter_revIter hit ?_)
  refine wpAny_bind (wpAny_holding ?_)
  unfold Builtin.List.listLengthHint
  refine wpAny_bind (wpAny_specialOf hT RT.nolen_lri ?_)
  show wpAny _ A.in1 (specialOf (Value.ref it) (Str.ofString "__length_hint__") >>= _) _ _ _
  refine wpAny_bind (wpAny_specialOf hT RT.hint_lri ?_)
  generalize hid : ("list_reverseiterator.__length_hint__" : String) = id0
  wp_delta
  rw [show splitId id0 = some ("list_reverseiterator", "__length_hint__") from by subst hid; decide +kernel]
  subst hid
  refine wpAny_bind (wpAny_isInstance (b := true) hT (by rw [isSubtype_type]; kernel_rfl) ?_)
  refine wpAny_pure ?_
  rw [if_neg (by decide)]
  refine wpAny_pure ⟨plainId_quiet PySem.F.plain_extend_loop _, codeAny_extend_loopS W hn S hSf res items.size 0 _ _ _ rfl (Nat.zero_le _) ⟨Nat.zero_le _, by rw [e0]; exact hit, hl⟩ hS (ItemsOf.nil _) fun s' acc' c' hm hS' hacc => ?_⟩
  rw [Moved.eq_with hm]
  refine hR s'.heap s'.toks acc' c' (fun b o hb hb2 e => hm.heap b o (fun hmem => ?_) e) hS' hacc
  rcases List.mem_cons.mp hmem with e' | hmem
  · exact hb e'
  · exact hb2 (List.mem_singleton.mp hmem)
theorem rev_call {it l : Addr} {items : Array Value} {Q : Value → Shared → Prop} (hh : A.handled = none) (hit : s.heap.IsRevIter it l ((items.size : Int) - 1)) (hl : s.heap.IsList l items) (hne : l ≠ it) (hn : items.size ≤ sizeLine)
    (hQ : ∀ h' tk acc' c', (∀ b o, b ≠ it → s.heap.get? b = some o → h'.get? b = some o) → h'.get? s.heap.objs.size = some { cls := .type "list", dict := none, data := .seq acc' c', slots := #[] } → ItemsOf (fun i v => items[items.size - 1 - i]? = some v) acc' items.size → Q (.ref s.heap.objs.size) { s with heap := h', toks := tk }) :
    wpAny (model prog w) A (call (.type "list") [.ref it]) Q E s := by
  refine callType_codes (Q₁ := fun obj s₁ => obj = .ref s.heap.objs.size ∧ s₁ = { s with heap := s.heap.push { cls := .type "list", data := .seq #[] } }) PySem.F.called_list (PySem.F.typeCall_list_1 _) PySem.F.entry_list_init
    (code_list_new _ ⟨rfl, rfl⟩) fun obj s₁ h₁ => ?_
  obtain ⟨rfl, rfl⟩ := h₁
  have hS : (s.heap.push { cls := .type "list", data := .seq #[] }).get? s.heap.objs.size = some { cls := .type "list", data := .seq #[] } := Heap.get?_push_size _ rfl
  obtain ⟨oi, hoi, _⟩ := id hit
  obtain ⟨ol, hol, _⟩ := id hl
  have n1 : s.heap.objs.size ≠ it := Nat.ne_of_gt (Heap.lt_size hoi)
  have n2 : s.heap.objs.size ≠ l := Nat.ne_of_gt (Heap.lt_size hol)
  refine ⟨⟨_, hS, rfl⟩, PySem.F.args_list_init_2 _ _, ?_⟩
  show wpAny _ _ (do let old ← Builtin.List.listItems (.ref s.heap.objs.size); Builtin.List.listUpdate (.ref s.heap.objs.size) (fun _ => #[]); letGo old.toList.reverse; Builtin.List.listExtendWith (.ref s.heap.objs.size) (.ref it) .none) _ _ _
  refine wpAny_bind ?_
  unfold Builtin.List.listItems
  refine wpAny_bind (wpAny_seqItems hS rfl (wpAny_pure ?_))
  show wpAny _ _ (updateSeq s.heap.objs.size (fun _ => #[]) >>= fun _ => letGo (#[] : Array Value).toList.reverse >>= fun _ => Builtin.List.listExtendWith (.ref s.heap.objs.size) (.ref it) .none) _ _ _
  refine wpAny_bind (wpAny_updateSeq hS rfl ?_)
  have hS₂ := Heap.get?_update_self (Obj.mapSeq (fun _ => (#[] : Array Value))) hS rfl
  have oth : ∀ b o, b ≠ s.heap.objs.size → s.heap.get? b = some o → ((s.heap.push { cls := .type "list", data := .seq #[] }).update s.heap.objs.size (Obj.mapSeq (fun _ => (#[] : Array Value)))).get? b = some o :=
    fun b o hb e => (Heap.get?_update_other _ _ (Ne.symm hb)).trans (Heap.get?_push_of_some _ e)
  refine wpAny_bind (wpAny_letGo ?_)
  refine rev_extend (A := A.in1) (s := { s with heap := (s.heap.push { cls := .type "list", data := .seq #[] }).update s.heap.objs.size (Obj.mapSeq (fun _ => (#[] : Array Value))) }) hh (hit.at fun o e => oth it o n1.symm e) (hl.at fun o e => oth l o n2.symm e) hne hn n1 n2 .none hS₂ fun h' tk acc' c' hk hS' hacc => ?_
  exact ⟨rfl, hQ h' tk acc' c' (fun b o hb e => hk b o (Nat.ne_of_lt (Heap.lt_size e)) hb (oth b o (Nat.ne_of_lt (Heap.lt_size e)) e)) hS' hacc⟩
end
/-- list(reversed(x)), x a list: a new list -/
def tLstRev (K : PySem.W.Frag) (te : TE) : TE := fun σ H Q => te σ H fun v H1 => ∃ (a : Addr) (xs : List V), v = .ref a ∧ SqL K H1 a xs ∧ ∀ q, H1 q = none → Q (.ref q) (upd H1 q (.lst xs.reverse))
theorem pe_listRev {X : Cx} {e : Expr} {te : TE} {p p2 pos pos2 : Pos} (hc : X.calm = true) (hg : Gl X "list") (hm : X.mg "list" = none) (hg2 : Gl X "reversed") (hm2 : X.mg "reversed" = none) (he : PE X e te)
    (hs : starEach [e] X.env = (false, eval e X.env) :: starEach [] X.env := by rfl)
    (hs2 : starEach [.Call (.Name "reversed" p2) [e] [] pos2] X.env = (false, eval (.Call (.Name "reversed" p2) [e] [] pos2) X.env) :: starEach [] X.env := by rfl) :
    PE X (.Call (.Name "list" p) [.Call (.Name "reversed" p2) [e] [] pos2] [] pos) (tLstRev X.K te) := by
  refine ⟨fun pins s σ H Q I h => ?_⟩
  refine Call_ (ld_blt I hg hm boot_list (PyProof.Rows.callWith_type1 (args_cons (Call_ (ld_blt I hg2 hm2 PyProof.Rows.boot_reversed (PyProof.Rows.callWith_type1 (args_cons (thn (he.run pins s σ H _ I h) fun u s1 ⟨v, H1, I1, r1, q1⟩ => args_nil ?_) hs) hs rfl))) hs2) hs2 rfl))
  obtain ⟨a, xs, ev, hq, q⟩ := q1
  subst ev
  obtain rfl : u = Value.ref a := r1
  obtain ⟨its, rv, p', hz⟩ := I1.list hq
  refine call_reversed_list p'.isList (args_nil ?_)
  have k0 : ∀ b o, s1.heap.get? b = some o → (s1.heap.push (revObj a ((its.toArray.size : Int) - 1))).get? b = some o := fun b o e => Heap.get?_push_of_some _ e
  have I2 : Inv X pins σ H1 { s1 with heap := s1.heap.push (revObj a ((its.toArray.size : Int) - 1)) } := I1.kept (t' := s1.toks) k0
  obtain ⟨ol, hol, _⟩ := id p'.isList
  have hne : a ≠ s1.heap.objs.size := Nat.ne_of_lt (Heap.lt_size hol)
  have hn : its.toArray.size ≤ sizeLine := by rw [List.size_toArray, ← rv.length]; exact hz
  refine rev_call (s := { s1 with heap := s1.heap.push (revObj a ((its.toArray.size : Int) - 1)) }) (I1.ok.hd hc) ⟨_, Heap.get?_push_size _ rfl, rfl, rfl⟩ (p'.isList.push _) hne hn fun h' tk acc c' hk e' hi => ?_
  have hk1 : ∀ b o, s1.heap.get? b = some o → h'.get? b = some o := fun b o e => hk b o (Nat.ne_of_lt (Heap.lt_size e)) (k0 b o e)
  refine ⟨.ref _, upd H1 (s1.heap.push (revObj a ((its.toArray.size : Int) - 1))).objs.size (.lst xs.reverse), I1.laid (t' := tk) hk1 ?_ (show ObjOk X.prog X.w _ _ _ (.lst xs.reverse) from ⟨by rw [List.length_reverse]; exact hz, acc.toList, c', RT.vals_rev rv hi, ?_⟩), rfl, q _ (I2.hok.fresh (Nat.le_refl _))⟩
  · simp [Heap.push]
  · rw [Array.toArray_toList]; exact e'
end PV

/-! PvAll: the look is right: expressions, argument lists, tests, sources at once. -/
namespace PV
open PySem PySem.Spec PyProof.Rows L2

section
variable {K : PySem.W.Frag} {G : Gam} {W : Str → L2.St → Hp → Prop}
theorem Aft.ok {α : Type} {F H : Hp} {W : Str → Hp → Prop} {a : α} {P : α → Hp → Hp → Prop} (s : Same F H) (h : Aft F H W (.ok a) P) : P a F H := h F H (Ext.refl s)
/-- an answer without a new object -/
theorem Aft.one {F H : Hp} {W : Str → Hp → Prop} {r : R TD} {Q : VK} (s : Same F H) (h : Aft F H W r fun x F' H' => ∀ v, Res K H F' H' v x → Q v H') (ne : ∀ c, r ≠ .exc c) : Give K F H r Q := by
  cases r with
  | ok x => exact fun v F' H' e q => h F' H' e v q
  | exc c => exact absurd rfl (ne c)
  | stuck => exact h
theorem guard_exc {b : Bool} {r : R TD} (h : ∀ c, r ≠ .exc c) : ∀ c, PV.guard b r ≠ .exc c := fun c => by
  cases b with
  | true => exact h c
  | false => intro z; cases z
theorem ok_exc {x : TD} : ∀ c, (R.ok x : R TD) ≠ .exc c := fun c z => by cases z
theorem evBin_exc (o : Bop) (a b : TD) : ∀ c, evBin o a b ≠ .exc c := by
  obtain ⟨s, a⟩ := a
  obtain ⟨t, b⟩ := b
  cases o <;> cases a <;> cases b <;> first | exact guard_exc ok_exc | exact ok_exc | (intro c z; cases z)
theorem evIx_exc (a : TD) (b : D) : ∀ c, evIx a b ≠ .exc c := by
  intro c
  unfold evIx
  split
  · split <;> (intro z; cases z)
  · split <;> (intro z; cases z)
  · refine guard_exc (fun c => ?_) c
    split <;> (intro z; cases z)
  · intro z
    cases z
theorem evSl_exc (a : TD) (l h : Option Int) : ∀ c, evSl a l h ≠ .exc c := by
  obtain ⟨s, a⟩ := a
  intro c
  cases a <;> first | exact guard_exc ok_exc c | (intro z; cases z)
theorem evJoin_exc (a : Str) (b : D) : ∀ c, evJoin a b ≠ .exc c := by
  intro c
  unfold evJoin
  split
  · split
    · exact guard_exc ok_exc c
    · intro z; cases z
  · intro z; cases z
theorem evNeg_exc (a : D) : ∀ c, evNeg a ≠ .exc c := by
  intro c
  cases a <;> (intro z; cases z)
theorem evBi_exc (b : Bi) (l : List TD) : ∀ c, evBi b l ≠ .exc c := by
  intro c
  unfold evBi
  split <;> first | exact guard_exc ok_exc c | exact ok_exc c | (split <;> first | exact ok_exc c | (intro z; cases z)) | (intro z; cases z)
theorem gB_exc {a b : Bool} : ∀ c, gB a b ≠ .exc c := fun c => by
  unfold gB
  split <;> (intro z; cases z)
theorem evEq_exc (a b : D) : ∀ c, evEq a b ≠ .exc c := by
  intro c
  rcases evEq_cases a b with ⟨u, v, rfl, rfl, z⟩ | ⟨u, v, rfl, rfl, z⟩ | z
  · rw [z]; intro h; cases h
  · rw [z]; split <;> (intro h; cases h)
  · rw [z]; exact gB_exc c
theorem evNe_exc (a b : D) : ∀ c, evNe a b ≠ .exc c := by
  intro c
  rcases evNe_cases a b with ⟨u, v, rfl, rfl, z⟩ | ⟨u, v, rfl, rfl, z⟩ | z
  · rw [z]; intro h; cases h
  · rw [z]; split <;> (intro h; cases h)
  · rw [z]; exact gB_exc c
theorem evCmp_exc (o : Cop) (a b : D) : ∀ c, evCmp o a b ≠ .exc c := by
  intro c
  unfold evCmp
  split <;> first | exact evEq_exc _ _ c | exact evNe_exc _ _ c | exact gB_exc c | (intro z; cases z)
theorem isBool_ok {d : D} {F H : Hp} {W : Str → Hp → Prop} {α : Type} {f : Bool → R α} {P : α → Hp → Hp → Prop} (h : Aft F H W ((isBool d).bind f) P) : ∃ b, d = .bool b ∧ Aft F H W (f b) P := by
  cases d with
  | bool b => exact ⟨b, rfl, h⟩
  | _ => exact h.elim
theorem isInt_ok {d : D} {F H : Hp} {W : Str → Hp → Prop} {α : Type} {f : Int → R α} {P : α → Hp → Hp → Prop} (h : Aft F H W ((isInt d).bind f) P) : ∃ b, d = .int b ∧ Aft F H W (f b) P := by
  cases d with
  | int b => exact ⟨b, rfl, h⟩
  | _ => exact h.elim
theorem evCmp_ok {o : Cop} {a b : D} {F H : Hp} {W : Str → Hp → Prop} {α : Type} {f : Bool → R α} {P : α → Hp → Hp → Prop} (h : Aft F H W ((evCmp o a b).bind f) P) : ∃ c, evCmp o a b = .ok c ∧ Aft F H W (f c) P := by
  cases q : evCmp o a b with
  | ok c =>
    rw [q] at h
    exact ⟨c, rfl, h⟩
  | exc c => exact absurd q (evCmp_exc o a b c)
  | stuck =>
    rw [q] at h
    exact h.elim
theorem jnL_cases (l : List TD) : jnL l = .sh ∨ jnL l = .pk := by
  cases l with
  | nil => exact .inl rfl
  | cons x r => exact jn_cases _ _
/-- a display of such items -/
theorem disp {F H F' H' : Hp} {l : List TD} {vs : List V} {Q : VK} (e : Ext F H F' H') (h : ResL K H F' H' vs l) : (∀ g : ∀ F2 H2, Ext F H F2 H2 → ∀ v, Res K H F2 H2 v (jnL l, .tuple (l.map (·.2))) → Q v H2, ∀ p, H' p = none → Q (.ref p) (upd H' p (.tup vs))) ∧
    (∀ g : ∀ F2 H2, Ext F H F2 H2 → ∀ v, Res K H F2 H2 v ((jnL l).root, .list (l.map (·.2))) → Q v H2, ∀ p, H' p = none → Q (.ref p) (upd H' p (.lst vs))) := by
  rcases jnL_cases l with j | j
  · obtain ⟨F2, e2, s2, q⟩ := h.dm j e (Same.refl _)
    refine ⟨fun g p np => ?_, fun g p np => ?_⟩
    · rw [j] at g
      refine g (upd F2 p (.tup vs)) _ (e2.trans (Ext.new e2.s np)) _ ?_
      show Is K (upd F2 p (.tup vs)) (.tuple (l.map (·.2))) (.ref p)
      simp only [Is]
      exact ⟨p, vs, rfl, SqT.of upd_same, q.mono (same_upd (e2.s.free np))⟩
    · rw [j] at g
      exact g F2 _ (e2.trans (Ext.new0 e2.s np)) _ ⟨p, rfl, e2.h.free np, e2.s.free np, vs, upd_same, q⟩
  · refine ⟨fun g p np => ?_, fun g p np => ?_⟩
    · rw [j] at g
      refine g F' _ (e.trans (Ext.new0 e.s np)) _ ?_
      show Is K (upd H' p (.tup vs)) (.tuple (l.map (·.2))) (.ref p)
      simp only [Is]
      exact ⟨p, vs, rfl, SqT.of upd_same, (h.is e.s).mono (same_upd np)⟩
    · rw [j] at g
      refine g F' _ (e.trans (Ext.new0 e.s np)) _ ?_
      show Is K (upd H' p (.lst vs)) (.list (l.map (·.2))) (.ref p)
      simp only [Is]
      exact ⟨p, vs, rfl, .of upd_same, (h.is e.s).mono (same_upd np)⟩
/-- behind a call: what the callee's promise gives -/
theorem called {F H F' H' : Hp} {l : List TD} {vs : List V} {Q : VK} {cref : Str → Value} {k : Nat} {g : List D → R TD} {σ : L2.St} (e : Ext F H F' H') (h : ResL K H F' H' vs l) (hk : vs.length = k)
    (q : Aft F H (fun c H2 => W c σ H2) ((g (l.map (·.2))).bind fun r => .ok (callTag (jnL l) r.1 r.2, r.2)) fun x F2 H2 => ∀ v, Res K H F2 H2 v x → Q v H2) : spD K cref k g vs H' Q (WE (wx cref W) σ) := by
  refine ⟨hk, ?_⟩
  rcases jnL_cases l with j | j
  · obtain ⟨F2, e2, s2, q2⟩ := h.dm j e (Same.refl _)
    refine ⟨F2, l.map (·.2), e2.s, q2, ?_⟩
    cases hg : g (l.map (·.2)) with
    | ok r =>
      obtain ⟨o, d⟩ := r
      rw [hg] at q
      intro v F3 H3 e4 rv
      have e5 := e2.trans e4
      refine q F3 H3 e5 v (Res.nt (x := (_, d)) ?_ e5.s)
      rw [j]
      exact rv.back e2.h
    | exc c =>
      rw [hg] at q
      intro F3 H3 e4
      exact ⟨rfl, c, rfl, q F3 H3 (e2.trans e4)⟩
    | stuck =>
      rw [hg] at q
      exact q
  · refine ⟨H', l.map (·.2), Same.refl _, h.is e.s, ?_⟩
    cases hg : g (l.map (·.2)) with
    | ok r =>
      obtain ⟨o, d⟩ := r
      rw [hg] at q
      intro v F3 H3 e4 rv
      have e5 : Ext F H F' H3 := ⟨e.f, e.h.trans e4.h, e.s.trans e4.h, e.n⟩
      refine q F' H3 e5 v (Res.nt (x := (_, d)) ?_ e5.s)
      rw [j]
      exact rv.is e4.s
    | exc c =>
      rw [hg] at q
      intro F3 H3 e4
      have e5 : Ext F H F' H3 := ⟨e.f, e.h.trans e4.h, e.s.trans e4.h, e.n⟩
      exact ⟨rfl, c, rfl, q F' H3 e5⟩
    | stuck =>
      rw [hg] at q
      exact q
theorem Aft.oks {α β : Type} {F H : Hp} {W : Str → Hp → Prop} {r : R α} {f : α → R β} {P : β → Hp → Hp → Prop} (h : Aft F H W (r.bind f) P) {P' : α → Hp → Hp → Prop} (k : ∀ a F' H', r = .ok a → Ext F H F' H' → Aft F H W (f a) P → P' a F' H') : Aft F H W r P' := by
  cases r with
  | ok a => exact fun F' H' e => k a F' H' rfl e h
  | exc c => exact h
  | stuck => exact h
theorem scalD_ok {α : Type} {F H : Hp} {W : Str → Hp → Prop} {x : TD} {f : D → R α} {P : α → Hp → Hp → Prop} (h : Aft F H W ((scalD x).bind f) P) : scal x.2 = true ∧ Aft F H W (f x.2) P := by
  unfold scalD at h
  by_cases c : scal x.2 = true
  · rw [if_pos c] at h
    exact ⟨c, h⟩
  · rw [if_neg c] at h
    exact h.elim
theorem treeOf_exc {x : TD} (c : Str) : treeOf x ≠ .exc c := by
  intro z
  unfold treeOf at z
  split at z
  · cases z
  · split at z <;> cases z
  · cases z
  · split at z <;> cases z
theorem treeOf_ok {α : Type} {F H : Hp} {W : Str → Hp → Prop} {x : TD} {f : D → R α} {P : α → Hp → Hp → Prop} (h : Aft F H W ((treeOf x).bind f) P) : ∃ d, treeOf x = .ok d ∧ Aft F H W (f d) P := by
  cases q : treeOf x with
  | ok d => rw [q] at h; exact ⟨d, rfl, h⟩
  | exc c => exact absurd q (treeOf_exc c)
  | stuck => rw [q] at h; exact h.elim
theorem Aft.gd {F H : Hp} {W : Str → Hp → Prop} {b : Bool} {r : R TD} {P : TD → Hp → Hp → Prop} (h : Aft F H W (PV.guard b r) P) : b = true ∧ Aft F H W r P := by
  cases b with
  | true => exact ⟨rfl, h⟩
  | false => exact h.elim
end

section
variable {cref : Str → Value} {n : Nat} {G : Gam} {bs cs N : List Str}
abbrev Wd := Str → L2.St → Hp → Prop
theorem nomark_of {op : CmpOp} {e : Expr} (h : noSet e = true) : behindInMarks op e = false := by
  cases e <;> first | rfl | cases h
theorem cmp_read {K : PySem.W.Frag} {W : Wd} {o : Cop} {a b : Ex} {σ : L2.St} {H : Hp} {Q : VK} (q : tE K W G (.cmp o a b) σ H Q) : tOp (rCmp K o) (tE K W G a) (tE K W G b) σ H Q := by
  obtain ⟨F, env, rel, q⟩ := q
  unfold ev at q
  refine ⟨F, env, rel, q.bind.imp fun x F1 H1 _ e1 q1 v rv => ⟨F1, env, rel.ext e1, q1.bind.imp fun y F2 H2 _ e2 q2 u ru => ?_⟩⟩
  obtain ⟨c, hc, q3⟩ := evCmp_ok q2
  exact ⟨x.2, y.2, c, (rv.mono e2).is e2.s, ru.is e2.s, hc, q3 F2 H2 (Ext.refl e2.s) _ (bool_is (K := K) (H := F2))⟩
theorem chn_read {K : PySem.W.Frag} {W : Wd} {o p : Cop} {a b c : Ex} {σ : L2.St} {H : Hp} {Q : VK} (q : tE K W G (.chn o p a b c) σ H Q) : tChain (rCmp K o) (rCmp K p) (tE K W G a) (tE K W G b) (tE K W G c) σ H Q := by
  obtain ⟨F, env, rel, q⟩ := q
  unfold ev at q
  refine ⟨F, env, rel, q.bind.imp fun x F1 H1 _ e1 q1 v rv => ⟨F1, env, rel.ext e1, q1.bind.imp fun y F2 H2 _ e2 q2 u ru => ?_⟩⟩
  obtain ⟨k, hc, q3⟩ := evCmp_ok q2
  refine ⟨x.2, y.2, k, (rv.mono e2).is e2.s, ru.is e2.s, hc, k, rfl, ?_⟩
  cases k with
  | false => exact iteF (q3 F2 H2 (Ext.refl e2.s) _ (bool_is (K := K) (H := F2)))
  | true =>
    refine iteT ⟨F2, env, (rel.ext e1).ext e2, q3.bind.imp fun z F4 H4 _ e4 q4 t rt => ?_⟩
    obtain ⟨k2, hc2, q5⟩ := evCmp_ok q4
    exact ⟨y.2, z.2, k2, (ru.mono e4).is e4.s, rt.is e4.s, hc2, q5 F4 H4 (Ext.refl e4.s) _ (bool_is (K := K) (H := F4))⟩
/-- a value's reading as a test's -/
theorem val_read {K : PySem.W.Frag} {W : Wd} {e : Ex} {σ : L2.St} {H : Hp} {Q : Bool → Hp → Prop} (q : tT K W G (.val e) σ H Q) : tE K W G e σ H fun x H' => ∃ k, x = .bl k ∧ Q k H' := by
  obtain ⟨F, env, rel, q⟩ := q
  unfold evT at q
  refine ⟨F, env, rel, q.bind.imp fun x F1 H1 _ e1 q1 v rv => ?_⟩
  cases hd : x.2 with
  | bool b =>
    rw [hd] at q1
    have := rv.is e1.s
    rw [hd] at this
    exact ⟨b, is_bool this, q1 F1 H1 (Ext.refl e1.s)⟩
  | _ => rw [hd] at q1; exact q1.elim
theorem truV_of {K : PySem.W.Frag} {H : Hp} {d : D} {v : V} {b : Bool} (h : Is K H d v) (e : truth d = .ok b) : TruV K v H b := by
  cases d with
  | none => cases e; rw [is_none h]; exact rfl
  | bool c => cases e; rw [is_bool h]; exact rfl
  | int i => cases e; rw [is_int h]; exact rfl
  | str z =>
    obtain ⟨h1, h2⟩ := gB_ok e
    rw [is_str h]
    exact ⟨Nat.le_trans (of_decide_eq_true h1) lim_le, h2.symm⟩
  | list ds =>
    cases e
    obtain ⟨a, vs, rfl, h1, h2⟩ := is_list h
    refine .inl ⟨vs, h1.seq, ?_⟩
    have := h2.len
    cases ds <;> cases vs <;> first | rfl | cases this
  | tuple ds =>
    cases e
    obtain ⟨a, vs, rfl, h1, h2⟩ := is_tuple h
    refine .inr (.inl ⟨vs, h1, ?_⟩)
    have := h2.len
    cases ds <;> cases vs <;> first | rfl | cases this
  | dict _ => cases e
theorem tru_read {K : PySem.W.Frag} {W : Wd} {e : Ex} {σ : L2.St} {H : Hp} {Q : Bool → Hp → Prop} (q : tT K W G (.tru e) σ H Q) : tE K W G e σ H fun x H' => ∃ k, TruV K x H' k ∧ Q k H' := by
  obtain ⟨F, env, rel, q⟩ := q
  unfold evT at q
  refine ⟨F, env, rel, q.bind.imp fun x F1 H1 _ e1 q1 v rv => ?_⟩
  cases hd : truth x.2 with
  | ok b =>
    rw [hd] at q1
    exact ⟨b, truV_of (rv.is e1.s) hd, q1 F1 H1 (Ext.refl e1.s)⟩
  | exc c =>
    exfalso
    unfold truth at hd
    split at hd <;> first | cases hd | exact gB_exc c hd
  | stuck => rw [hd] at q1; exact q1.elim
theorem src_noSet {src : Src} {sc : Scope} {e tg : Expr} (h : chkSrc N bs src sc e tg = true) : noSet e = true := by
  cases src with
  | lst a => simp only [chkSrc, Bool.and_eq_true] at h; exact h.1
  | tup a => simp only [chkSrc, Bool.and_eq_true] at h; exact h.1
  | _ => cases e <;> first | rfl | simp [chkSrc] at h
theorem zt_kid (t u : Tag) {F H : Hp} (s : Same F H) : Same (hp t.kid F H) (hp (zt t u).kid F H) ∧ Same (hp u.kid F H) (hp (zt t u).kid F H) := by
  cases t <;> cases u <;> exact ⟨by first | exact Same.refl _ | exact s, by first | exact Same.refl _ | exact s⟩
theorem zt_dm {t u : Tag} (h : (zt t u).dm = .sh) : t.dm = .sh ∧ u.dm = .sh := by
  cases t <;> cases u <;> first | exact ⟨rfl, rfl⟩ | cases h
theorem noSl_of {e : Expr} (h : noSl e = true) : NoSl e := fun o i => by
  cases e <;> first | rfl | cases h
theorem boot_dct : bootBuiltins "dict" = some (.type "dict") := by decide +kernel
theorem dix_read {K : PySem.W.Frag} {W : Wd} {a b : Ex} {σ : L2.St} {H : Hp} {Q : VK} (q : tE K W G (.dix a b) σ H Q) : tDGet (tE K W G a) (tE K W G b) σ H Q := by
  obtain ⟨F, env, rel, q⟩ := q
  unfold ev at q
  refine ⟨F, env, rel, q.bind.imp fun x F1 H1 _ e1 q1 v rv => ⟨F1, env, rel.ext e1, q1.bind.imp fun y F2 H2 _ e2 q2 u ru => ?_⟩⟩
  obtain ⟨t, d⟩ := x
  cases d with
  | dict kvs =>
    unfold evDix at q2
    cases hk : dkey y.2 with
    | none => simp only [hk] at q2; exact q2.elim
    | some k =>
      simp only [hk] at q2
      cases hg : dGetK kvs k with
      | none => simp only [hg] at q2; exact q2.elim
      | some d =>
        simp only [hg] at q2
        obtain ⟨p, es, rfl, h1, h2⟩ := res_dict (rv.mono e2) e2.s
        obtain ⟨v, h3, h4⟩ := isK_val h2 hg
        refine ⟨p, v, rfl, ?_, q2 F2 H2 (Ext.refl e2.s) v (Res.nt (x := (_, d)) (Res.of_hp h4) e2.s)⟩
        rw [key_is (ru.is e2.s) hk, ← h3]
        exact DGet.k h1
  | _ => exact q2.elim
theorem evSrd_exc (x : TD) : ∀ c, evSrd x ≠ .exc c := by
  intro c h
  obtain ⟨t, d⟩ := x
  cases d with
  | dict kvs =>
    simp only [evSrd] at h
    cases hk : intKs kvs with
    | none => rw [hk] at h; cases h
    | some ks =>
      rw [hk] at h
      exact guard_exc ok_exc c h
  | _ => cases h
theorem intKs_map {K : PySem.W.Frag} {H : Hp} : ∀ {kvs : List (D × D)} {es : List (Key × V)} {ks : List Int}, intKs kvs = some ks → IsK K H kvs es → es.map (·.1) = ks.map Sum.inl
  | [], _, ks, h, i => by
    cases h
    simp only [IsK] at i
    subst i
    rfl
  | (k, d) :: r, _, ks, h, i => by
    simp only [IsK] at i
    obtain ⟨kk, v, es', rfl, rfl, _, i2⟩ := i
    cases kk with
    | inl n =>
      have h : (intKs r).map (n :: ·) = some ks := h
      rw [Option.map_eq_some_iff] at h
      obtain ⟨ms, h1, rfl⟩ := h
      rw [List.map_cons, List.map_cons, intKs_map h1 i2]
    | inr s => cases h
theorem sort_uniq {ks ys : List Int} (p : ys.Perm ks) (s : ys.Pairwise (· ≤ ·)) : ys = ks.mergeSort fun a b => decide (a ≤ b) := by
  have s2 : (ks.mergeSort fun a b => decide (a ≤ b)).Pairwise (· ≤ ·) := (List.pairwise_mergeSort (le := fun a b : Int => decide (a ≤ b)) (fun a b c h1 h2 => by simp at *; omega) (fun a b => by simp; omega) ks).imp fun h => of_decide_eq_true h
  exact List.Perm.eq_of_pairwise (fun a b _ _ h1 h2 => by omega) s s2 (p.trans (List.mergeSort_perm ks _).symm)
theorem jnL_sh (l : List TD) : ∀ dds : List D, jnL (l ++ dds.map fun d => (Tag.sh, d)) = jnL l := fun dds => by
  have z : jnL (dds.map fun d => (Tag.sh, d)) = .sh := by
    induction dds with
    | nil => rfl
    | cons d r ih => rw [List.map_cons]; unfold jnL; rw [ih]; rfl
  induction l with
  | nil => exact z
  | cons x r ih =>
    rw [List.cons_append]
    unfold jnL
    rw [ih]
theorem resL_sh {K : PySem.W.Frag} {H F' H' : Hp} : ∀ {dds : List D} {dvs vs : List V} {l : List TD}, ResL K H F' H' vs l → IsL K F' dds dvs → Same F' H' → ResL K H F' H' (vs ++ dvs) (l ++ dds.map fun d => (Tag.sh, d))
  | [], _, vs, l, h, i, _ => by
    simp only [IsL] at i
    subst i
    rw [List.append_nil, List.map_nil, List.append_nil]
    exact h
  | d :: r, _, vs, l, h, i, s => by
    simp only [IsL] at i
    obtain ⟨v, w, rfl, i1, i2⟩ := i
    have := resL_sh (ResL.snoc h (Ext.refl s) (x := (Tag.sh, d)) (v := v) i1) i2 s
    rwa [List.append_assoc, List.append_assoc] at this
theorem m1_ok {X : Cx} {u : Expr} (h : isM1 u = true) : PE X u (fun σ H Q => Q (.int (-1)) H) ∧ noStar u = true := by
  unfold isM1 at h
  split at h
  · have h := of_decide_eq_true h
    subst h
    exact ⟨pe_imp (pe_un un_neg pe_int) fun σ H Q q => ⟨1, rfl, q⟩, rfl⟩
  · cases h
/-! ### f-strings -/
def tPart (K : PySem.W.Frag) (W : Wd) (G : Gam) (e : Ex) : TE := match e with | .cst (.str z) => tC (.str z) | e => tFmt (tE K W G e)
def tFs (K : PySem.W.Frag) (W : Wd) (G : Gam) : Exs → List TE | .nil => [] | .cons e es => tPart K W G e :: tFs K W G es
theorem tPart_ne {K : PySem.W.Frag} {W : Wd} {G : Gam} {e : Ex} (h : isSC e = false) : tPart K W G e = tFmt (tE K W G e) := by
  unfold tPart
  split
  · cases h
  · rfl
theorem fmtD_ok {d : D} {y : Str} (h : fmtD d = some y) : (∃ z, d = .str z ∧ z.length ≤ lim ∧ y = z) ∨ ∃ i, d = .int i ∧ i.natAbs.log2 < 1920 ∧ y = toString i := by
  unfold fmtD at h
  split at h
  · split at h
    · rename_i c; cases h; exact .inl ⟨_, rfl, c, rfl⟩
    · cases h
  · split at h
    · rename_i c; cases h; exact .inr ⟨_, rfl, c, rfl⟩
    · cases h
  · cases h
theorem evFs_exc {G : Gam} {env : Env} : ∀ {es : Exs} {acc : Str} (c : Str), evFs G es acc env ≠ .exc c
  | .nil, acc, c, h => by unfold evFs at h; cases h
  | .cons e es, acc, c, h => by
    unfold evFs at h
    cases hx : ev G e env with
    | ok x =>
      rw [hx] at h
      have h : (match fmtD x.2 with | some y => if (acc ++ y).length ≤ lim then evFs G es (acc ++ y) env else R.stuck | none => .stuck) = .exc c := h
      split at h
      · split at h
        · exact evFs_exc c h
        · cases h
      · cases h
    | exc c => rw [hx] at h; cases h
    | stuck => rw [hx] at h; cases h
theorem fs_run {K : PySem.W.Frag} {W : Wd} {G : Gam} {σ : L2.St} {env : Env} : ∀ {es : Exs} {acc s : Str} {F H : Hp} {Q : Str → Hp → Prop}, Rel K F H σ env → evFs G es acc env = .ok s → (∀ F' H', Ext F H F' H' → Q s H') → tJs (tFs K W G es) acc σ H Q
  | .nil, acc, s, F, H, Q, rel, h, k => by
    unfold evFs at h
    cases h
    exact k F H (Ext.refl rel.sub)
  | .cons e es, acc, s, F, H, Q, rel, h, k => by
    unfold evFs at h
    cases hx : ev G e env with
    | exc c => rw [hx] at h; cases h
    | stuck => rw [hx] at h; cases h
    | ok x =>
      rw [hx] at h
      have h : (match fmtD x.2 with | some y => if (acc ++ y).length ≤ lim then evFs G es (acc ++ y) env else R.stuck | none => .stuck) = .ok s := h
      cases hy : fmtD x.2 with
      | none => rw [hy] at h; cases h
      | some y =>
        rw [hy] at h
        have h2 : (if (acc ++ y).length ≤ lim then evFs G es (acc ++ y) env else R.stuck) = .ok s := h
        clear h
        by_cases hl : (acc ++ y).length ≤ lim
        · rw [if_pos hl] at h2
          have hl' : (acc ++ y).length ≤ sizeLine := Nat.le_trans hl lim_le
          by_cases hs : isSC e = true
          · unfold isSC at hs
            split at hs
            · rename_i z
              unfold ev at hx
              cases hx
              rcases fmtD_ok hy with ⟨z', e1, _, rfl⟩ | ⟨i, e1, _⟩
              · cases e1
                exact ⟨_, rfl, hl', fs_run rel h2 k⟩
              · cases e1
            · cases hs
          · have hs : isSC e = false := by cases q : isSC e with | true => exact absurd q hs | false => rfl
            show tPart K W G e σ H _
            rw [tPart_ne hs]
            refine ⟨F, env, rel, ?_⟩
            rw [hx]
            intro F1 H1 e1 v rv
            rcases fmtD_ok hy with ⟨z, hz, hzl, rfl⟩ | ⟨i, hi, hil, rfl⟩
            · have iv := rv.is e1.s
              rw [hz] at iv
              simp only [Is] at iv
              exact .inl ⟨_, iv, Nat.le_trans hzl lim_le, _, rfl, hl', fs_run (rel.ext e1) h2 fun F' H' x => k F' H' (e1.trans x)⟩
            · have iv := rv.is e1.s
              rw [hi] at iv
              simp only [Is] at iv
              exact .inr ⟨i, iv, hil, _, rfl, hl', fs_run (rel.ext e1) h2 fun F' H' x => k F' H' (e1.trans x)⟩
        · rw [if_neg hl] at h2
          cases h2
mutual
theorem sE : ∀ (ex : Ex) {X : Cx} {W : Wd} {sc : Scope} {e : Expr}, Fit X W cref n G bs cs N sc → chkE N bs ex sc e = true → PE X e (tE X.K W G ex)
  | .var i, X, W, sc, e, ft, h => by
    cases e with
    | Name x p =>
      simp only [chkE, Bool.and_eq_true, decide_eq_true_eq] at h
      refine pe_imp (ft.nm h.1.1 h.1.2 h.2) fun σ H Q q => ?_
      obtain ⟨F, env, rel, q⟩ := q
      unfold ev at q
      cases hs : env[i]? with
      | none => rw [hs] at q; exact q.elim
      | some sl =>
        rw [hs] at q
        cases sl with
        | no => exact q.elim
        | sh d =>
          obtain ⟨v, e1, e2⟩ := rel.shs hs
          exact ⟨v, e1, q F H (Ext.refl rel.sub) v e2⟩
        | ow d =>
          obtain ⟨p, e1, e2⟩ := rel.own hs
          exact ⟨_, e1, q F H (Ext.refl rel.sub) _ ⟨p, rfl, e2⟩⟩
        | od d =>
          obtain ⟨v, fp, e1, e2, _⟩ := rel.ods hs
          exact ⟨_, e1, q F H (Ext.refl rel.sub) _ (Res.nt (x := (.pk, d)) e2.isH rel.sub)⟩
    | _ => simp [chkE] at h
  | .cst c, X, W, sc, e, ft, h => by
    cases e with
    | Constant c' k p =>
      simp only [chkE, Bool.and_eq_true, decide_eq_true_eq] at h
      obtain ⟨rfl, h2⟩ := h
      cases c with
      | none => exact pe_imp pe_non fun σ H Q ⟨F, env, rel, q⟩ => q F H (Ext.refl rel.sub) _ (show Is X.K F .none .non by simp only [Is])
      | bool b => exact pe_imp pe_bl fun σ H Q ⟨F, env, rel, q⟩ => q F H (Ext.refl rel.sub) _ (bool_is (K := X.K) (H := F))
      | int i => exact pe_imp pe_int fun σ H Q ⟨F, env, rel, q⟩ => q F H (Ext.refl rel.sub) _ (int_is (K := X.K) (H := F))
      | str z => exact pe_imp pe_str fun σ H Q ⟨F, env, rel, q⟩ => q F H (Ext.refl rel.sub) _ (str_is (K := X.K) (H := F))
      | _ => cases h2
    | _ => simp [chkE] at h
  | .bin o a b, X, W, sc, e, ft, h => by
    cases e with
    | BinOp l op r p =>
      simp only [chkE, Bool.and_eq_true, decide_eq_true_eq] at h
      obtain ⟨⟨rfl, h1⟩, h2⟩ := h
      refine pe_imp (pe_op (op_bin o) (sE a ft h1) (sE b ft h2)) fun σ H Q q => ?_
      obtain ⟨F, env, rel, q⟩ := q
      unfold ev at q
      refine ⟨F, env, rel, q.bind.imp fun x F1 H1 _ e1 q1 v rv => ⟨F1, env, rel.ext e1, q1.bind.imp fun y F2 H2 _ e2 q2 u ru => ?_⟩⟩
      exact ⟨F2, x, y, e2.s, (rv.mono e2).back same0, ru.back same0, (q2.imp fun z F3 H3 _ e3 q3 w rw' => q3 w (rw'.back (e1.h.trans e2.h))).one e2.s (evBin_exc o x y)⟩
    | _ => simp [chkE] at h
  | .neg a, X, W, sc, e, ft, h => by
    cases e with
    | UnaryOp op x p =>
      cases op with
      | USub =>
        simp only [chkE] at h
        refine pe_imp (pe_un un_negD (sE a ft h)) fun σ H Q q => ?_
        obtain ⟨F, env, rel, q⟩ := q
        unfold ev at q
        refine ⟨F, env, rel, q.bind.imp fun x F1 H1 _ e1 q1 v rv => ?_⟩
        exact ⟨F1, x.2, e1.s, rv.is e1.s, (q1.imp fun z F3 H3 _ e3 q3 w rw' => q3 w (rw'.back e1.h)).one e1.s (evNeg_exc x.2)⟩
      | _ => simp [chkE] at h
    | _ => simp [chkE] at h
  | .cmp o a b, X, W, sc, e, ft, h => by
    cases e with
    | Compare l ops rs p =>
      match ops, rs, h with
      | [op], [r], h =>
        simp only [chkE, Bool.and_eq_true, decide_eq_true_eq] at h
        obtain ⟨⟨rfl, h1⟩, h2⟩ := h
        exact pe_imp (pe_cmpR (op_cmp ft.un o) (sE a ft h1) (sE b ft h2) (nomark_of (chk_noSet h2))) fun σ H Q q => cmp_read q
      | [], _, h => simp [chkE] at h
      | _ :: _ :: _, [], h => simp [chkE] at h
      | [_], [], h => simp [chkE] at h
      | [_], _ :: _ :: _, h => simp [chkE] at h
      | _ :: _ :: _, _ :: _, h => simp [chkE] at h
    | _ => simp [chkE] at h
  | .chn o o2 a b c, X, W, sc, e, ft, h => by
    cases e with
    | Compare l ops rs p =>
      match ops, rs, h with
      | [op, op'], [m, r], h =>
        simp only [chkE, Bool.and_eq_true, decide_eq_true_eq] at h
        obtain ⟨⟨⟨⟨rfl, rfl⟩, h1⟩, h2⟩, h3⟩ := h
        exact pe_imp (pe_chain (op_cmp ft.un o) (op_cmp ft.un o2) (sE a ft h1) (sE b ft h2) (sE c ft h3) (show lastMarks [_, _] [_, _] = false from nomark_of (chk_noSet h3))) fun σ H Q q => chn_read q
      | [], _, h => simp [chkE] at h
      | [_], _, h => simp [chkE] at h
      | [_, _], [], h => simp [chkE] at h
      | [_, _], [_], h => simp [chkE] at h
      | [_, _], _ :: _ :: _ :: _, h => simp [chkE] at h
      | _ :: _ :: _ :: _, _, h => simp [chkE] at h
    | _ => simp [chkE] at h
  | .lan es, X, W, sc, e, ft, h => by
    cases e with
    | BoolOp op vs p =>
      cases op with
      | And =>
        simp only [chkE] at h
        exact pe_imp (sAnd es ft h) fun σ H Q ⟨F, env, rel, q⟩ => ⟨F, env, rel, by unfold ev at q; exact q⟩
      | Or => simp [chkE] at h
    | _ => simp [chkE] at h
  | .lor es, X, W, sc, e, ft, h => by
    cases e with
    | BoolOp op vs p =>
      cases op with
      | Or =>
        simp only [chkE] at h
        exact pe_imp (sOr es ft h) fun σ H Q ⟨F, env, rel, q⟩ => ⟨F, env, rel, by unfold ev at q; exact q⟩
      | And => simp [chkE] at h
    | _ => simp [chkE] at h
  | .lno a, X, W, sc, e, ft, h => by
    cases e with
    | UnaryOp op x p =>
      cases op with
      | Not =>
        simp only [chkE] at h
        refine pe_imp (pe_not (sE a ft h)) fun σ H Q q => ?_
        obtain ⟨F, env, rel, q⟩ := q
        unfold ev at q
        refine ⟨F, env, rel, q.bind.imp fun x F1 H1 _ e1 q1 v rv => ?_⟩
        obtain ⟨b, hb, q2⟩ := isBool_ok q1
        have e2 := rv.is e1.s
        rw [hb] at e2
        exact ⟨b, is_bool e2, q2 F1 H1 (Ext.refl e1.s) _ (bool_is (K := X.K) (H := F1))⟩
      | _ => simp [chkE] at h
    | _ => simp [chkE] at h
  | .ife c a b, X, W, sc, e, ft, h => by
    cases e with
    | IfExp t l r p =>
      simp only [chkE, Bool.and_eq_true] at h
      refine pe_imp (pe_ifExp (sT c ft h.1.1) (sE a ft h.1.2) (sE b ft h.2)) fun σ H Q q => ?_
      obtain ⟨F, env, rel, q⟩ := q
      unfold ev at q
      refine ⟨F, env, rel, q.bind.imp fun t F1 H1 _ e1 q1 => ?_⟩
      cases t with
      | true => exact iteT ⟨F1, env, rel.ext e1, q1.imp fun z F3 H3 _ e3 q3 w rw' => q3 w (rw'.back e1.h)⟩
      | false => exact iteF ⟨F1, env, rel.ext e1, q1.imp fun z F3 H3 _ e3 q3 w rw' => q3 w (rw'.back e1.h)⟩
    | _ => simp [chkE] at h
  | .tup es, X, W, sc, e, ft, h => by
    cases e with
    | Tuple xs k p =>
      simp only [chkE] at h
      refine pe_imp (pe_tup (sEs es ft h)) fun σ H Q q => ?_
      obtain ⟨F, env, rel, q⟩ := q
      unfold ev at q
      refine ⟨F, env, rel, q.oks fun l F1 H1 _ e1 q1 vs rv => ?_⟩
      obtain ⟨g1, g2⟩ := q1.gd
      refine ⟨?_, (disp e1 rv).1 g2⟩
      have := (rv.is e1.s).len
      rw [List.length_map] at this
      rw [this]
      exact Nat.le_trans (of_decide_eq_true g1) lim_le
    | _ => simp [chkE] at h
  | .lrv a, X, W, sc, e, ft, h => by
    cases e with
    | Call fn args kws pos =>
      cases fn with
      | Name x p =>
        match args, kws, h with
        | [y0], [], h =>
          cases y0 with
          | Call fn2 args2 kws2 pos2 =>
            cases fn2 with
            | Name z p2 =>
              match args2, kws2, h with
              | [y], [], h =>
                simp only [chkE, Bool.and_eq_true, decide_eq_true_eq] at h
                obtain ⟨⟨⟨⟨⟨rfl, h1⟩, rfl⟩, h3⟩, hr⟩, h2⟩ := h
                obtain ⟨g1, g2⟩ := ft.glN h1
                obtain ⟨g3, g4⟩ := ft.glN h3
                have st := star_cons (es := []) (env := X.env) (chk_noStar h2)
                refine pe_imp (pe_listRev (ft.calm hr) g1 g2 g3 g4 (sE a ft h2) st rfl) fun σ H Q q => ?_
                obtain ⟨F, env, rel, q⟩ := q
                unfold ev at q
                refine ⟨F, env, rel, q.bind.imp fun x F1 H1 _ e1 q1 v rv => ?_⟩
                obtain ⟨t, d⟩ := x
                cases d with
                | list ds =>
                  obtain ⟨l, vs, rfl, k1, k2⟩ := rv.list e1.s
                  exact ⟨l, vs, rfl, k1.seq, new_list (kid_cases t) e1.s k2.rev fun w F3 H3 e3 rw' => q1 F3 H3 e3 w (rw'.back e1.h)⟩
                | _ => exact q1.elim
              | [], _, h => simp [chkE] at h
              | [_], _ :: _, h => simp [chkE] at h
              | _ :: _ :: _, _, h => simp [chkE] at h
            | _ => simp [chkE] at h
          | _ => simp [chkE] at h
        | [], _, h => simp [chkE] at h
        | [_], _ :: _, h => simp [chkE] at h
        | _ :: _ :: _, _, h => simp [chkE] at h
      | _ => simp [chkE] at h
    | _ => simp [chkE] at h
  | .trI a, X, W, sc, e, ft, h => by
    simp only [chkE, Bool.and_eq_true] at h
    refine pe_imp (sE a ft h.2) fun σ H Q q => ?_
    obtain ⟨F, env, rel, q⟩ := q
    unfold ev at q
    refine ⟨F, env, rel, q.bind.imp fun x F1 H1 _ e1 q1 v rv => ?_⟩
    obtain ⟨d, hd, q3⟩ := treeOf_ok q1
    exact q3 F1 H1 (Ext.refl e1.s) v (treeOf_own rv e1.s hd)
  | .lsT a, X, W, sc, e, ft, h => by
    cases e with
    | List xs p =>
      match xs, h with
      | [x], h =>
        simp only [chkE] at h
        refine pe_imp (pe_lst (pa_cons (sE a ft h) pa_nil (star_cons (chk_noStar h)))) fun σ H Q q => ?_
        obtain ⟨F, env, rel, q⟩ := q
        unfold ev at q
        refine ⟨F, env, rel, q.bind.imp fun x F1 H1 _ e1 q1 v rv => ?_⟩
        obtain ⟨d, hd, q3⟩ := treeOf_ok q1
        refine ⟨(by show 1 ≤ sizeLine; rw [sizeLine_eq]; decide), fun p np => ?_⟩
        obtain ⟨fp, n, o⟩ := treeOf_own rv e1.s hd
        have o2 : Own X.K F1 (upd H1 p (.lst [v])) d v fp := o.keep fun a ha => ⟨(o.at a ha).1, upd_ne fun z => (o.at a ha).2 (by rw [z]; exact np)⟩
        refine q3 F1 _ (Ext.new0 e1.s np) _ ⟨p :: fp, fun a ha => ?_, ?_⟩
        · rcases List.mem_cons.mp ha with rfl | ha
          · exact e1.h.free np
          · exact n a ha
        · simp only [Own]
          refine ⟨p, [v], fp, rfl, rfl, fun z => (o.at p z).2 np, e1.s.free np, upd_same, ?_⟩
          exact .one o2
      | [], h => simp [chkE] at h
      | _ :: _ :: _, h => simp [chkE] at h
    | _ => simp [chkE] at h
  | .prT es, X, W, sc, e, ft, h => by
    cases e with
    | Tuple xs k p =>
      simp only [chkE] at h
      refine pe_imp (pe_tup (sEs es ft h)) fun σ H Q q => ?_
      obtain ⟨F, env, rel, q⟩ := q
      unfold ev at q
      refine ⟨F, env, rel, q.oks fun l F1 H1 _ e1 q1 vs rv => ?_⟩
      match l, rv, q1 with
      | [x, y], ⟨v, ws, e0, r1, w, us, e2, r2, e3⟩, q1 =>
        have e3 : us = [] := e3
        subst e0 e2 e3
        obtain ⟨hc, q2⟩ := scalD_ok q1
        obtain ⟨d, hd, q3⟩ := treeOf_ok q2
        refine ⟨(by show 2 ≤ sizeLine; rw [sizeLine_eq]; decide), fun p np => ?_⟩
        obtain ⟨fp, n, o⟩ := treeOf_own r2 e1.s hd
        have o2 : Own X.K F1 (upd H1 p (.tup [v, w])) d w fp := o.keep fun a ha => ⟨(o.at a ha).1, upd_ne fun z => (o.at a ha).2 (by rw [z]; exact np)⟩
        refine q3 F1 _ (e1.trans (Ext.new0 e1.s np)) _ ⟨p :: fp, fun a ha => ?_, ?_⟩
        · rcases List.mem_cons.mp ha with rfl | ha
          · exact e1.h.free np
          · exact n a ha
        · simp only [Own]
          refine ⟨p, [v, w], fp, rfl, rfl, fun z => (o.at p z).2 np, e1.s.free np, upd_same, ?_⟩
          simp only [OwnL]
          exact ⟨v, [w], [], fp, rfl, rfl, (fun a z => by cases z), own_scal (r1.is e1.s) hc, w, [], fp, [], rfl, by simp, (fun a _ z => by cases z), o2, rfl, rfl⟩
      | [], _, q1 => exact q1.elim
      | [_], _, q1 => exact q1.elim
      | _ :: _ :: _ :: _, _, q1 => exact q1.elim
    | _ => simp [chkE] at h
  | .srk f a, X, W, sc, e, ft, h => by
    cases e with
    | Call fn args kws pos =>
      cases fn with
      | Name x p =>
        match args, kws, h with
        | [y], [⟨some k, kv, pk⟩], h =>
          cases kv with
          | Name z pz =>
            simp only [chkE, Bool.and_eq_true, decide_eq_true_eq] at h
            obtain ⟨⟨⟨⟨⟨⟨⟨rfl, h1⟩, rfl⟩, rfl⟩, h0⟩, h2⟩, h3⟩, h4⟩ := h
            have h0 : bang z = false := by simpa using h0
            obtain ⟨g1, g2⟩ := ft.glN h1
            cases hG : G z with
            | none =>
              refine ⟨fun pins s σ H Q I q => ?_⟩
              obtain ⟨F, env, rel, q⟩ := q
              unfold ev at q
              rw [hG] at q
              exact q.elim
            | some g =>
              obtain ⟨fa, fd, ps, hm, hk, hb, hF, ar⟩ := ft.gc.fns z g h0 hG
              have st := star_cons (es := []) (env := X.env) (chk_noStar h4)
              refine pe_imp (pe_callBK (cr_srk hG hF hb ar (ft.rm (.inl ⟨z, g, hG⟩)).2 ft.gd) g1 g2 boot_sorted (pa_cons (sE a ft h4) pa_nil st) (pk_cons (pe_glob (v := .ref fa) (ft.gl h2) hm rfl (nm_of h3).1) pk_nil) (by decide) (by decide) (by rw [st]; rfl) (star_any (es := [y]) (by simp only [List.all_cons, List.all_nil, Bool.and_true]; exact chk_noStar h4)) rfl rfl rfl) fun σ H Q q => ?_
              obtain ⟨F, env, rel, q⟩ := q
              unfold ev at q
              rw [hG] at q
              replace q : Aft F H (fun c H' => W c σ H') ((ev G a env).bind fun x => evSrk G _ x) (fun x F' H' => ∀ v, Res X.K H F' H' v x → Q v H') := q
              refine ⟨F, env, rel, q.bind.imp fun x F1 H1 _ e1 q1 v rv => ?_⟩
              exact ⟨rfl, F1, v, x, rfl, e1.s, rv.back same0, (q1.imp fun z F3 H3 _ e3 q3 w rw' => q3 w (rw'.back e1.h)).one e1.s (evSrk_exc G _ x)⟩
          | _ => simp [chkE] at h
        | [], _, h => simp [chkE] at h
        | [_], [], h => simp [chkE] at h
        | [_], [⟨none, _, _⟩], h => simp [chkE] at h
        | [_], ⟨some _, v, _⟩ :: _ :: _, h => simp [chkE] at h
        | [_], ⟨none, v, _⟩ :: _ :: _, h => simp [chkE] at h
        | _ :: _ :: _, _, h => simp [chkE] at h
      | _ => simp [chkE] at h
    | _ => simp [chkE] at h
  | .fst es, X, W, sc, e, ft, h => by
    cases e with
    | JoinedStr vs p =>
      match vs, h with
      | [], h => simp [chkE] at h
      | [_], h => simp [chkE] at h
      | v1 :: v2 :: rest, h =>
        simp only [chkE, Bool.and_eq_true] at h
        refine pe_imp (pe_joined (sFs es ft h.2)) fun σ H Q q => ?_
        obtain ⟨F, env, rel, q⟩ := q
        unfold ev at q
        cases hr : evFs G es Str.empty env with
        | ok z =>
          rw [hr] at q
          have q : ∀ F' H', Ext F H F' H' → ∀ v, Res X.K H F' H' v (.sh, .str z) → Q v H' := q
          exact fs_run rel hr fun F' H' x => q F' H' x _ (show Is X.K F' (.str z) (.str z) by simp only [Is])
        | exc c => exact absurd hr (evFs_exc c)
        | stuck => rw [hr] at q; exact q.elim
    | _ => simp [chkE] at h
  | .tmp i a, X, W, sc, e, ft, h => by
    simp only [chkE, Bool.and_eq_true] at h
    refine pe_imp (sE a ft h.2) fun σ H Q q => ?_
    obtain ⟨F, env, rel, q⟩ := q
    unfold ev at q
    obtain ⟨F2, rel2⟩ : ∃ F2, Rel X.K F2 H σ (frzI i env) := by
      unfold frzI
      split
      · rename_i d hd
        obtain ⟨fp, _, r⟩ := rel.freeze (.inl hd)
        exact ⟨_, r⟩
      · rename_i d hd
        obtain ⟨fp, _, r⟩ := rel.freeze (.inr hd)
        exact ⟨_, r⟩
      · exact ⟨F, rel⟩
    have back : ∀ {F' H' : Hp}, Ext F2 H F' H' → Ext F H F H' := fun x => ⟨Same.refl _, x.h, rel.sub.trans x.h, fun _ z => .inl z⟩
    refine ⟨F2, _, rel2, ?_⟩
    cases hr : ev G a (frzI i env) with
    | stuck => rw [hr] at q; exact q.elim
    | exc c =>
      rw [hr] at q
      exact fun F' H' x => q F H' (back x)
    | ok x =>
      rw [hr] at q
      intro F' H' x' v rv
      by_cases sc : scal x.2 = true
      · have q : Aft F H (fun c H' => W c σ H') (if scal x.2 = true then R.ok (Tag.sh, x.2) else R.stuck) (fun x F' H' => ∀ v, Res X.K H F' H' v x → Q v H') := q
        rw [if_pos sc] at q
        exact q F H' (back x') v (Is.scal (rv.is x'.s) sc)
      · have q : Aft F H (fun c H' => W c σ H') (if scal x.2 = true then R.ok (Tag.sh, x.2) else R.stuck) (fun x F' H' => ∀ v, Res X.K H F' H' v x → Q v H') := q
        rw [if_neg sc] at q
        exact q.elim
  | .frz a, X, W, sc, e, ft, h => by
    simp only [chkE, Bool.and_eq_true] at h
    refine pe_imp (sE a ft h.2) fun σ H Q q => ?_
    obtain ⟨F, env, rel, q⟩ := q
    unfold ev at q
    refine ⟨F, env, rel, q.oks fun x F1 H1 _ e1 q1 v rv => ?_⟩
    cases hd : (nt x.1 x.2).dm with
    | sh =>
      rw [hd] at q1
      obtain ⟨F2, e2, s2, i2⟩ := res_dm2 e1 (rv.nt e1.s) hd
      exact q1 F2 H1 e2 v i2
    | _ => rw [hd] at q1; exact q1.elim
  | .lst es, X, W, sc, e, ft, h => by
    cases e with
    | List xs p =>
      simp only [chkE] at h
      refine pe_imp (pe_lst (sEs es ft h)) fun σ H Q q => ?_
      obtain ⟨F, env, rel, q⟩ := q
      unfold ev at q
      refine ⟨F, env, rel, q.oks fun l F1 H1 _ e1 q1 vs rv => ?_⟩
      obtain ⟨g1, g2⟩ := q1.gd
      refine ⟨?_, (disp e1 rv).2 g2⟩
      have := (rv.is e1.s).len
      rw [List.length_map] at this
      rw [this]
      exact Nat.le_trans (of_decide_eq_true g1) lim_le
    | _ => simp [chkE] at h
  | .ix a b, X, W, sc, e, ft, h => by
    cases e with
    | Subscript v s p =>
      simp only [chkE, Bool.and_eq_true] at h
      refine pe_imp (pe_ix ix_D (sE a ft h.1.2) (sE b ft h.2) (plainIx_of h.1.1)) fun σ H Q q => ?_
      obtain ⟨F, env, rel, q⟩ := q
      unfold ev at q
      refine ⟨F, env, rel, q.bind.imp fun x F1 H1 _ e1 q1 v rv => ⟨F1, env, rel.ext e1, q1.bind.imp fun y F2 H2 _ e2 q2 u ru => ?_⟩⟩
      exact ⟨F2, x, y.2, e2.s, (rv.mono e2).back same0, ru.is e2.s, (q2.imp fun z F3 H3 _ e3 q3 w rw' => q3 w (rw'.back (e1.h.trans e2.h))).one e2.s (evIx_exc x y.2)⟩
    | _ => simp [chkE] at h
  | .sli a lo hi, X, W, sc, e, ft, h => by
    cases e with
    | Subscript v s p =>
      cases s with
      | Slice l u st p2 =>
        cases st with
        | none =>
          simp only [chkE, Bool.and_eq_true] at h
          refine pe_imp (pe_slice sl_D (sE a ft h.1.1) (sP lo ft h.1.2) (sP hi ft h.2)) fun σ H Q q => ?_
          obtain ⟨F, env, rel, q⟩ := q
          unfold ev at q
          refine ⟨F, env, rel, q.bind.imp fun x F1 H1 _ e1 q1 v rv => ⟨F1, env, rel.ext e1, q1.bind.imp fun y F2 H2 _ e2 q2 => ⟨F2, env, (rel.ext e1).ext e2, q2.bind.imp fun z F3 H3 _ e3 q3 => ?_⟩⟩⟩
          exact ⟨F3, x, e3.s, ((rv.mono e2).mono e3).back same0, (q3.imp fun z F4 H4 _ e4 q4 w rw' => q4 w (rw'.back ((e1.h.trans e2.h).trans e3.h))).one e3.s (evSl_exc x y z)⟩
        | some _ => simp [chkE] at h
      | _ => simp [chkE] at h
    | _ => simp [chkE] at h
  | .call f es, X, W, sc, e, ft, h => by
    cases e with
    | Call fn args kws pos =>
      cases fn with
      | Name x p =>
        match args, kws, h with
        | y :: ys, [], h =>
          simp only [chkE, Bool.and_eq_true, decide_eq_true_eq] at h
          obtain ⟨⟨⟨⟨rfl, h0⟩, h1⟩, h2⟩, h3⟩ := h
          have h0 : bang x = false := by simpa using h0
          cases hG : G x with
          | none =>
            refine ⟨fun pins s σ H Q I q => ?_⟩
            obtain ⟨F, env, rel, q⟩ := q
            unfold ev at q
            rw [hG] at q
            exact q.elim
          | some g =>
            obtain ⟨fa, fd, ps, hm, hk, hb, hF, ar⟩ := ft.gc.fns x g h0 hG
            refine pe_imp (pe_g (E := WE (wx cref W)) hF (ft.rm (.inl ⟨x, g, hG⟩)).1 ft.gd (ft.gl h1) hm hk hb (fun σ => passAt ft.tk σ) (sEs es ft h3) (chks_noStar h3) (nm_of h2).1) fun σ H Q q => ?_
            obtain ⟨F, env, rel, q⟩ := q
            unfold ev at q
            rw [hG] at q
            refine ⟨F, env, rel, q.oks fun l F1 H1 _ e1 q1 vs rv => called e1 rv ?_ q1⟩
            have hl : (l.map (·.2)).length = ps.length := ar _ fun z => by
              rw [z] at q1
              exact q1.elim
            rw [← hl]
            exact (rv.is e1.s).len
        | [], _, h => simp [chkE] at h
        | _ :: _, _ :: _, h => simp [chkE] at h
      | _ => simp [chkE] at h
    | _ => simp [chkE] at h
  | .glo x, X, W, sc, e, ft, h => by
    cases e with
    | Name y p =>
      simp only [chkE, Bool.and_eq_true, decide_eq_true_eq] at h
      obtain ⟨⟨rfl, h1⟩, h2⟩ := h
      cases hG : G (cgn x) with
      | none =>
        refine ⟨fun pins s σ H Q I q => ?_⟩
        obtain ⟨F, env, rel, q⟩ := q
        unfold ev at q
        rw [hG] at q
        exact q.elim
      | some g =>
        obtain ⟨d, u, v, e1, e2, e3, e4⟩ := ft.gc.con x g hG
        refine pe_imp (pe_glob (v := v) (ft.gl h1) e2 e3 (nm_of h2).1) fun σ H Q q => ?_
        obtain ⟨F, env, rel, q⟩ := q
        unfold ev at q
        rw [hG] at q
        have q : Aft F H (fun c H' => W c σ H') (g []) (fun x F' H' => ∀ v, Res X.K H F' H' v x → Q v H') := q
        rw [e1] at q
        exact q F H (Ext.refl rel.sub) _ (e4 F)
    | _ => simp [chkE] at h
  | .callD f es, X, W, sc, e, ft, h => by
    cases e with
    | Call fn args kws pos =>
      cases fn with
      | Name x p =>
        match args, kws, h with
        | y :: ys, [], h =>
          simp only [chkE, Bool.and_eq_true, decide_eq_true_eq] at h
          obtain ⟨⟨⟨rfl, h1⟩, h2⟩, h3⟩ := h
          cases hG : G (dfn x) with
          | none =>
            refine ⟨fun pins s σ H Q I q => ?_⟩
            obtain ⟨F, env, rel, q⟩ := q
            unfold ev at q
            rw [hG] at q
            exact q.elim
          | some g =>
            obtain ⟨fa, fd, ps, dus, dvs, dds, g0, hm, hk, hb, hv, hd, hF, hg, ar⟩ := ft.gc.dfl x g hG
            refine pe_imp (pe_gd (E := WE (wx cref W)) hF (ft.rm (.inl ⟨_, g, hG⟩)).1 ft.gd (ft.gl h1) hm hk hb hv (fun σ => passAt ft.tk σ) (sEs es ft h3) (chks_noStar h3) (nm_of h2).1) fun σ H Q q => ?_
            obtain ⟨F, env, rel, q⟩ := q
            unfold ev at q
            rw [hG] at q
            replace q : Aft F H (fun c H' => W c σ H') ((evs G es env).bind fun l => (g (l.map (·.2))).bind fun r => .ok (callTag (jnL l) r.1 r.2, r.2)) (fun x F' H' => ∀ v, Res X.K H F' H' v x → Q v H') := q
            refine ⟨F, env, rel, q.oks fun l F1 H1 _ e1 q1 vs rv => ?_⟩
            have rall := resL_sh rv (hd F1) e1.s
            have em : (l ++ dds.map fun d => (Tag.sh, d)).map (·.2) = l.map (·.2) ++ dds := by rw [List.map_append, List.map_map]; simp [Function.comp_def]
            rw [hg, ← em, ← jnL_sh l dds] at q1
            have hl : ((l ++ dds.map fun d => (Tag.sh, d)).map (·.2)).length = ps.length := ar _ fun z => by
              rw [z] at q1
              exact q1.elim
            have hlen : (vs ++ dvs).length = ps.length := by
              rw [← hl]
              exact (rall.is e1.s).len
            exact called e1 rall hlen q1
        | [], _, h => simp [chkE] at h
        | _ :: _, _ :: _, h => simp [chkE] at h
      | _ => simp [chkE] at h
    | _ => simp [chkE] at h
  | .srd a, X, W, sc, e, ft, h => by
    cases e with
    | Call fn args kws pos =>
      cases fn with
      | Name x p =>
        match args, kws, h with
        | [y], [], h =>
          simp only [chkE, Bool.and_eq_true, decide_eq_true_eq] at h
          obtain ⟨⟨⟨rfl, h1⟩, hr⟩, h2⟩ := h
          obtain ⟨g1, g2⟩ := ft.glN h1
          have st := star_cons (es := []) (env := X.env) (chk_noStar h2)
          refine pe_imp (pe_callB (call_sortedDI (ft.calm hr)) g1 g2 boot_sorted (pa_cons (sE a ft h2) pa_nil st) (by decide) (by decide) st rfl) fun σ H Q q => ?_
          obtain ⟨F, env, rel, q⟩ := q
          unfold ev at q
          refine ⟨F, env, rel, q.bind.imp fun x F1 H1 _ e1 q1 v rv => ?_⟩
          obtain ⟨t, d⟩ := x
          cases d with
          | dict kvs =>
            obtain ⟨p, es, rfl, h3, h4⟩ := res_dict rv e1.s
            have q1 : Aft F1 H1 (fun c H' => W c σ H') (match intKs kvs with | some ks => PV.guard (decide (ks.length < 64)) (.ok (.ow, .list ((ks.mergeSort fun a b => decide (a ≤ b)).map .int))) | none => .stuck) (fun x F' H' => ∀ v, Res X.K H F' H' v x → Q v H') := q1
            cases hk : intKs kvs with
            | none => rw [hk] at q1; exact q1.elim
            | some ks =>
              rw [hk] at q1
              obtain ⟨hl, q1⟩ := q1.gd
              refine ⟨p, es, ks, rfl, .inl h3, intKs_map hk h4, of_decide_eq_true hl, fun ys r pm srt nr => ?_⟩
              rw [sort_uniq pm srt]
              exact q1 F1 _ (Ext.new0 e1.s nr) _ ⟨r, rfl, e1.h.free nr, e1.s.free nr, _, upd_same, ints_isL _⟩
          | _ => exact q1.elim
        | [], _, h => simp [chkE] at h
        | [_], _ :: _, h => simp [chkE] at h
        | _ :: _ :: _, _, h => simp [chkE] at h
      | _ => simp [chkE] at h
    | _ => simp [chkE] at h
  | .callK f k es v, X, W, sc, e, ft, h => by
    cases e with
    | Call fn args kws pos =>
      cases fn with
      | Name x p =>
        match args, kws, h with
        | y :: ys, [⟨some z, u, kp⟩], h =>
          simp only [chkE, Bool.and_eq_true, decide_eq_true_eq] at h
          obtain ⟨⟨⟨⟨⟨rfl, rfl⟩, h1⟩, h2⟩, h3⟩, h4⟩ := h
          cases hG : G (kwn x z) with
          | none =>
            refine ⟨fun pins s σ H Q I q => ?_⟩
            obtain ⟨F, env, rel, q⟩ := q
            unfold ev at q
            rw [hG] at q
            exact q.elim
          | some g =>
            obtain ⟨fa, fd, ps, m, hm, hk, hb, hF, ar, hmn⟩ := ft.gc.kwf x z g hG
            refine pe_imp (pe_gk (E := WE (wx cref W)) hF (ft.rm (.inl ⟨_, g, hG⟩)).1 ft.gd (ft.gl h1) hm hk hb (fun σ => passAt ft.tk σ) (sEs es ft h3) (chks_noStar h3) (pk_cons (sE v ft h4) pk_nil) (nm_of h2).1) fun σ H Q q => ?_
            obtain ⟨F, env, rel, q⟩ := q
            unfold ev at q
            rw [hG] at q
            replace q : Aft F H (fun c H' => W c σ H') ((evs G es env).bind fun l => (ev G v env).bind fun y => (g ((l ++ [y]).map (·.2))).bind fun r => .ok (callTag (jnL (l ++ [y])) r.1 r.2, r.2)) (fun x F' H' => ∀ v, Res X.K H F' H' v x → Q v H') := q
            refine ⟨F, env, rel, q.oks fun l F1 H1 _ e1 q1 vs rv => ⟨F1, env, rel.ext e1, ?_⟩⟩
            cases hv : ev G v env with
            | stuck => rw [hv] at q1; exact q1.elim
            | exc c => rw [hv] at q1; exact fun F2 H2 e2 => q1 F2 H2 (e1.trans e2)
            | ok yv =>
              rw [hv] at q1
              replace q1 : Aft F H (fun c H' => W c σ H') ((g ((l ++ [yv]).map (·.2))).bind fun r => .ok (callTag (jnL (l ++ [yv])) r.1 r.2, r.2)) (fun x F' H' => ∀ v, Res X.K H F' H' v x → Q v H') := q1
              intro F2 H2 e2 w rw'
              have rall := rv.snoc e2 (rw'.back e1.h)
              have hl : ((l ++ [yv]).map (·.2)).length = ps.length := ar _ fun z => by
                rw [z] at q1
                exact q1.elim
              have hlen : (vs ++ [w]).length = ps.length := by
                rw [← hl]
                exact (rall.is e2.s).len
              refine ⟨?_, rfl, called (e1.trans e2) rall hlen q1⟩
              rw [List.length_append, List.length_singleton] at hlen
              omega
        | [], _, h => simp [chkE] at h
        | _ :: _, [], h => simp [chkE] at h
        | _ :: _, [⟨none, _, _⟩], h => simp [chkE] at h
        | _ :: _, ⟨some _, _, _⟩ :: _ :: _, h => simp [chkE] at h
        | _ :: _, ⟨none, _, _⟩ :: _ :: _, h => simp [chkE] at h
      | _ => simp [chkE] at h
    | _ => simp [chkE] at h
  | .bi b es, X, W, sc, e, ft, h => by
    cases e with
    | Call fn args kws pos =>
      cases fn with
      | Name x p =>
        match args, kws, h with
        | y :: ys, [], h =>
          simp only [chkE, Bool.and_eq_true, decide_eq_true_eq] at h
          obtain ⟨⟨⟨rfl, h1⟩, hq⟩, h3⟩ := h
          obtain ⟨g1, g2⟩ := ft.glN h1
          refine pe_imp (Bi.rule ft b g1 g2 (by simp only [PV.glN, Bool.and_eq_true, decide_eq_true_eq] at h1; exact h1.2) (by simpa using hq) (sEs es ft h3) (chks_noStar h3)) fun σ H Q q => ?_
          obtain ⟨F, env, rel, q⟩ := q
          unfold ev at q
          refine ⟨F, env, rel, q.bind.imp fun l F1 H1 _ e1 q1 vs rv => ?_⟩
          exact ⟨F1, l, e1.s, rv.back same0, (q1.imp fun z F3 H3 _ e3 q3 w rw' => q3 w (rw'.back e1.h)).one e1.s (evBi_exc b l)⟩
        | [], _, h => simp [chkE] at h
        | _ :: _, _ :: _, h => simp [chkE] at h
      | _ => simp [chkE] at h
    | _ => simp [chkE] at h
  | .isi a t, X, W, sc, e, ft, h => by
    cases e with
    | Call fn args kws pos =>
      cases fn with
      | Name x p =>
        match args, kws, h with
        | [y, nz], [], h =>
         cases nz with
         | Name z pz =>
          simp only [chkE, Bool.and_eq_true, decide_eq_true_eq] at h
          obtain ⟨⟨⟨⟨rfl, h1⟩, rfl⟩, h2⟩, h3⟩ := h
          obtain ⟨g1, g2⟩ := ft.glN h1
          obtain ⟨g3, g4⟩ := ft.glN h2
          have hz : PE X (.Name (Str.ofString t.name) pz) (tC (.ty t.name)) := pe_bltn (u := .type t.name) g3 g4 (ty_boot t) rfl (ty_nm t).1 (ty_nm t).2
          have st := star_cons (es := [.Name (Str.ofString t.name) pz]) (env := X.env) (chk_noStar h3)
          refine pe_imp (pe_callB (bi_isi t) g1 g2 boot_isinstance (pa_cons (sE a ft h3) (pa_cons hz pa_nil) st) (by decide) (by decide) st rfl) fun σ H Q q => ?_
          obtain ⟨F, env, rel, q⟩ := q
          unfold ev at q
          refine ⟨F, env, rel, q.bind.imp fun x F1 H1 _ e1 q1 v rv => ?_⟩
          cases hb : isT t x.2 with
          | none => rw [hb] at q1; exact q1.elim
          | some b =>
            rw [hb] at q1
            exact ⟨v, x.2, b, rfl, rv.is e1.s, hb, q1 F1 H1 (Ext.refl e1.s) _ (bool_is (K := X.K) (H := F1))⟩
         | _ => simp [chkE] at h
        | [], _, h => simp [chkE] at h
        | [_], _, h => simp [chkE] at h
        | _ :: _ :: _ :: _, _, h => simp [chkE] at h
        | [_, w], k :: ks, h => simp [chkE] at h
      | _ => simp [chkE] at h
    | _ => simp [chkE] at h
  | .join a b, X, W, sc, e, ft, h => by
    cases e with
    | Call fn args kws pos =>
      cases fn with
      | Attribute o m ap =>
        match args, kws, h with
        | [y], [], h =>
          simp only [chkE, Bool.and_eq_true, decide_eq_true_eq] at h
          obtain ⟨⟨⟨⟨rfl, h1⟩, h2⟩, h3⟩, h4⟩ := h
          have st := star_cons (es := []) (env := X.env) (chk_noStar h4)
          have hb : attributeBase o "join" X.env (eval o X.env) = eval o X.env := by cases o <;> first | rfl | cases h2
          refine pe_imp (pe_join (sE a ft h3) (sE b ft h4) st hb (beq_iff_eq.mpr h1)) fun σ H Q q => ?_
          obtain ⟨F, env, rel, q⟩ := q
          unfold ev at q
          refine ⟨F, env, rel, q.bind.imp fun x F1 H1 _ e1 q1 v rv => ?_⟩
          cases hx : x.2 with
          | str z =>
            rw [hx] at q1
            have ix := rv.is e1.s
            rw [hx] at ix
            replace q1 : Aft F1 H1 (fun c H' => W c σ H') ((ev G b env).bind fun y => evJoin z y.2) (fun x F' H' => ∀ v, Res X.K H F' H' v x → Q v H') := q1
            refine ⟨⟨z, is_str ix⟩, F1, env, rel.ext e1, q1.bind.imp fun y F2 H2 _ e2 q2 u ru => ?_⟩
            obtain ⟨t, d⟩ := y
            cases d with
            | list xs =>
              cases hs : strL xs with
              | none =>
                unfold evJoin at q2
                simp only [hs] at q2
                exact q2.elim
              | some ys =>
                unfold evJoin at q2
                simp only [hs] at q2
                obtain ⟨c, q3⟩ := q2.gd
                obtain ⟨p, vs, rfl, h5, h6⟩ := ru.list e2.s
                have hv : vs = ys.map V.str := strL_is (X := X) hs (h6.mono (hp_same e2.s))
                subst hv
                exact ⟨z, p, ys, is_str ix, rfl, .inl h5.seq, Nat.le_trans (of_decide_eq_true c) (by decide), q3 F2 H2 (Ext.refl e2.s) _ (str_is (K := X.K) (H := F2))⟩
            | _ => exact q2.elim
          | _ => rw [hx] at q1; exact q1.elim
        | [], _, h => simp [chkE] at h
        | [_], _ :: _, h => simp [chkE] at h
        | _ :: _ :: _, _, h => simp [chkE] at h
      | _ => simp [chkE] at h
    | _ => simp [chkE] at h
  | .dnew, X, W, sc, e, ft, h => by
    cases e with
    | Dict ks vs p =>
      match ks, vs, h with
      | [], [], h =>
        refine pe_imp pe_dnewK fun σ H Q q => ?_
        obtain ⟨F, env, rel, q⟩ := q
        unfold ev at q
        exact fun p np => q F _ (Ext.new0 rel.sub np) _ ⟨p, rfl, np, rel.sub.free np, [], upd_same, by simp only [IsK]⟩
      | [], _ :: _, h => simp [chkE] at h
      | _ :: _, _, h => simp [chkE] at h
    | _ => simp [chkE] at h
  | .dix a b, X, W, sc, e, ft, h => by
    cases e with
    | Subscript v s p =>
      simp only [chkE, Bool.and_eq_true] at h
      have hu : X.A.units + 1 < cLine := by
        have := ft.un
        omega
      exact pe_imp (pe_dget hu (sE a ft h.1.2) (sE b ft h.2) (noSl_of h.1.1)) fun σ H Q q => dix_read q
    | _ => simp [chkE] at h
  | .dcpy a, X, W, sc, e, ft, h => by
    cases e with
    | Call fn args kws pos =>
      cases fn with
      | Name x p =>
        match args, kws, h with
        | [y], [], h =>
          simp only [chkE, Bool.and_eq_true, decide_eq_true_eq] at h
          obtain ⟨⟨rfl, h1⟩, h2⟩ := h
          obtain ⟨g1, g2⟩ := ft.glN h1
          have st := star_cons (es := []) (env := X.env) (chk_noStar h2)
          refine pe_imp (pe_callTy call_dictD g1 g2 boot_dct (pa_cons (sE a ft h2) pa_nil st) (by decide) (by decide) st rfl) fun σ H Q q => ?_
          obtain ⟨F, env, rel, q⟩ := q
          unfold ev at q
          refine ⟨F, env, rel, q.bind.imp fun x F1 H1 _ e1 q1 v rv => ?_⟩
          obtain ⟨t, d⟩ := x
          cases d with
          | dict kvs =>
            obtain ⟨p, es, rfl, h3, h4⟩ := res_dict rv e1.s
            refine ⟨p, es, rfl, .inl h3, fun r nr => ?_⟩
            have q1 : Aft F1 H1 (fun c H' => W c σ H') (.ok (t.kid.root, .dict kvs)) (fun x F' H' => ∀ v, Res X.K H F' H' v x → Q v H') := q1
            refine q1 F1 _ (Ext.new0 e1.s nr) _ ?_
            rcases kid_cases t with z | z
            · rw [z] at h4 ⊢
              exact ⟨r, rfl, e1.h.free nr, e1.s.free nr, es, upd_same, h4⟩
            · rw [z] at h4 ⊢
              show Is X.K (upd H1 r (.dK es)) (.dict kvs) (.ref r)
              simp only [Is]
              exact ⟨r, es, rfl, upd_same, h4.mono (same_upd nr)⟩
          | _ => exact q1.elim
        | [], _, h => simp [chkE] at h
        | [_], _ :: _, h => simp [chkE] at h
        | _ :: _ :: _, _, h => simp [chkE] at h
      | _ => simp [chkE] at h
    | _ => simp [chkE] at h
  | .cpr own tg src c e, X, W, sc, x, ft, h => by
    cases x with
    | ListComp elt gs scope p =>
      match gs, h with
      | [⟨t, it, ifs, z⟩], h =>
        simp only [chkE, Bool.and_eq_true, decide_eq_true_eq] at h
        obtain ⟨⟨⟨⟨⟨⟨⟨⟨rfl, hr⟩, h1⟩, h2⟩, h3⟩, h4⟩, h5⟩, h6⟩, h7⟩ := h
        have hN := ft.hN
        have hsc := ft.hsc
        refine pe_imp (pe_lc (own := own) (ft.calm hr) (by rw [hN]; exact ft.nd) (sSrc src ft h3) (by rw [hN, hsc]; exact blkOk_by h1)
          (fun s H C cl fp => pg_of (cok := fun x => scope.names.lookup x == some .cell) (ft.blk s H scope cl C fp).hN ft.nd (ft.blk s H scope cl C fp).hsc (fun x hx => hx) (ft.calm hr) h2)
          (fun s H C cl fp => sIf c (ft.blk s H scope cl C fp) h4 h5)
          (fun s H C cl fp => sE e (ft.blk s H scope cl C fp) h6) (nofold (src_noSet h3))) fun σ H Q q => lc_read h7 σ H Q q
      | [], h => simp [chkE] at h
      | _ :: _ :: _, h => simp [chkE] at h
    | _ => simp [chkE] at h
theorem sEs : ∀ (es : Exs) {X : Cx} {W : Wd} {sc : Scope} {xs : List Expr}, Fit X W cref n G bs cs N sc → chkEs N bs es sc xs = true → PA X xs (tEs X.K W G es)
  | .nil, X, W, sc, [], ft, h => pa_imp pa_nil fun σ H Q ⟨F, env, rel, q⟩ => q F H (Ext.refl rel.sub) [] rfl
  | .nil, _, _, _, _ :: _, _, h => by simp [chkEs] at h
  | .cons _ _, _, _, _, [], _, h => by simp [chkEs] at h
  | .cons e es, X, W, sc, x :: xs, ft, h => by
    simp only [chkEs, Bool.and_eq_true] at h
    refine pa_imp (pa_cons (sE e ft h.1) (sEs es ft h.2) (star_cons (chk_noStar h.1))) fun σ H Q q => ?_
    obtain ⟨F, env, rel, q⟩ := q
    unfold evs at q
    refine ⟨F, env, rel, q.bind.imp fun a F1 H1 _ e1 q1 v rv => ⟨F1, env, rel.ext e1, q1.bind.imp fun l F2 H2 _ e2 q2 vs rvs => ?_⟩⟩
    exact q2 F2 H2 (Ext.refl e2.s) (v :: vs) ⟨v, vs, rfl, rv.mono e2, rvs.back e1.h⟩
theorem sFs : ∀ (es : Exs) {X : Cx} {W : Wd} {sc : Scope} {xs : List Expr}, Fit X W cref n G bs cs N sc → chkFs N bs es sc xs = true → PJ X xs (tFs X.K W G es)
  | .nil, X, W, sc, [], ft, h => .nil
  | .nil, _, _, _, x :: _, _, h => by cases x <;> simp [chkFs] at h
  | .cons _ _, _, _, _, [], _, h => by simp [chkFs] at h
  | .cons e es, X, W, sc, x :: xs, ft, h => by
    cases x with
    | Constant c k p =>
      simp only [chkFs, Bool.and_eq_true] at h
      obtain ⟨⟨h1, h2⟩, h3⟩ := h
      refine .cons ?_ (sFs es ft h3)
      unfold isSC at h1
      split at h1
      · simp only [chkE, Bool.and_eq_true, decide_eq_true_eq] at h2
        obtain ⟨rfl, _⟩ := h2
        exact pe_str
      · cases h1
    | FormattedValue u c f p =>
      cases f with
      | none =>
        simp only [chkFs, Bool.and_eq_true, decide_eq_true_eq] at h
        obtain ⟨⟨⟨rfl, h1⟩, h2⟩, h3⟩ := h
        have h1 : isSC e = false := by simpa using h1
        have := pe_fmt (pos := p) (sE e ft h2)
        rw [← tPart_ne h1] at this
        exact .cons this (sFs es ft h3)
      | some f => simp [chkFs] at h
    | _ => simp [chkFs] at h
theorem sP : ∀ (p : Pt) {X : Cx} {W : Wd} {sc : Scope} {x : Option Expr}, Fit X W cref n G bs cs N sc → chkP N bs p sc x = true → PO X x (tP X.K W G p)
  | .no, X, W, sc, none, ft, h => po_imp po_none fun σ H Q ⟨F, env, rel, q⟩ => q F H (Ext.refl rel.sub)
  | .no, _, _, _, some _, _, h => by simp [chkP] at h
  | .at _, _, _, _, none, _, h => by simp [chkP] at h
  | .at e, X, W, sc, some x, ft, h => by
    simp only [chkP] at h
    refine po_imp (po_some (sE e ft h)) fun σ H Q q => ?_
    obtain ⟨F, env, rel, q⟩ := q
    unfold evP at q
    refine ⟨F, env, rel, q.bind.imp fun a F1 H1 _ e1 q1 v rv => ?_⟩
    obtain ⟨i, hi, q2⟩ := isInt_ok q1
    have e2 := rv.is e1.s
    rw [hi] at e2
    exact ⟨i, is_int e2, q2 F1 H1 (Ext.refl e1.s)⟩
theorem sAnd : ∀ (es : Exs) {X : Cx} {W : Wd} {sc : Scope} {xs : List Expr} {p : Pos}, Fit X W cref n G bs cs N sc → chkEs N bs es sc xs = true → PE X (.BoolOp .And xs p) (tAn X.K W G es)
  | .nil, _, _, _, _, _, _, _ => ⟨fun _ _ _ _ _ _ ⟨_, _, _, q⟩ => q.elim⟩
  | .cons e .nil, X, W, sc, xs, p, ft, h => by
    match xs, h with
    | [x], h =>
      simp only [chkEs, Bool.and_eq_true] at h
      exact pe_imp (pe_one (sE e ft h.1)) fun σ H Q ⟨F, env, rel, q⟩ => ⟨F, env, rel, q⟩
    | [], h => simp [chkEs] at h
    | _ :: _ :: _, h => simp [chkEs] at h
  | .cons e (.cons e2 es), X, W, sc, xs, p, ft, h => by
    match xs, h with
    | x :: y :: ys, h =>
      have h' : chkE N bs e sc x = true ∧ chkEs N bs (.cons e2 es) sc (y :: ys) = true := by
        rw [chkEs, Bool.and_eq_true] at h
        exact h
      refine pe_imp (pe_and (sE e ft h'.1) (sAnd (.cons e2 es) ft h'.2)) fun σ H Q q => ?_
      obtain ⟨F, env, rel, q⟩ := q
      unfold evAnd at q
      refine ⟨F, env, rel, q.bind.imp fun a F1 H1 _ e1 q1 v rv => ?_⟩
      obtain ⟨b, hb, q2⟩ := isBool_ok q1
      have e2 := rv.is e1.s
      rw [hb] at e2
      refine ⟨b, is_bool e2, ?_⟩
      cases b with
      | true => exact iteT ⟨F1, env, rel.ext e1, q2.imp fun z F3 H3 _ e3 q3 w rw' => q3 w (rw'.back e1.h)⟩
      | false => exact iteF (q2 F1 H1 (Ext.refl e1.s) _ (bool_is (K := X.K) (H := F1)))
    | [], h => simp [chkEs] at h
    | [_], h => simp [chkEs] at h
theorem sOr : ∀ (es : Exs) {X : Cx} {W : Wd} {sc : Scope} {xs : List Expr} {p : Pos}, Fit X W cref n G bs cs N sc → chkEs N bs es sc xs = true → PE X (.BoolOp .Or xs p) (tOn X.K W G es)
  | .nil, _, _, _, _, _, _, _ => ⟨fun _ _ _ _ _ _ ⟨_, _, _, q⟩ => q.elim⟩
  | .cons e .nil, X, W, sc, xs, p, ft, h => by
    match xs, h with
    | [x], h =>
      simp only [chkEs, Bool.and_eq_true] at h
      exact pe_imp (pe_one (sE e ft h.1)) fun σ H Q ⟨F, env, rel, q⟩ => ⟨F, env, rel, q⟩
    | [], h => simp [chkEs] at h
    | _ :: _ :: _, h => simp [chkEs] at h
  | .cons e (.cons e2 es), X, W, sc, xs, p, ft, h => by
    match xs, h with
    | x :: y :: ys, h =>
      have h' : chkE N bs e sc x = true ∧ chkEs N bs (.cons e2 es) sc (y :: ys) = true := by
        rw [chkEs, Bool.and_eq_true] at h
        exact h
      refine pe_imp (pe_or (sE e ft h'.1) (sOr (.cons e2 es) ft h'.2)) fun σ H Q q => ?_
      obtain ⟨F, env, rel, q⟩ := q
      unfold evOr at q
      refine ⟨F, env, rel, q.bind.imp fun a F1 H1 _ e1 q1 v rv => ?_⟩
      obtain ⟨b, hb, q2⟩ := isBool_ok q1
      have e2 := rv.is e1.s
      rw [hb] at e2
      refine ⟨b, is_bool e2, ?_⟩
      cases b with
      | false => exact iteF ⟨F1, env, rel.ext e1, q2.imp fun z F3 H3 _ e3 q3 w rw' => q3 w (rw'.back e1.h)⟩
      | true => exact iteT (q2 F1 H1 (Ext.refl e1.s) _ (bool_is (K := X.K) (H := F1)))
    | [], h => simp [chkEs] at h
    | [_], h => simp [chkEs] at h
theorem sT : ∀ (t : Te) {X : Cx} {W : Wd} {sc : Scope} {e : Expr}, Fit X W cref n G bs cs N sc → chkT N bs t sc e = true → PT X e (tT X.K W G t)
  | .val ex, X, W, sc, e, ft, h => by
    simp only [chkT, Bool.and_eq_true] at h
    obtain ⟨hv, h⟩ := h
    have P := sE ex ft h
    cases e with
    | Call fn args kws pos => exact pt_imp (pt_val P) fun σ H Q q => val_read q
    | Compare l ops rs p =>
      cases ex with
      | cmp o a b =>
        match ops, rs, h with
        | [op], [r], h =>
          simp only [chkE, Bool.and_eq_true, decide_eq_true_eq] at h
          obtain ⟨⟨rfl, h1⟩, h2⟩ := h
          exact pt_imp (pt_cmpR (op_cmp ft.un o) (sE a ft h1) (sE b ft h2) (nomark_of (chk_noSet h2))) fun σ H Q q => cmp_read (val_read q)
        | [], _, h => simp [chkE] at h
        | _ :: _ :: _, [], h => simp [chkE] at h
        | [_], [], h => simp [chkE] at h
        | [_], _ :: _ :: _, h => simp [chkE] at h
        | _ :: _ :: _, _ :: _, h => simp [chkE] at h
      | chn o o2 a b c =>
        match ops, rs, h with
        | [op, op'], [m, r], h =>
          simp only [chkE, Bool.and_eq_true, decide_eq_true_eq] at h
          obtain ⟨⟨⟨⟨rfl, rfl⟩, h1⟩, h2⟩, h3⟩ := h
          exact pt_imp (pt_chain (op_cmp ft.un o) (op_cmp ft.un o2) (sE a ft h1) (sE b ft h2) (sE c ft h3) (show lastMarks [_, _] [_, _] = false from nomark_of (chk_noSet h3))) fun σ H Q q => chn_read (val_read q)
        | [], _, h => simp [chkE] at h
        | [_], _, h => simp [chkE] at h
        | [_, _], [], h => simp [chkE] at h
        | [_, _], [_], h => simp [chkE] at h
        | [_, _], _ :: _ :: _ :: _, h => simp [chkE] at h
        | _ :: _ :: _ :: _, _, h => simp [chkE] at h
      | _ => simp [chkE, frzE, isLC] at h
    | _ => cases hv
  | .tru ex, X, W, sc, e, ft, h => by
    simp only [chkT, Bool.and_eq_true] at h
    obtain ⟨hv, h⟩ := h
    have P := sE ex ft h
    cases e with
    | Name x p => exact pt_imp (pt_truth P fun _ => rfl) fun σ H Q q => tru_read q
    | Subscript v s p => exact pt_imp (pt_truth P fun _ => rfl) fun σ H Q q => tru_read q
    | Call fn args kws pos => exact pt_imp (pt_truth P fun _ => rfl) fun σ H Q q => tru_read q
    | _ => cases hv
  | .not a, X, W, sc, e, ft, h => by
    cases e with
    | UnaryOp op x p =>
      cases op with
      | Not =>
        simp only [chkT] at h
        refine pt_imp (pt_not (sT a ft h)) fun σ H Q q => ?_
        obtain ⟨F, env, rel, q⟩ := q
        unfold evT at q
        exact ⟨F, env, rel, q.bind.imp fun b F1 H1 _ e1 q1 => q1 F1 H1 (Ext.refl e1.s)⟩
      | _ => simp [chkT] at h
    | _ => simp [chkT] at h
  | .and ts, X, W, sc, e, ft, h => by
    cases e with
    | BoolOp op xs p =>
      cases op with
      | And =>
        simp only [chkT, Bool.and_eq_true] at h
        exact pt_imp (sTsA ts ft h.2 h.1).pt fun σ H Q ⟨F, env, rel, q⟩ => ⟨F, env, rel, by unfold evT at q; exact q⟩
      | Or => simp [chkT] at h
    | _ => simp [chkT] at h
  | .or ts, X, W, sc, e, ft, h => by
    cases e with
    | BoolOp op xs p =>
      cases op with
      | Or =>
        simp only [chkT, Bool.and_eq_true] at h
        exact pt_imp (sTsO ts ft h.2 h.1).pt fun σ H Q ⟨F, env, rel, q⟩ => ⟨F, env, rel, by unfold evT at q; exact q⟩
      | And => simp [chkT] at h
    | _ => simp [chkT] at h
theorem sTsA : ∀ (ts : Tes) {X : Cx} {W : Wd} {sc : Scope} {xs : List Expr} {p : Pos}, Fit X W cref n G bs cs N sc → chkTs N bs ts sc xs = true → (!xs.isEmpty) = true → PW X (.BoolOp .And xs p) (tTA X.K W G ts)
  | .nil, X, W, sc, xs, p, ft, h, ne => by
    cases xs with
    | nil => cases ne
    | cons x xs => simp [chkTs] at h
  | .cons t ts, X, W, sc, xs, p, ft, h, ne => by
    match xs, h with
    | [], h => simp [chkTs] at h
    | [x], h =>
      simp only [chkTs, Bool.and_eq_true] at h
      refine pw_imp (pw_and1 (sT t ft h.1)) fun σ H Q q => ?_
      have hn : ts = .nil := by
        cases ts with
        | nil => rfl
        | cons a b => simp [chkTs] at h
      subst hn
      obtain ⟨F, env, rel, q⟩ := q
      unfold evTA at q
      refine ⟨F, env, rel, q.oks fun b F1 H1 _ e1 q1 => ?_⟩
      cases b with
      | true => exact q1 F1 H1 e1
      | false => exact q1 F1 H1 e1
    | x :: y :: ys, h =>
      have h' : chkT N bs t sc x = true ∧ chkTs N bs ts sc (y :: ys) = true := by
        rw [chkTs, Bool.and_eq_true] at h
        exact h
      refine pw_imp (pw_and (sT t ft h'.1) (sTsA ts ft h'.2 rfl)) fun σ H Q q => ?_
      obtain ⟨F, env, rel, q⟩ := q
      unfold evTA at q
      refine ⟨F, env, rel, q.bind.imp fun b F1 H1 _ e1 q1 => ?_⟩
      cases b with
      | true => exact iteT ⟨F1, env, rel.ext e1, q1⟩
      | false => exact iteF (q1 F1 H1 (Ext.refl e1.s))
theorem sTsO : ∀ (ts : Tes) {X : Cx} {W : Wd} {sc : Scope} {xs : List Expr} {p : Pos}, Fit X W cref n G bs cs N sc → chkTs N bs ts sc xs = true → (!xs.isEmpty) = true → PW X (.BoolOp .Or xs p) (tTO X.K W G ts)
  | .nil, X, W, sc, xs, p, ft, h, ne => by
    cases xs with
    | nil => cases ne
    | cons x xs => simp [chkTs] at h
  | .cons t ts, X, W, sc, xs, p, ft, h, ne => by
    match xs, h with
    | [], h => simp [chkTs] at h
    | [x], h =>
      simp only [chkTs, Bool.and_eq_true] at h
      refine pw_imp (pw_or1 (sT t ft h.1)) fun σ H Q q => ?_
      have hn : ts = .nil := by
        cases ts with
        | nil => rfl
        | cons a b => simp [chkTs] at h
      subst hn
      obtain ⟨F, env, rel, q⟩ := q
      unfold evTO at q
      refine ⟨F, env, rel, q.oks fun b F1 H1 _ e1 q1 => ?_⟩
      cases b with
      | true => exact q1 F1 H1 e1
      | false => exact q1 F1 H1 e1
    | x :: y :: ys, h =>
      have h' : chkT N bs t sc x = true ∧ chkTs N bs ts sc (y :: ys) = true := by
        rw [chkTs, Bool.and_eq_true] at h
        exact h
      refine pw_imp (pw_or (sT t ft h'.1) (sTsO ts ft h'.2 rfl)) fun σ H Q q => ?_
      obtain ⟨F, env, rel, q⟩ := q
      unfold evTO at q
      refine ⟨F, env, rel, q.bind.imp fun b F1 H1 _ e1 q1 => ?_⟩
      cases b with
      | false => exact iteF ⟨F1, env, rel.ext e1, q1⟩
      | true => exact iteT (q1 F1 H1 (Ext.refl e1.s))
theorem sIf : ∀ (ts : Tes) {X : Cx} {W : Wd} {sc : Scope} {xs : List Expr}, Fit X W cref n G bs cs N sc → chkTs N bs ts sc xs = true → xs.length ≤ 1 → PTs X xs (tTA X.K W G ts)
  | .nil, X, W, sc, xs, ft, h, hl => by
    cases xs with
    | nil => exact ⟨fun pins s σ H Q I q => pts_nil.run pins s σ H Q I (by obtain ⟨F, env, rel, q⟩ := q; unfold evTA at q; exact q F H (Ext.refl rel.sub))⟩
    | cons x xs => simp [chkTs] at h
  | .cons t ts, X, W, sc, xs, ft, h, hl => by
    match xs, h, hl with
    | [], h, _ => simp [chkTs] at h
    | [x], h, _ =>
      simp only [chkTs, Bool.and_eq_true] at h
      have hn : ts = .nil := by
        cases ts with
        | nil => rfl
        | cons a b => simp [chkTs] at h
      subst hn
      refine ⟨fun pins s σ H Q I q => (pts_one (sT t ft h.1)).run pins s σ H Q I ?_⟩
      obtain ⟨F, env, rel, q⟩ := q
      unfold evTA at q
      refine ⟨F, env, rel, q.oks fun b F1 H1 _ e1 q1 => ?_⟩
      cases b with
      | true => exact q1 F1 H1 e1
      | false => exact q1 F1 H1 e1
    | _ :: _ :: _, _, hl => exact absurd hl (by simp)
theorem sSrc : ∀ (src : Src) {X : Cx} {W : Wd} {sc : Scope} {tg e : Expr}, Fit X W cref n G bs cs N sc → chkSrc N bs src sc e tg = true → PI X tg e (tSrc X.K W G src)
  | .lst a, X, W, sc, tg, e, ft, h => by
    simp only [chkSrc, Bool.and_eq_true] at h
    refine pi_imp (pi_list (sE a ft h.2)) fun σ H R' q => ?_
    obtain ⟨F, env, rel, q⟩ := q
    unfold evSrc at q
    refine ⟨F, env, rel, q.bind.imp fun x F1 H1 _ e1 q1 v rv => ?_⟩
    obtain ⟨t, d⟩ := x
    cases d with
    | list ds =>
      obtain ⟨a, vs, rfl, h1, h2⟩ := rv.list e1.s
      refine ⟨a, rfl, ⟨vs, h1.seq⟩, q1 F1 H1 (Ext.refl e1.s) _ (ok_list h1 h2) fun c => ?_⟩
      obtain ⟨F2, e2, _, i2⟩ := res_dm2 e1 rv c
      obtain ⟨a', vs', z, h3, h4⟩ := is_list i2
      cases z
      exact ⟨F2, e2, ok_list h3 h4⟩
    | _ => exact q1.elim
  | .tup a, X, W, sc, tg, e, ft, h => by
    simp only [chkSrc, Bool.and_eq_true] at h
    refine pi_imp (pi_tup (sE a ft h.2)) fun σ H R' q => ?_
    obtain ⟨F, env, rel, q⟩ := q
    unfold evSrc at q
    refine ⟨F, env, rel, q.bind.imp fun x F1 H1 _ e1 q1 v rv => ?_⟩
    obtain ⟨t, d⟩ := x
    cases d with
    | tuple ds =>
      obtain ⟨a, vs, rfl, h1, h2⟩ := rv.tuple e1.s
      refine ⟨a, rfl, ⟨vs, h1⟩, q1 F1 H1 (Ext.refl e1.s) _ (ok_tup h1 h2) fun c => ?_⟩
      obtain ⟨F2, e2, _, i2⟩ := res_dm2 e1 rv c
      obtain ⟨a', vs', z, h3, h4⟩ := is_tuple i2
      cases z
      exact ⟨F2, e2, ok_tup h3 h4⟩
    | _ => exact q1.elim
  | .rg1 a, X, W, sc, tg, e, ft, h => by
    cases e with
    | Call fn args kws pos =>
      cases fn with
      | Name x p =>
        match args, kws, h with
        | [y], [], h =>
          simp only [chkSrc, Bool.and_eq_true, decide_eq_true_eq] at h
          obtain ⟨⟨rfl, h1⟩, h2⟩ := h
          obtain ⟨g1, g2⟩ := ft.glN h1
          have st := star_cons (es := []) (env := X.env) (chk_noStar h2)
          refine pi_imp (pi_range1 g1 g2 (pa_cons (sE a ft h2) pa_nil st) st) fun σ H R' q => ?_
          obtain ⟨F, env, rel, q⟩ := q
          unfold evSrc at q
          refine ⟨F, env, rel, q.bind.imp fun x F1 H1 _ e1 q1 v rv => ?_⟩
          obtain ⟨j, hj, q2⟩ := isInt_ok q1
          have e2 := rv.is e1.s
          rw [hj] at e2
          by_cases hs : small j = true
          · rw [if_pos hs] at q2
            simp only [small, Bool.and_eq_true, decide_eq_true_eq] at hs
            refine ⟨j, by rw [is_int e2], hs.1, hs.2, q2 F1 H1 (Ext.refl e1.s) _ ?_ fun _ => ⟨F1, e1, ?_⟩⟩
            · have := ok_rng (K := X.K) (lo := 0) (hi := j) (Po := H1) (Pi := hp Tag.sh.kid F1 H1)
              rwa [Int.sub_zero] at this
            · have := ok_rng (K := X.K) (lo := 0) (hi := j) (Po := F1) (Pi := F1)
              rwa [Int.sub_zero] at this
          · rw [if_neg hs] at q2
            exact q2.elim
        | [], _, h => simp [chkSrc] at h
        | [_], _ :: _, h => simp [chkSrc] at h
        | _ :: _ :: _, _, h => simp [chkSrc] at h
      | _ => simp [chkSrc] at h
    | _ => simp [chkSrc] at h
  | .rg2 a b, X, W, sc, tg, e, ft, h => by
    cases e with
    | Call fn args kws pos =>
      cases fn with
      | Name x p =>
        match args, kws, h with
        | [y, z], [], h =>
          simp only [chkSrc, Bool.and_eq_true, decide_eq_true_eq] at h
          obtain ⟨⟨⟨rfl, h1⟩, h2⟩, h3⟩ := h
          obtain ⟨g1, g2⟩ := ft.glN h1
          have st := star_cons (es := []) (env := X.env) (chk_noStar h3)
          have st2 := star_cons (es := [z]) (env := X.env) (chk_noStar h2)
          refine pi_imp (pi_range2 g1 g2 (pa_cons (sE a ft h2) (pa_cons (sE b ft h3) pa_nil st) st2) (by rw [st2, st]; rfl) st) fun σ H R' q => ?_
          obtain ⟨F, env, rel, q⟩ := q
          unfold evSrc at q
          refine ⟨F, env, rel, q.bind.imp fun x F1 H1 _ e1 q1 v rv => ⟨F1, env, rel.ext e1, q1.bind.imp fun y F2 H2 _ e2 q2 u ru => ?_⟩⟩
          obtain ⟨i, hi, q3⟩ := isInt_ok q2
          obtain ⟨j, hj, q4⟩ := isInt_ok q3
          have i1 := rv.is e1.s
          have i2 := ru.is e2.s
          rw [hi] at i1
          rw [hj] at i2
          by_cases hs : (small i && small j) = true
          · rw [if_pos hs] at q4
            simp only [small, Bool.and_eq_true, decide_eq_true_eq] at hs
            exact ⟨i, j, by rw [is_int i1, is_int i2], ⟨hs.1.1, hs.1.2, hs.2.1, hs.2.2⟩, q4 F2 H2 (Ext.refl e2.s) _ ok_rng fun _ => ⟨F2, e1.trans e2, ok_rng⟩⟩
          · rw [if_neg hs] at q4
            exact q4.elim
        | [], _, h => simp [chkSrc] at h
        | [_], _, h => simp [chkSrc] at h
        | [_, _], _ :: _, h => simp [chkSrc] at h
        | _ :: _ :: _ :: _, _, h => simp [chkSrc] at h
      | _ => simp [chkSrc] at h
    | _ => simp [chkSrc] at h
  | .rgd a b, X, W, sc, tg, e, ft, h => by
    cases e with
    | Call fn args kws pos =>
      cases fn with
      | Name x p =>
        match args, kws, h with
        | [y, z, u], [], h =>
          simp only [chkSrc, Bool.and_eq_true, decide_eq_true_eq] at h
          obtain ⟨⟨⟨⟨hu, rfl⟩, h1⟩, h2⟩, h3⟩ := h
          obtain ⟨g1, g2⟩ := ft.glN h1
          obtain ⟨pu, su⟩ := m1_ok (X := X) hu
          have st := star_cons (es := []) (env := X.env) su
          have st1 := star_cons (es := [u]) (env := X.env) (chk_noStar h3)
          have st2 := star_cons (es := [z, u]) (env := X.env) (chk_noStar h2)
          refine pi_imp (pi_range3 g1 g2 (pa_cons (sE a ft h2) (pa_cons (sE b ft h3) (pa_cons pu pa_nil st) st1) st2) st2 (by rw [st1, st]; rfl)) fun σ H R' q => ?_
          obtain ⟨F, env, rel, q⟩ := q
          unfold evSrc at q
          refine ⟨F, env, rel, q.bind.imp fun x F1 H1 _ e1 q1 v rv => ⟨F1, env, rel.ext e1, q1.bind.imp fun y F2 H2 _ e2 q2 u ru => ?_⟩⟩
          obtain ⟨i, hi, q3⟩ := isInt_ok q2
          obtain ⟨j, hj, q4⟩ := isInt_ok q3
          have i1 := rv.is e1.s
          have i2 := ru.is e2.s
          rw [hi] at i1
          rw [hj] at i2
          by_cases hs : (small i && small j) = true
          · rw [if_pos hs] at q4
            simp only [small, Bool.and_eq_true, decide_eq_true_eq] at hs
            exact ⟨i, j, -1, (i - j).toNat, by rw [is_int i1, is_int i2], RgC.neg hs.1.1 hs.1.2 hs.2.1 hs.2.2, q4 F2 H2 (Ext.refl e2.s) _ ok_rgd fun _ => ⟨F2, e1.trans e2, ok_rgd⟩⟩
          · rw [if_neg hs] at q4
            exact q4.elim
        | [], _, h => simp [chkSrc] at h
        | [_], _, h => simp [chkSrc] at h
        | [_, _], _, h => simp [chkSrc] at h
        | [_, _, _], _ :: _, h => simp [chkSrc] at h
        | _ :: _ :: _ :: _ :: _, _, h => simp [chkSrc] at h
      | _ => simp [chkSrc] at h
    | _ => simp [chkSrc] at h
  | .enu a, X, W, sc, tg, e, ft, h => by
    cases e with
    | Call fn args kws pos =>
      cases fn with
      | Name x p =>
        match args, kws, h with
        | [y], [], h =>
          simp only [chkSrc, Bool.and_eq_true, decide_eq_true_eq] at h
          obtain ⟨⟨⟨rfl, h1⟩, h2⟩, h3⟩ := h
          obtain ⟨g1, g2⟩ := ft.glN h1
          have st := star_cons (es := []) (env := X.env) (chk_noStar h2)
          cases tg with
          | Tuple es k tp =>
            refine pi_imp (pi_enum g1 g2 (pa_cons (sE a ft h2) pa_nil st) st) fun σ H R' q => ?_
            obtain ⟨F, env, rel, q⟩ := q
            unfold evSrc at q
            refine ⟨F, env, rel, q.bind.imp fun x F1 H1 _ e1 q1 v rv => ?_⟩
            obtain ⟨t, d⟩ := x
            cases d with
            | list ds =>
              obtain ⟨a, vs, rfl, h1, h2⟩ := rv.list e1.s
              refine ⟨a, vs, rfl, h1.seq, q1 F1 H1 (Ext.refl e1.s) _ (ok_enum h1 h2) fun c => ?_⟩
              obtain ⟨F2, e2, _, i2⟩ := res_dm2 e1 rv c
              obtain ⟨a', vs', z, h3, h4⟩ := is_list i2
              cases z
              exact ⟨F2, e2, ok_enum h3 h4⟩
            | _ => exact q1.elim
          | _ => cases h3
        | [], _, h => simp [chkSrc] at h
        | [_], _ :: _, h => simp [chkSrc] at h
        | _ :: _ :: _, _, h => simp [chkSrc] at h
      | _ => simp [chkSrc] at h
    | _ => simp [chkSrc] at h
  | .zip a b, X, W, sc, tg, e, ft, h => by
    cases e with
    | Call fn args kws pos =>
      cases fn with
      | Name x p =>
        match args, kws, h with
        | [y, z], [], h =>
          simp only [chkSrc, Bool.and_eq_true, decide_eq_true_eq] at h
          obtain ⟨⟨⟨⟨rfl, h1⟩, h2⟩, h3⟩, h4⟩ := h
          obtain ⟨g1, g2⟩ := ft.glN h1
          have st := star_cons (es := []) (env := X.env) (chk_noStar h3)
          have st2 := star_cons (es := [z]) (env := X.env) (chk_noStar h2)
          cases tg with
          | Tuple es k tp =>
            refine pi_imp (pi_zip g1 g2 (pa_cons (sE a ft h2) (pa_cons (sE b ft h3) pa_nil st) st2) st2 (by rw [st]; rfl)) fun σ H R' q => ?_
            obtain ⟨F, env, rel, q⟩ := q
            unfold evSrc at q
            refine ⟨F, env, rel, q.bind.imp fun x F1 H1 _ e1 q1 v rv => ⟨F1, env, rel.ext e1, q1.bind.imp fun y F2 H2 _ e2 q2 u ru => ?_⟩⟩
            obtain ⟨t, d⟩ := x
            obtain ⟨t2, d2⟩ := y
            cases d with
            | list ds =>
              cases d2 with
              | list es =>
                have rv2 := rv.mono e2
                obtain ⟨a, vs, rfl, h1, h2⟩ := rv2.list e2.s
                obtain ⟨b, ws, rfl, h3, h4⟩ := ru.list e2.s
                have m := zt_kid t t2 e2.s
                refine ⟨a, b, vs, ws, rfl, h1.seq, h3.seq, q2 F2 H2 (Ext.refl e2.s) _ (ok_zip h1 (h2.mono m.1) h3 (h4.mono m.2)) fun c => ?_⟩
                obtain ⟨c1, c2⟩ := zt_dm c
                have e3 := e1.trans e2
                obtain ⟨F3, e4, s4, i3⟩ := dm_one rv2 c1 e3 (Same.refl _)
                obtain ⟨F4, e5, s5, i4⟩ := dm_one (ru.back e1.h) c2 e4 s4
                obtain ⟨a', vs', z, h5, h6⟩ := is_list (i3.mono s5)
                cases z
                obtain ⟨b', ws', z, h7, h8⟩ := is_list i4
                cases z
                exact ⟨F4, e5, ok_zip h5 h6 h7 h8⟩
              | _ => exact q2.elim
            | _ => exact q2.elim
          | _ => cases h4
        | [], _, h => simp [chkSrc] at h
        | [_], _, h => simp [chkSrc] at h
        | [_, _], _ :: _, h => simp [chkSrc] at h
        | _ :: _ :: _ :: _, _, h => simp [chkSrc] at h
      | _ => simp [chkSrc] at h
    | _ => simp [chkSrc] at h
  | .rev a, X, W, sc, tg, e, ft, h => by
    cases e with
    | Call fn args kws pos =>
      cases fn with
      | Name x p =>
        match args, kws, h with
        | [y], [], h =>
          simp only [chkSrc, Bool.and_eq_true, decide_eq_true_eq] at h
          obtain ⟨⟨rfl, h1⟩, h2⟩ := h
          obtain ⟨g1, g2⟩ := ft.glN h1
          have st := star_cons (es := []) (env := X.env) (chk_noStar h2)
          refine pi_imp (pi_reversed g1 g2 (pa_cons (sE a ft h2) pa_nil st) st) fun σ H R' q => ?_
          obtain ⟨F, env, rel, q⟩ := q
          unfold evSrc at q
          refine ⟨F, env, rel, q.bind.imp fun x F1 H1 _ e1 q1 v rv => ?_⟩
          obtain ⟨t, d⟩ := x
          cases d with
          | list ds =>
            obtain ⟨a, vs, rfl, h1, h2⟩ := rv.list e1.s
            refine ⟨a, vs, rfl, h1.seq, q1 F1 H1 (Ext.refl e1.s) _ (ok_rev h1 h2) fun c => ?_⟩
            obtain ⟨F2, e2, _, i2⟩ := res_dm2 e1 rv c
            obtain ⟨a', vs', z, h3, h4⟩ := is_list i2
            cases z
            have := h4.len.trans h2.len.symm
            rw [← this]
            exact ⟨F2, e2, ok_rev h3 h4⟩
          | _ => exact q1.elim
        | [], _, h => simp [chkSrc] at h
        | [_], _ :: _, h => simp [chkSrc] at h
        | _ :: _ :: _, _, h => simp [chkSrc] at h
      | _ => simp [chkSrc] at h
    | _ => simp [chkSrc] at h
end
end
end PV

/-! PvStA: the state at a statement; loops; steps. -/
namespace PV
open PySem PySem.Spec PyProof.Rows L2

/-- the state at a statement: B0, A0 are the frozen part and the heap it is measured from -/
structure SRel (K : PySem.W.Frag) (B0 A0 F H : Hp) (σ : L2.St) (env : Env) : Prop where
  ra : RelA K A0 F H σ env
  ext : Ext B0 A0 F H
theorem SRel.rel {K : PySem.W.Frag} {B0 A0 F H : Hp} {σ : L2.St} {env : Env} (r : SRel K B0 A0 F H σ env) : Rel K F H σ env := r.ra.rel
def Post (K : PySem.W.Frag) (B0 A0 : Hp) (W : Wd) (E : Ends) : Out → Prop
  | .nx e => ∀ σ F H, SRel K B0 A0 F H σ e → E.nx σ H
  | .brk e => ∀ σ F H, SRel K B0 A0 F H σ e → E.bk σ H
  | .cnt e => ∀ σ F H, SRel K B0 A0 F H σ e → E.ct σ H
  | .ret t d => ∀ v F H, Ext B0 A0 F H → Res K A0 F H v (t, d) → E.rt v H
  | .exc c e => ∀ σ F H, SRel K B0 A0 F H σ e → W c σ H
  | .stuck => False
def tS (K : PySem.W.Frag) (W : Wd) (G : Gam) (n : Nat) (x : Sx) : TS := fun E σ H => ∃ B0 A0 F env, SRel K B0 A0 F H σ env ∧ Post K B0 A0 W E (evS G n x env)
def tSs (K : PySem.W.Frag) (W : Wd) (G : Gam) (n : Nat) (x : List Sx) : TS := fun E σ H => ∃ B0 A0 F env, SRel K B0 A0 F H σ env ∧ Post K B0 A0 W E (evSs G n x env)
section
variable {K : PySem.W.Frag} {B0 A0 B1 F H F' H' : Hp} {σ : L2.St} {env : Env} {W : Wd} {G : Gam} {E : Ends}
theorem SRel.next (r : SRel K B0 A0 F H σ env) (e : Ext F H F' H') : SRel K B0 A0 F' H' σ env := ⟨r.ra.ext e, r.ext.trans e⟩
theorem SRel.rebase (r : SRel K B0 A0 F H σ env) : SRel K F A0 F H σ env := ⟨r.ra, ⟨Same.refl _, r.ext.h, r.ext.s, fun _ h => .inl h⟩⟩
theorem SRel.back (e : Ext B0 A0 B1 H') (r : SRel K B1 A0 F H σ env) : SRel K B0 A0 F H σ env :=
  ⟨r.ra, ⟨e.f.trans r.ext.f, r.ext.h, r.ext.s, fun p h => by
    rcases r.ext.n p h with z | z
    · exact e.n p z
    · exact .inr z⟩⟩
theorem Ext.back2 (e : Ext B0 A0 B1 H') (r : Ext B1 A0 F H) : Ext B0 A0 F H :=
  ⟨e.f.trans r.f, r.h, r.s, fun p h => by
    rcases r.n p h with z | z
    · exact e.n p z
    · exact .inr z⟩
theorem Post.rebase {o : Out} (e : Ext B0 A0 B1 H') (h : Post K B0 A0 W E o) : Post K B1 A0 W E o := by
  cases o with
  | nx x => exact fun σ F H r => h σ F H (r.back e)
  | brk x => exact fun σ F H r => h σ F H (r.back e)
  | cnt x => exact fun σ F H r => h σ F H (r.back e)
  | ret t d => exact fun v F H r q => h v F H (Ext.back2 e r) q
  | exc c x => exact fun σ F H r => h σ F H (r.back e)
  | stuck => exact h
theorem SRel.set (r : SRel K B0 A0 F H σ env) {i : Nat} {v : V} {d : D} (h : Is K F d v) : SRel K B0 A0 F H (σ.set i (some v)) (env.set i (.sh d)) := ⟨r.ra.set h, r.ext⟩
theorem SRel.sets : ∀ {is : List Nat} {ds : List D} {vs : List V} {σ : L2.St} {env : Env}, SRel K B0 A0 F H σ env → IsL K F ds vs → SRel K B0 A0 F H ((is.zip vs).foldl (fun e p => e.set p.1 (some p.2)) σ) ((is.zip ds).foldl (fun e p => e.set p.1 (.sh p.2)) env)
  | [], _, _, _, _, r, _ => r
  | i :: is, [], vs, _, _, r, h => by
    simp only [IsL] at h
    subst h
    exact r
  | i :: is, d :: ds, _, σ, env, r, h => by
    simp only [IsL] at h
    obtain ⟨v, w, rfl, h1, h2⟩ := h
    show SRel K B0 A0 F H ((is.zip w).foldl (fun e p => e.set p.1 (some p.2)) (σ.set i (some v))) ((is.zip ds).foldl (fun e p => e.set p.1 (.sh p.2)) (env.set i (.sh d)))
    exact SRel.sets (r.set h1) h2
theorem SRel.bind {env2 : Env} {tg : Tg} {d : D} {v : V} {Q : L2.St → Hp → Prop} {t : Tag} (r : SRel K B0 A0 F H σ env) (h : Is K F d v) (e : bindT tg (t, d) env = some env2) (k : ∀ σ2, SRel K B0 A0 F H σ2 env2 → Q σ2 H) : gTg K tg v σ H Q := by
  cases tg with
  | nm i =>
    cases t <;> first | cases e | skip
    exact k _ (r.set h)
  | tp is =>
    cases t <;> first | (cases d <;> cases e) | skip
    cases d with
    | tuple ds =>
      by_cases hl : ds.length = is.length
      · simp only [bindT, if_pos hl] at e
        cases e
        obtain ⟨a, vs, rfl, h1, h2⟩ := is_tuple h
        exact ⟨a, vs, rfl, sqT_mono r.rel.sub h1, by rw [h2.len, hl], gNs_go (by rw [h2.len, hl]) (k _ (r.sets h2))⟩
      · simp only [bindT, if_neg hl] at e
        cases e
    | _ => cases e
theorem SRel.setO (r : SRel K B0 A0 F H σ env) (e : Ext F H F' H') {i : Nat} {p : Addr} {d : D} (h : Root K F' H' p d) (n : H p = none) : SRel K B0 A0 F' H' (σ.set i (some (.ref p))) (env.set i (.ow d)) :=
  ⟨r.ra.setO e h n (r.ext.h.free n), r.ext.trans e⟩
theorem SRel.setT (r : SRel K B0 A0 F H σ env) (e : Ext F H F' H') {i : Nat} {v : V} {d : D} {fp : List Addr} (h : Own K F' H' d v fp) (n : ∀ a ∈ fp, H a = none) : SRel K B0 A0 F' H' (σ.set i (some v)) (env.set i (.od d)) :=
  ⟨r.ra.setT e h n fun a ha => r.ext.h.free (n a ha), r.ext.trans e⟩
theorem SRel.freeze (r : SRel K B0 A0 F H σ env) {i : Nat} {d : D} (h : env[i]? = some (.ow d) ∨ env[i]? = some (.od d)) : ∃ F2, SRel K B0 A0 F2 H σ (env.set i (.sh d)) ∧ Same F F2 := by
  obtain ⟨fp, h1, h2⟩ := r.ra.freeze h
  have s := frzAt_same (fp := fp) r.rel.sub
  refine ⟨_, ⟨h2, ⟨r.ext.f.trans s, r.ext.h, frzAt_sub r.rel.sub, fun q z => ?_⟩⟩, s⟩
  by_cases c : q ∈ fp
  · exact .inr (h1 q c).2
  · rw [frzAt_out c] at z
    exact r.ext.n q z
theorem SRel.frz : ∀ {fz : List Nat} {F : Hp} {env : Env}, SRel K B0 A0 F H σ env → ∃ F2, SRel K B0 A0 F2 H σ (frz fz env)
  | [], F, env, r => ⟨F, r⟩
  | i :: fz, F, env, r => by
    unfold PV.frz
    split
    · rename_i d hd
      obtain ⟨F2, r2, _⟩ := r.freeze (.inl hd)
      exact SRel.frz r2
    · rename_i d hd
      obtain ⟨F2, r2, _⟩ := r.freeze (.inr hd)
      exact SRel.frz r2
    · exact SRel.frz r
/-- an own slot's list written -/
theorem SRel.write (r : SRel K B0 A0 F H σ env) {i : Nat} {p : Addr} {ds ds' : List D} {vs' : List V} (h : env[i]? = some (.ow (.list ds))) (hp : σ[i]? = some (some (.ref p))) (hr : Root K F H p (.list ds)) (n : IsL K F ds' vs') :
    SRel K B0 A0 F (upd H p (.lst vs')) σ (env.set i (.ow (.list ds'))) :=
  ⟨r.ra.write h hp ⟨hr.fno, vs', upd_same, n⟩, r.ext.mut (r.ra.ownA h hp) hr.fno⟩
/-- an own slot's dict written -/
theorem SRel.writeD (r : SRel K B0 A0 F H σ env) {i : Nat} {p : Addr} {ds ds' : List (D × D)} {es' : List (Key × V)} (h : env[i]? = some (.ow (.dict ds))) (hp : σ[i]? = some (some (.ref p))) (hr : Root K F H p (.dict ds)) (n : IsK K F ds' es') :
    SRel K B0 A0 F (upd H p (.dK es')) σ (env.set i (.ow (.dict ds'))) :=
  ⟨r.ra.write h hp ⟨hr.fno, es', upd_same, n⟩, r.ext.mut (r.ra.ownA h hp) hr.fno⟩
theorem ownD_ok {i : Nat} {ds : List (D × D)} (h : ownD env i = .ok ds) : env[i]? = some (.ow (.dict ds)) := by
  unfold ownD at h
  split at h
  · rename_i q
    cases h
    exact q
  · cases h
theorem ownD_exc {i : Nat} : ∀ c, ownD env i ≠ .exc c := fun c h => by
  unfold ownD at h
  split at h <;> cases h
/-- behind a reckoning -/
theorem SRel.aft {α : Type} {r : R α} {k : α → Out} (q : SRel K B0 A0 F H σ env) (h : Post K B0 A0 W E (Out.of env r k)) :
    Aft F H (fun c H' => W c σ H') r fun a F' H' => SRel K B0 A0 F' H' σ env ∧ Post K B0 A0 W E (k a) := by
  cases r with
  | ok a => exact fun F' H' e => ⟨q.next e, h⟩
  | exc c => exact fun F' H' e => h σ F' H' (q.next e)
  | stuck => exact h
theorem SRel.aftE {e : Ex} {k : TD → Out} (q : SRel K B0 A0 F H σ env) (h : Post K B0 A0 W E (Out.of env (ev G e env) k)) {Q : VK} (c : ∀ x F' H' v, Ext F H F' H' → Res K H F' H' v x → SRel K B0 A0 F' H' σ env → Post K B0 A0 W E (k x) → Q v H') : tE K W G e σ H Q :=
  ⟨F, env, q.rel, (q.aft h).imp fun x F' H' _ e1 ⟨s, p⟩ v rv => c x F' H' v e1 rv s p⟩
theorem Post.isInt {d : D} {k : Int → Out} (h : Post K B0 A0 W E (Out.of env (isInt d) k)) : ∃ i, d = .int i ∧ Post K B0 A0 W E (k i) := by
  cases d with
  | int i => exact ⟨i, rfl, h⟩
  | _ => exact h.elim
theorem Post.ok {α : Type} {r : R α} {k : α → Out} (h : Post K B0 A0 W E (Out.of env r k)) (ne : ∀ c, r ≠ .exc c) : ∃ a, r = .ok a ∧ Post K B0 A0 W E (k a) := by
  cases r with
  | ok a => exact ⟨a, rfl, h⟩
  | exc c => exact absurd rfl (ne c)
  | stuck => exact h.elim
theorem ownL_ok {i : Nat} {ds : List D} (h : ownL env i = .ok ds) : env[i]? = some (.ow (.list ds)) := by
  unfold ownL at h
  split at h
  · rename_i q
    cases h
    exact q
  · cases h
theorem ownL_exc {i : Nat} : ∀ c, ownL env i ≠ .exc c := fun c h => by
  unfold ownL at h
  split at h <;> cases h
theorem shD_ok {i : Nat} {d : D} (h : shD env i = .ok d) : env[i]? = some (.sh d) := by
  unfold shD at h
  split at h
  · rename_i q
    cases h
    exact q
  · cases h
theorem shD_exc {i : Nat} : ∀ c, shD env i ≠ .exc c := fun c h => by
  unfold shD at h
  split at h <;> cases h
theorem shOnly_exc {x : TD} : ∀ c, shOnly x ≠ .exc c := fun c h => by
  unfold shOnly at h
  split at h <;> cases h
theorem placed_ok {ds : List D} {k : Int} {p : Nat × D} (h : placed ds k = .ok p) : ixN ds.length k = some p.1 ∧ ds[p.1]? = some p.2 := by
  unfold placed at h
  split at h
  · rename_i j hj
    split at h
    · rename_i d hd
      cases h
      exact ⟨hj, hd⟩
    · cases h
  · cases h
theorem placed_exc {ds : List D} {k : Int} : ∀ c, placed ds k ≠ .exc c := fun c h => by
  unfold placed at h
  split at h
  · split at h <;> cases h
  · cases h
theorem augB_ok {o : Bop} {a b r : D} (h : augB o a b = .ok r) : ∃ i j, a = .int i ∧ b = .int j ∧ ((o = .add ∧ r = .int (i + j)) ∨ (o = .sub ∧ r = .int (i - j))) := by
  cases o <;> cases a <;> cases b <;> first | (cases h; done) | (cases h; exact ⟨_, _, rfl, rfl, .inl ⟨rfl, rfl⟩⟩) | (cases h; exact ⟨_, _, rfl, rfl, .inr ⟨rfl, rfl⟩⟩)
theorem augB_exc {o : Bop} {a b : D} : ∀ c, augB o a b ≠ .exc c := fun c h => by
  cases o <;> cases a <;> cases b <;> cases h
theorem isInt_exc {d : D} : ∀ c, isInt d ≠ .exc c := fun c h => by
  cases d <;> cases h
end

/-! ### augmented subscripts: the item read -/
section
variable {X : Cx}
def rGetL : V → V → Hp → VK → Prop := fun o i H Q => ∃ p xs k j v, o = .ref p ∧ i = .int k ∧ H p = some (.lst xs) ∧ ixN xs.length k = some j ∧ xs[j]? = some v ∧ Q v H
theorem get_listO : PGet X rGetL := by
  intro pins s σ H o i ov iv Q I ro ri h
  obtain ⟨p, xs, k, j, w, rfl, rfl, hp, hj, hw, q⟩ := h
  cases ro
  obtain ⟨t, rfl⟩ := ri
  obtain ⟨its, n, r, ho, hz⟩ := I.lst hp
  obtain ⟨h1, h2, h3, h4⟩ := ixN_seq hj
  obtain ⟨u, hu, ru⟩ := r.get hw
  have hl := r.length
  have hn := line63
  have il : s.heap.IsList p its.toArray := ⟨_, ho, rfl, n, rfl⟩
  by_cases h0 : 0 ≤ k
  · have hk : k.toNat = j := by
      rw [seqIndex_of h0 h4] at h1
      exact Option.some.inj h1
    exact wpAny_getItem_list il h0 (by omega) (x := u) (by rw [hk]; simpa using hu) ⟨w, H, I, ru, q⟩
  · have hk : (k + (its.toArray.size : Int)).toNat = j := by
      rw [seqIndex_neg (by omega) h3] at h1
      rw [List.size_toArray, ← hl]
      exact Option.some.inj h1
    exact wpAny_getItem_list_neg il (by omega) (by rw [List.size_toArray, ← hl]; exact h3) (by omega) (x := u) (by rw [hk]; simpa using hu) ⟨w, H, I, ru, q⟩
end

structure SFit (X : Cx) (W : Wd) (cref : Str → Value) (n : Nat) (G : Gam) (bs cs : List Str) (N : List Str) (sc : Scope) : Prop extends Fit X W cref n G bs cs N sc where
  fn : ∀ x, X.fn x = true
  pass : PassesOwn (model X.prog X.w) X.A X.env X.xe
  stk : X.stack = X.env :: X.outer
  frm : X.env.frame = some X.env.locals
theorem ps_imp {X : Cx} {e : Stmt} {t t' : TS} (h : PS X e t) (k : ∀ E σ H, t' E σ H → t E σ H) : PS X e t' := ⟨fun pins s σ H E I q => h.run pins s σ H E I (k E σ H q)⟩
theorem pss_imp {X : Cx} {e : List Stmt} {t t' : TS} (h : PSs X e t) (k : ∀ E σ H, t' E σ H → t E σ H) : PSs X e t' := ⟨fun pins s σ H E I q => h.run pins s σ H E I (k E σ H q)⟩
/-- what is held by a name is put down -/
theorem put_ok {K : PySem.W.Frag} {B0 A0 F H F' H' : Hp} {σ : L2.St} {env : Env} {W : Wd} {E : Ends} {i : Nat} {x : TD} {v : V} (s : SRel K B0 A0 F H σ env) (e : Ext F H F' H') (rv : Res K H F' H' v x) (p : Post K B0 A0 W E (put env i x)) : E.nx (σ.set i (some v)) H' := by
  have rv := rv.nt e.s
  unfold put at p
  split at p
  · rename_i t d hz
    rw [hz] at rv
    exact p _ F' H' ((s.next e).set rv)
  · rename_i t d ds hz he
    rw [hz, he] at rv
    obtain ⟨q, rfl, n, rt⟩ := rv
    exact p _ F' H' (s.setO e rt n)
  · rename_i t d ds hz he
    rw [hz, he] at rv
    obtain ⟨q, rfl, n, rt⟩ := rv
    exact p _ F' H' (s.setO e rt n)
  · rename_i t d hz
    rw [hz] at rv
    obtain ⟨fp, n, o⟩ := rv
    exact p _ F' H' (s.setT e o n)
  · exact p.elim
/-- a value to be shared for good -/
theorem shOnly_use {K : PySem.W.Frag} {B0 A0 F H F' H' : Hp} {σ : L2.St} {env : Env} {x : TD} {v : V} {d : D} (s : SRel K B0 A0 F H σ env) (e : Ext F H F' H') (rv : Res K H F' H' v x) (h : shOnly x = .ok d) : ∃ F2, SRel K B0 A0 F2 H' σ env ∧ Is K F2 d v ∧ Same F' F2 := by
  obtain ⟨h1, rfl⟩ := shOnly_ok h
  obtain ⟨F2, e2, s2, i2⟩ := res_dm2 e (rv.nt e.s) h1
  exact ⟨F2, s.next e2, i2, s2⟩
theorem swaps_name {e : Expr} {t : Option Expr} {n : Nat} {env : PySem.Env} {N bs : List Str} {ex : Ex} {sc : Scope} (h : chkE N bs ex sc e = true) (hc : ∀ a b c d, e ≠ .ListComp a b c d) : swapsWith e t n env = pure false := by
  cases e <;> first | rfl | exact absurd rfl (hc _ _ _ _) | (cases ex <;> simp [chkE, frzE, isLC] at h)
theorem swaps_two {e : Expr} {a b : Expr} {p : Pos} {n : Nat} {env : PySem.Env} : swapsWith e (some (.Subscript a b p)) n env = pure false := by
  cases e <;> rfl
theorem swaps_tup {e : Expr} {a : List Expr} {k : Nat} {p : Pos} {n : Nat} {env : PySem.Env} : swapsWith e (some (.Tuple a k p)) n env = pure false := by
  cases e <;> rfl
theorem stores_sub {e : Expr} {a b : Expr} {p : Pos} {env : PySem.Env} : swappedStores [.Subscript a b p] e env = pure none := by
  cases e <;> rfl
theorem stores_tup {e : Expr} {a : List Expr} {k : Nat} {p : Pos} {env : PySem.Env} (h : isTupE e = false) : swappedStores [.Tuple a k p] e env = pure none := by
  cases e <;> first | rfl | cases h
theorem swaps_lc {a : Expr} {b : List Comprehension} {c : Scope} {d p : Pos} {x : Str} {n : Nat} {env : PySem.Env} :
    (swapsWith (.ListComp a b c d) (some (.Name x p)) n env = pure false) ∨ (swapsWith (.ListComp a b c d) (some (.Name x p)) n env = pure true ∧ env.scope.names.lookup x = some .local) := by
  have h : swapsWith (.ListComp a b c d) (some (.Name x p)) n env = pure (env.blockKind == .function && env.kindOf x == some .local && p.line == d.line && !(c.names.any fun (n, k) => n == x && (k == .local || k == .cell))) := rfl
  cases q : (env.blockKind == .function && env.kindOf x == some .local && p.line == d.line && !(c.names.any fun (n, k) => n == x && (k == .local || k == .cell))) with
  | false => exact .inl (by rw [h, q])
  | true =>
    refine .inr ⟨by rw [h, q], ?_⟩
    simp only [Bool.and_eq_true, beq_iff_eq] at q
    exact q.1.1.2

section
variable {K : PySem.W.Frag} {B0 A0 F H : Hp} {σ : L2.St} {env : Env} {W : Wd} {G : Gam} {E : Ends} {n : Nat}
theorem Post.seq {o : Out} {r : List Sx} (h : Post K B0 A0 W E (o.then fun e => evSs G n r e)) : Post K B0 A0 W { E with nx := tSs K W G n r E } o := by
  cases o with
  | nx e => exact fun σ F H q => ⟨B0, A0, F, e, q, h⟩
  | _ => exact h
/-- a turn's end -/
theorem Post.turn {o : Out} {k : Env → Out} {N : L2.St → Hp → Prop} (h : Post K B0 A0 W E (match (generalizing := false) o with
      | .nx e => k e
      | .cnt e => k e
      | .brk e => .nx e
      | .ret t d => .ret t d
      | .exc c e => .exc c e
      | .stuck => .stuck)) (hN : ∀ e, Post K B0 A0 W E (k e) → ∀ σ F H, SRel K B0 A0 F H σ e → N σ H) : Post K B0 A0 W { E with nx := N, ct := N, bk := E.nx } o := by
  cases o with
  | nx e => exact fun σ F H q => hN e h σ F H q
  | cnt e => exact fun σ F H q => hN e h σ F H q
  | _ => exact h
theorem while_read {c : Te} {b : List Sx} (h : tS K W G n (.whl c b) E σ H) : tWhile (tT K W G c) (tSs K W G n b) E σ H := by
  obtain ⟨B0, A0, F, env, r, p⟩ := h
  unfold evS at p
  refine ⟨fun m σ H => ∃ F env, SRel K B0 A0 F H σ env ∧ Post K B0 A0 W E (wh (fun e => evT G c e) (fun e => evSs G n b e) m env), ⟨n, F, env, r, p⟩, ?_⟩
  rintro m σ H ⟨F, env, r, p⟩
  cases m with
  | zero => exact p.elim
  | succ m =>
    unfold wh at p
    refine ⟨F, env, r.rel, (r.aft p).imp fun t F1 H1 _ e1 ⟨s, p⟩ => ?_⟩
    cases t with
    | false => exact iteF (p _ _ _ s)
    | true =>
      refine iteT ⟨_, fun σ' H' z => ⟨m, Nat.lt_succ_self m, z⟩, B0, A0, F1, env, s, ?_⟩
      exact Post.turn p fun e q σ F H z => ⟨F, e, z, q⟩
theorem for_read {fz : List Nat} {tg : Tg} {src : Src} {b : List Sx} (h : tS K W G n (.lop fz tg src b) E σ H) : tFor (tSrc K W G src) (gTg K tg) (tSs K W G n b) E σ H := by
  obtain ⟨B0, A0, F, env, r, p⟩ := h
  unfold evS at p
  obtain ⟨F0, r0⟩ := r.frz (fz := fz)
  generalize frz fz env = env at p r0
  refine ⟨F0, env, r0.rel, (r0.aft p).imp fun s F1 H1 _ e1 ⟨s1, p1⟩ J hJ hD => ?_⟩
  cases hd : s.1.dm with
  | sh =>
    rw [hd] at p1
    obtain ⟨F2, e2, it⟩ := hD hd
    have s2 := (r0.next e2)
    have x2 : Ext B0 A0 F2 H1 := s2.ext
    have p2 := p1.rebase x2
    refine ⟨fun i m σ H => m = s.2.length - i ∧ i ≤ s.2.length ∧ ∃ F env, SRel K F2 A0 F H σ env ∧ Post K F2 A0 W E (lp (fun d e => match bindT tg (.sh, d) e with | some e2 => evSs G n b e2 | none => .stuck) (s.2.drop i) env),
      ⟨s.2.length, rfl, Nat.zero_le _, F2, env, s2.rebase, by rw [List.drop_zero]; exact p2⟩, ?_⟩
    rintro i m σ H ⟨rfl, hi, F, env, r, p⟩
    have sm : Same F2 H := r.ext.f.trans r.rel.sub
    by_cases hlt : i < s.2.length
    · refine .inr ⟨it.go H i sm hlt, _, fun σ' H' z => ⟨s.2.length - (i + 1), by omega, z⟩, fun x H' y => ?_⟩
      rw [List.drop_eq_getElem_cons hlt] at p
      have hd : s.2[i]? = some s.2[i] := List.getElem?_eq_getElem hlt
      generalize s.2[i] = d at p hd
      obtain ⟨F3, w1, w2⟩ := it.yld F H i x H' d sm r.rel.sub hd (.inl r.ext.f) y
      unfold lp at p
      cases hb : bindT tg (.sh, d) env with
      | none =>
        rw [hb] at p
        exact p.elim
      | some env2 =>
        rw [hb] at p
        refine (r.next w1).bind w2 hb fun σ2 r2 => ⟨F2, A0, F3, env2, r2, ?_⟩
        exact Post.turn p fun e q σ F H z => ⟨rfl, by omega, F, e, z, q⟩
    · have e0 : i = s.2.length := by omega
      subst e0
      rw [List.drop_length] at p
      exact .inl ⟨it.stop H sm, p _ _ _ r⟩
  | _ => rw [hd] at p1; exact p1.elim
end

section
variable {cref : Str → Value} {n : Nat} {G : Gam} {bs cs N : List Str}
theorem SFit.var {X : Cx} {W : Wd} {sc : Scope} (f : SFit X W cref n G bs cs N sc) {i : Nat} {x : Str} (h : (decide (N[i]? = some x) && visB sc x && nmB x) = true) {pos : Pos} : PE X (.Name x pos) (tVar i) := by
  simp only [Bool.and_eq_true, decide_eq_true_eq] at h
  exact f.nm h.1.1 h.1.2 h.2
/-- name = a comprehension, stored at once -/
theorem sLc {X : Cx} {W : Wd} {sc : Scope} {own : List (Str × Nat)} {tg : Tg} {src : Src} {c : Tes} {e : Ex} {elt : Expr} {gs : List Comprehension} {scope : Scope} {p px pos : Pos} {x : Str} {i : Nat} (ft : SFit X W cref n G bs cs N sc) (h : chkE N bs (.cpr own tg src c e) sc (.ListComp elt gs scope p) = true)
    (hy : X.N[i]? = some x) (hl : X.env.scope.names.lookup x = some .local) (hsw : swapsWith (.ListComp elt gs scope p) (some (.Name x px)) pos.line X.env = pure true) : PS X (.Assign [.Name x px] (.ListComp elt gs scope p) pos) (tAsg (tE X.K W G (.cpr own tg src c e)) (gName i)) := by
  match gs, h, hsw with
  | [⟨t, it, ifs, z⟩], h, hsw =>
    simp only [chkE, Bool.and_eq_true, decide_eq_true_eq] at h
    obtain ⟨⟨⟨⟨⟨⟨⟨⟨rfl, hr⟩, h1⟩, h2⟩, h3⟩, h4⟩, h5⟩, h6⟩, h7⟩ := h
    have hN := ft.hN
    have hsc := ft.hsc
    have f := ft.toFit
    exact ps_imp (ps_setLc (own := own) (ft.calm hr) (by rw [hN]; exact ft.nd) hy hl hsw (sSrc src f h3) (by rw [hN, hsc]; exact blkOk_by h1)
      (fun s H C cl fp => pg_of (cok := fun x => scope.names.lookup x == some .cell) (f.blk s H scope cl C fp).hN f.nd (f.blk s H scope cl C fp).hsc (fun x hx => hx) (f.calm hr) h2)
      (fun s H C cl fp => sIf c (f.blk s H scope cl C fp) h4 h5)
      (fun s H C cl fp => sE e (f.blk s H scope cl C fp) h6) (nofold (src_noSet h3))) fun E σ H q => lc_read h7 σ H _ q
  | [], h, _ => simp [chkE] at h
  | _ :: _ :: _, h, _ => simp [chkE] at h
theorem asg_read {K : PySem.W.Frag} {W : Wd} {wn : Nat} {fz : List Nat} {i : Nat} {e : Ex} {E : Ends} {σ : L2.St} {H : Hp} (h : tS K W G wn (.asg fz i e) E σ H) : tAsg (tE K W G e) (gName i) E σ H := by
  obtain ⟨B0, A0, F, env, r, p⟩ := h
  unfold evS at p
  obtain ⟨F0, r0⟩ := r.frz (fz := fz)
  exact r0.aftE p fun x F' H' v e rv s p => put_ok r0 e rv p
end
end PV

/-! PvTree: statements about owned trees. -/
namespace PV
open PySem PySem.Spec PyProof.Rows L2
section
variable {K : PySem.W.Frag} {A F H F' H' : Hp} {σ : L2.St} {env : Env} {B0 A0 : Hp} {W : Wd} {E : Ends} {G : Gam}
theorem OwnL.len : ∀ {ds : List D} {vs : List V} {fp : List Addr}, OwnL K F H ds vs fp → vs.length = ds.length
  | [], _, _, h => by simp only [OwnL] at h; rw [h.1]; rfl
  | d :: ds, _, _, h => by
    simp only [OwnL] at h
    obtain ⟨v, w, f, g, rfl, _, _, _, t⟩ := h
    rw [List.length_cons, List.length_cons, OwnL.len t]
theorem set_eq_self {α : Type} {l : List α} {i : Nat} {x : α} (h : l[i]? = some x) : l.set i x = l := by
  apply List.ext_getElem?
  intro j
  by_cases c : i = j
  · subst c
    rw [List.getElem?_set_self (List.getElem?_eq_some_iff.mp h).1, h]
  · rw [List.getElem?_set_ne c]
/-- a part of a tree, and the tree with that part anew -/
theorem Own.part {d c : D} {v : V} {fp : List Addr} {es : List D} {j : Nat} (h : Own K F H d v fp) (hi : PV.items d = some es) (hj : es[j]? = some c) :
    ∃ p vs w f, v = .ref p ∧ (H p = some (.lst vs) ∨ H p = some (.tup vs)) ∧ vs[j]? = some w ∧ vs.length = es.length ∧ Own K F H c w f ∧ (∀ a ∈ f, a ∈ fp) ∧ p ∉ f ∧ p ∈ fp ∧
      ∀ (H' : Hp) (c' : D), Own K F H' c' w f → (∀ a, a ∈ fp → a ∉ f → H' a = H a) → Own K F H' (putAt d j c') v fp := by
  obtain ⟨p, vs, fq, rfl, rfl, h1, h2, h3, h4, h5⟩ := h.items hi
  obtain ⟨w, f, g1, g2, e1, rfl, e3, e4, e5⟩ := h4.sub hj
  have pf : p ∉ f := fun z => h1 (List.mem_append_left _ (List.mem_append_right _ z))
  refine ⟨p, vs, w, f, rfl, h3, e1, h4.len, e4, fun a ha => List.mem_cons_of_mem _ (List.mem_append_left _ (List.mem_append_right _ ha)), pf, List.mem_cons_self, fun H' c' o k => ?_⟩
  have t := e5 H' c' w f o e3 fun a ha => k a (List.mem_cons_of_mem _ (ha.elim (fun z => List.mem_append_left _ (List.mem_append_left _ z)) fun z => List.mem_append_right _ z)) fun z => ha.elim (e3 a z).1 (e3 a z).2
  rw [set_eq_self e1] at t
  exact h5 H' j c' _ (k p List.mem_cons_self pf) h1 t
theorem atI_of {vs : List V} {es : List D} {k : Int} {jd : Nat × D} {w : V} (hl : vs.length = es.length) (hp : placed es k = .ok jd) (hw : vs[jd.1]? = some w) : atI vs k = some w := by
  unfold atI
  rw [hl, (placed_ok hp).1]
  exact hw
/-- a list within a tree: its place, and the tree with that list anew -/
theorem Own.row {d : D} {v : V} {fp : List Addr} {es ws : List D} {k : Int} {j : Nat} (h : Own K F H d v fp) (hi : PV.items d = some es) (hp : placed es k = .ok (j, .list ws)) :
    ∃ p vs q us fq, v = .ref p ∧ (H p = some (.lst vs) ∨ H p = some (.tup vs)) ∧ atI vs k = some (.ref q) ∧ H q = some (.lst us) ∧ OwnL K F H ws us fq ∧ q ∉ fq ∧ q ∈ fp ∧ F q = none ∧
      ∀ (us' : List V) (ws' : List D), OwnL K F (upd H q (.lst us')) ws' us' fq → Own K F (upd H q (.lst us')) (putAt d j (.list ws')) v fp := by
  obtain ⟨p, vs, w, f, rfl, h1, h2, h3, h4, h5, h6, h7, h8⟩ := h.part hi (placed_ok hp).2
  simp only [Own] at h4
  obtain ⟨q, us, fq, rfl, rfl, g1, g2, g3, g4⟩ := h4
  refine ⟨p, vs, q, us, fq, rfl, h1, atI_of h3 hp h2, g3, g4, g1, h5 q List.mem_cons_self, g2, fun us' ws' o => ?_⟩
  refine h8 _ _ ?_ fun a _ ha => upd_ne fun z => ha (by rw [z]; exact List.mem_cons_self)
  simp only [Own]
  exact ⟨q, us', fq, rfl, rfl, g1, g2, upd_same, o⟩
/-- the same list after more has been made -/
theorem Own.row_at {d : D} {v : V} {fp : List Addr} {es ws : List D} {k : Int} {j : Nat} {p q : Addr} {vs us : List V} (h : Own K F H d v fp) (hi : PV.items d = some es) (hp : placed es k = .ok (j, .list ws))
    (hv : v = .ref p) (h1 : H p = some (.lst vs) ∨ H p = some (.tup vs)) (h2 : atI vs k = some (.ref q)) (h3 : H q = some (.lst us)) : us.length = ws.length ∧ ∃ fq, OwnL K F H ws us fq ∧ q ∉ fq ∧ q ∈ fp ∧ F q = none ∧
      ∀ (us' : List V) (ws' : List D), OwnL K F (upd H q (.lst us')) ws' us' fq → Own K F (upd H q (.lst us')) (putAt d j (.list ws')) v fp := by
  obtain ⟨p', vs', q', us', fq, e, g1, g2, g3, g4, g5, g6, g7, g8⟩ := h.row hi hp
  rw [hv] at e
  cases e
  have : vs' = vs := by
    rcases h1 with h1 | h1 <;> rcases g1 with g1 | g1 <;> rw [h1] at g1 <;> cases g1 <;> rfl
  subst this
  rw [h2] at g2
  cases g2
  rw [h3] at g3
  cases g3
  exact ⟨g4.len, fq, g4, g5, g6, g7, g8⟩
theorem itemsR_ok {α : Type} {e : Env} {d : D} {f : List D → R α} {k : α → Out} (h : Post K B0 A0 W E (Out.of e ((itemsR d).bind f) k)) : ∃ es, items d = some es ∧ Post K B0 A0 W E (Out.of e (f es) k) := by
  unfold itemsR at h
  cases q : items d with
  | none => rw [q] at h; exact h.elim
  | some es => rw [q] at h; exact ⟨es, rfl, h⟩
theorem odD_ok {i : Nat} {d : D} (h : odD env i = .ok d) : env[i]? = some (.od d) := by
  unfold odD at h
  split at h
  · rename_i q
    cases h
    exact q
  · cases h
theorem odD_exc {i : Nat} : ∀ c, odD env i ≠ .exc c := fun c h => by
  unfold odD at h
  split at h <;> cases h
theorem asL_ok {d : D} {ds : List D} (h : asL d = .ok ds) : d = .list ds := by
  cases d <;> cases h
  rfl
theorem asL_exc {d : D} : ∀ c, asL d ≠ .exc c := fun c h => by cases d <;> cases h
theorem scalR_ok {x : TD} {d : D} (h : scalD x = .ok d) : scal x.2 = true ∧ d = x.2 := by
  unfold scalD at h
  by_cases c : scal x.2 = true
  · rw [if_pos c] at h
    cases h
    exact ⟨c, rfl⟩
  · rw [if_neg c] at h
    cases h
theorem scalR_exc {x : TD} : ∀ c, scalD x ≠ .exc c := fun c h => by
  unfold scalD at h
  split at h <;> cases h
theorem rowL_ok {k : Int} {d : D} {p : Nat × List D} (h : rowL k d = .ok p) : ∃ es, items d = some es ∧ placed es k = .ok (p.1, .list p.2) := by
  unfold rowL itemsR at h
  cases q : items d with
  | none => rw [q] at h; cases h
  | some es =>
    rw [q] at h
    have h : ((placed es k).bind fun p => (asL p.2).bind fun ws => .ok (p.1, ws)) = .ok p := h
    cases q2 : placed es k with
    | ok p =>
      rw [q2] at h
      obtain ⟨j, e⟩ := p
      cases e <;> cases h
      exact ⟨es, rfl, q2⟩
    | exc c => rw [q2] at h; cases h
    | stuck => rw [q2] at h; cases h
theorem bind_exc {α β : Type} {r : R α} {f : α → R β} (h1 : ∀ c, r ≠ .exc c) (h2 : ∀ a c, f a ≠ .exc c) : ∀ c, r.bind f ≠ .exc c := fun c h => by
  cases r with
  | ok a => exact h2 a c h
  | exc d => exact h1 d rfl
  | stuck => cases h
theorem rowL_exc {k : Int} {d : D} : ∀ y, rowL k d ≠ .exc y := by
  unfold rowL
  refine bind_exc (fun z h => ?_) fun es => bind_exc placed_exc fun p => bind_exc asL_exc fun ws z h => by cases h
  unfold itemsR at h
  split at h <;> cases h
theorem rowS_exc {p : Nat × List D} {x : Int} {c d : D} : ∀ y, rowS p x c d ≠ .exc y := by
  unfold rowS
  refine bind_exc (fun z h => ?_) fun _ => bind_exc placed_exc fun q z h => by cases h
  unfold allS at h
  split at h <;> cases h
theorem rowS_ok {p : Nat × List D} {x : Int} {c d d2 : D} (h : rowS p x c d = .ok d2) : ∃ m y, p.2.all scal = true ∧ placed p.2 x = .ok (m, y) ∧ d2 = putAt d p.1 (.list (p.2.set m c)) := by
  unfold rowS allS at h
  by_cases z : p.2.all scal = true
  · rw [if_pos z] at h
    have h : ((placed p.2 x).bind fun q => .ok (putAt d p.1 (.list (p.2.set q.1 c)))) = .ok d2 := h
    cases q3 : placed p.2 x with
    | ok q =>
      rw [q3] at h
      cases h
      exact ⟨q.1, q.2, z, rfl, rfl⟩
    | exc c => rw [q3] at h; cases h
    | stuck => rw [q3] at h; cases h
  · rw [if_neg z] at h
    cases h
theorem rowA_ok {k : Int} {c d d2 : D} (h : rowA k c d = .ok d2) : ∃ p, rowL k d = .ok p ∧ p.2.length < lim ∧ d2 = putAt d p.1 (.list (p.2 ++ [c])) := by
  unfold rowA at h
  cases q : rowL k d with
  | ok p =>
    rw [q] at h
    have h : (if p.2.length < lim then R.ok (putAt d p.1 (.list (p.2 ++ [c]))) else .stuck) = .ok d2 := h
    split at h
    · rename_i z
      cases h
      exact ⟨p, rfl, z, rfl⟩
    · cases h
  | exc c => rw [q] at h; cases h
  | stuck => rw [q] at h; cases h
theorem rowA_exc {k : Int} {c d : D} : ∀ y, rowA k c d ≠ .exc y := by
  unfold rowA
  refine bind_exc rowL_exc fun p y h => ?_
  split at h <;> cases h
/-- a list within an own slot's tree gets an item more -/
theorem SRel.rowA (r : SRel K B0 A0 F H σ env) {i : Nat} {d c : D} {v w : V} {fp : List Addr} {es ws : List D} {k : Int} {j : Nat} {p q : Addr} {vs us : List V} (h : env[i]? = some (.od d)) (hv : σ[i]? = some (some v)) (o : Own K F H d v fp) (na : ∀ a ∈ fp, A0 a = none) (hi : PV.items d = some es) (hp : placed es k = .ok (j, .list ws))
    (e : v = .ref p) (h1 : H p = some (.lst vs) ∨ H p = some (.tup vs)) (h2 : atI vs k = some (.ref q)) (h3 : H q = some (.lst us)) (ic : Is K F c w) (sc : scal c = true) : SRel K B0 A0 F (upd H q (.lst (us ++ [w]))) σ (env.set i (.od (putAt d j (.list (ws ++ [c]))))) := by
  obtain ⟨_, fq, g1, g2, g3, g4, g5⟩ := o.row_at hi hp e h1 h2 h3
  have e1 := r.ext.mut (o := .lst (us ++ [w])) (na q g3) g4
  refine ⟨r.ra.tree1 h hv e1.s fun fi oi => ?_, e1⟩
  rw [own_fp oi o]
  refine ⟨fp, g5 _ _ ?_, fun a ha => .inl ha, fun a ha _ => upd_ne fun z => ha (by rw [z]; exact g3)⟩
  have := OwnL.app (es := [c]) (ws := [w]) (g := []) (.one (own_scal ic sc)) (g1.keep (H' := upd H q (.lst (us ++ [w]))) (F' := F) fun a ha => ⟨(g1.at a ha).1, upd_ne fun z => g2 (by rw [← z]; exact ha)⟩) fun a _ z => by cases z
  rwa [List.append_nil] at this
theorem all_set {ws : List D} {m : Nat} {c : D} (h : ws.all scal = true) (sc : scal c = true) : (ws.set m c).all scal = true := by
  rw [List.all_eq_true] at h ⊢
  intro x hx
  rcases List.mem_or_eq_of_mem_set hx with z | z
  · exact h x z
  · rw [z]
    exact sc
theorem SRel.rowS (r : SRel K B0 A0 F H σ env) {i : Nat} {d c : D} {v w : V} {fp : List Addr} {es ws : List D} {k : Int} {j m : Nat} {p q : Addr} {vs us : List V} (h : env[i]? = some (.od d)) (hv : σ[i]? = some (some v)) (o : Own K F H d v fp) (na : ∀ a ∈ fp, A0 a = none) (hi : PV.items d = some es) (hp : placed es k = .ok (j, .list ws))
    (e : v = .ref p) (h1 : H p = some (.lst vs) ∨ H p = some (.tup vs)) (h2 : atI vs k = some (.ref q)) (h3 : H q = some (.lst us)) (hs : ws.all scal = true) (ic : Is K F c w) (sc : scal c = true) : SRel K B0 A0 F (upd H q (.lst (us.set m w))) σ (env.set i (.od (putAt d j (.list (ws.set m c))))) := by
  obtain ⟨_, fq, g1, g2, g3, g4, g5⟩ := o.row_at hi hp e h1 h2 h3
  have e1 := r.ext.mut (o := .lst (us.set m w)) (na q g3) g4
  refine ⟨r.ra.tree1 h hv e1.s fun fi oi => ?_, e1⟩
  rw [own_fp oi o]
  refine ⟨fp, g5 _ _ ?_, fun a ha => .inl ha, fun a ha _ => upd_ne fun z => ha (by rw [z]; exact g3)⟩
  rw [g1.scal hs]
  exact ownL_scal (G := H) (IsL.set m (g1.is fun _ _ => rfl) (ic.mono r.rel.sub)) (all_set hs sc)

theorem ownT_ok {i : Nat} {d : D} (r : SRel K B0 A0 F H σ env) (h : ownT env i = .ok d) : ∃ v fp, σ[i]? = some (some v) ∧ Own K F H d v fp ∧ (∀ a ∈ fp, A0 a = none) := by
  unfold ownT at h
  split at h
  · rename_i q
    cases h
    exact r.ra.ods q
  · rename_i ds q
    split at h
    · rename_i k
      cases h
      obtain ⟨p, hp, f, vs, h1, h2⟩ := r.rel.own q
      refine ⟨_, [p], hp, ?_, fun a ha => ?_⟩
      · simp only [Own]
        exact ⟨p, vs, [], rfl, rfl, (fun z => by cases z), f, h1, ownL_scal h2 k⟩
      · rcases List.mem_cons.mp ha with rfl | ha
        · exact r.ra.ownA q hp
        · cases ha
    · cases h
  · cases h
theorem ownT_fp {i : Nat} {d : D} {v : V} {f g : List Addr} (h : ownT env i = .ok d) (b : ∀ s, env[i]? = some s → Bears K F H σ[i]? s f) (hv : σ[i]? = some (some v)) (o : Own K F H d v g) : f = g := by
  unfold ownT at h
  split at h
  · rename_i q
    cases h
    exact bears_fp (b _ q) ⟨v, hv, o⟩
  · rename_i ds q
    split at h
    · rename_i k
      cases h
      obtain ⟨p, e, h1, f, vs, h2, h3⟩ := b _ q
      rw [hv] at h1
      cases h1
      rw [e]
      refine own_fp (K := K) (F := F) (H := H) (d := .list ds) (v := .ref p) ?_ o
      simp only [Own]
      exact ⟨p, vs, [], rfl, rfl, (fun z => by cases z), f, h2, ownL_scal h3 k⟩
    · cases h
  · cases h
theorem ownT_exc {i : Nat} : ∀ c, ownT env i ≠ .exc c := fun c h => by
  unfold ownT at h
  split at h
  · cases h
  · split at h <;> cases h
  · cases h
/-- a new tuple of a plain thing and a tree -/
theorem own_pair {c d : D} {v w : V} {fp : List Addr} {p : Addr} (o : Own K F H d w fp) (sc : scal c = true) (ic : Is K H c v) (s : Same F H) (np : H p = none) : Own K F (upd H p (.tup [v, w])) (.tuple [c, d]) (.ref p) (p :: fp) := by
  have o2 : Own K F (upd H p (.tup [v, w])) d w fp := o.keep fun a ha => ⟨(o.at a ha).1, upd_ne fun z => (o.at a ha).2 (by rw [z]; exact np)⟩
  simp only [Own]
  refine ⟨p, [v, w], fp, rfl, rfl, fun z => (o.at p z).2 np, s.free np, upd_same, ?_⟩
  simp only [OwnL]
  exact ⟨v, [w], [], fp, rfl, rfl, (fun a z => by cases z), own_scal ic sc, w, [], fp, [], rfl, by simp, (fun a _ z => by cases z), o2, rfl, rfl⟩
end
section
variable {cref : Str → Value} {n : Nat} {G : Gam} {bs cs N : List Str} {X : Cx} {W : Wd} {sc : Scope}
theorem vr_ok (ft : SFit X W cref n G bs cs N sc) {i : Nat} {x : Str} {px : Pos} (h : vr N sc i x = true) : PE X (.Name x px) (tVar i) := ft.var h
theorem sAsgO (wn : Nat) {fz : List Nat} {i : Nat} {e : Ex} {st : Stmt} (ft : SFit X W cref n G bs cs N sc) (h : kAsgO N bs sc i e st = true) : PS X st (tS X.K W G wn (.asgO fz i e)) := by
  unfold kAsgO at h
  split at h
  case h_2 => cases h
  rename_i x px v pos
  simp only [Bool.and_eq_true] at h
  obtain ⟨⟨h1, h2⟩, h3⟩ := h
  obtain ⟨a, b, c⟩ := st_of ft.hN ft.hsc (fun x _ => ft.fn x) h2
  have hN : X.N.Nodup := by rw [ft.hN]; exact ft.nd
  refine ps_imp (ps_set hN a b (sE e ft.toFit h3) (swaps_name h3 fun a b c d z => by subst z; cases h1) c) fun E σ H q => ?_
  obtain ⟨B0, A0, F, env, r, p⟩ := q
  unfold evS at p
  obtain ⟨F0, r0⟩ := r.frz (fz := fz)
  generalize frz fz env = env at p r0
  refine r0.aftE p fun y F' H' v e rv s p => ?_
  obtain ⟨d, hd, p⟩ := p.ok treeOf_exc
  obtain ⟨fp, nn, o⟩ := treeOf_own rv e.s hd
  exact p _ F' H' (r0.setT e o nn)
theorem sMov (wn : Nat) {i j : Nat} {st : Stmt} (ft : SFit X W cref n G bs cs N sc) (h : kMov N sc i j st = true) : PS X st (tS X.K W G wn (.mov i j)) := by
  unfold kMov at h
  split at h
  case h_2 => cases h
  simp only [Bool.and_eq_true] at h
  obtain ⟨h1, h2⟩ := h
  obtain ⟨a, b, c⟩ := st_of ft.hN ft.hsc (fun x _ => ft.fn x) h1
  have hN : X.N.Nodup := by rw [ft.hN]; exact ft.nd
  refine ps_imp (ps_set hN a b (vr_ok ft h2) rfl c) fun E σ H q => ?_
  obtain ⟨B0, A0, F, env, r, p⟩ := q
  unfold evS at p
  obtain ⟨d, hd, p⟩ := p.ok odD_exc
  have hd := odD_ok hd
  obtain ⟨v, fp, hv, o, _⟩ := r.ra.ods hd
  refine ⟨v, hv, ?_⟩
  by_cases c : i ≠ j
  · rw [if_pos c] at p
    exact p _ F H ⟨r.ra.mov hd hv c, r.ext⟩
  · rw [if_neg c] at p
    exact p.elim
theorem sRtp (wn : Nat) {i : Nat} {a : Ex} {st : Stmt} (ft : SFit X W cref n G bs cs N sc) (h : kRtp N bs sc a i st = true) : PS X st (tS X.K W G wn (.rtp a i)) := by
  unfold kRtp at h
  split at h
  case h_2 => cases h
  simp only [Bool.and_eq_true] at h
  obtain ⟨h1, h2⟩ := h
  refine ps_imp (ps_ret (pe_tup (pa_cons (sE a ft.toFit h1) (pa_cons (vr_ok ft h2) pa_nil (star_cons rfl)) (star_cons (chk_noStar h1))))) fun E σ H q => ?_
  obtain ⟨B0, A0, F, env, r, p⟩ := q
  unfold evS at p
  refine r.aftE p fun x F1 H1 v e1 rv s p => ?_
  obtain ⟨c, hc, p⟩ := p.ok scalR_exc
  obtain ⟨sc, rfl⟩ := scalR_ok hc
  obtain ⟨d, hd, p⟩ := p.ok ownT_exc
  obtain ⟨w, fp, hw, o, na⟩ := ownT_ok s hd
  refine ⟨w, hw, (by show 2 ≤ sizeLine; rw [sizeLine_eq]; decide), fun q np => ?_⟩
  refine p _ F1 _ (s.ext.trans (Ext.new0 e1.s np)) ⟨q :: fp, fun a ha => ?_, own_pair o sc (rv.is e1.s) e1.s np⟩
  rcases List.mem_cons.mp ha with rfl | ha
  · exact s.ext.h.free np
  · exact na a ha
theorem sAppO (wn : Nat) {fz : List Nat} {i : Nat} {e : Ex} {st : Stmt} (ft : SFit X W cref n G bs cs N sc) (h : kApp N bs sc i e st = true) : PS X st (tS X.K W G wn (.appO fz i e)) := by
  unfold kApp at h
  split at h
  case h_2 => cases h
  simp only [Bool.and_eq_true, decide_eq_true_eq] at h
  obtain ⟨⟨⟨rfl, h1⟩, h2⟩, h5⟩ := h
  have st := star_cons (es := []) (env := X.env) (chk_noStar h5)
  refine ps_imp (ps_expr (pe_bm PySem.F.plainAttrs_list PySem.F.slot_list_append PySem.F.type_list_append mt_append (vr_ok ft h2) (pa_cons (sE e ft.toFit h5) pa_nil st) rfl (by rw [st]; rfl) (beq_iff_eq.mpr h1) st rfl) rfl) fun E σ H q => ?_
  obtain ⟨B0, A0, F, env, r, p⟩ := q
  unfold evS at p
  obtain ⟨F0, r0⟩ := r.frz (fz := fz)
  generalize frz fz env = env at p r0
  obtain ⟨t, ht, p⟩ := p.ok odD_exc
  have ht := odD_ok ht
  obtain ⟨ds, hds, p⟩ := p.ok asL_exc
  have hds := asL_ok hds
  subst hds
  obtain ⟨v, fp, hv, o, na⟩ := r0.ra.ods ht
  have o' := o
  simp only [Own] at o
  obtain ⟨a, vs, fq, rfl, rfl, g1, g2, g3, g4⟩ := o
  refine ⟨_, hv, .inl ⟨rfl, vs, (LL.of (K := X.K) g3).seq⟩, r0.aftE p fun y F1 H1 v1 e1 rv1 s1 p => ?_⟩
  obtain ⟨c, hc, p⟩ := p.ok treeOf_exc
  obtain ⟨fc, nc, oc⟩ := treeOf_own rv1 e1.s hc
  by_cases hl : ds.length < lim
  · rw [if_pos hl] at p
    have g3' : H1 a = some (.lst vs) := (e1.stay (by rw [g3]; intro z; cases z)).trans g3
    refine ⟨a, vs, v1, rfl, rfl, g3', by rw [g4.len]; exact Nat.lt_trans hl lim_lt, ?_⟩
    have ha0 := na a List.mem_cons_self
    have hf1 := e1.gone g2 (by rw [g3]; intro z; cases z)
    have ac : a ∉ fc := fun z => by
      have := nc a z
      rw [g3] at this
      cases this
    have ex := s1.ext.mut (o := .lst (vs ++ [v1])) ha0 hf1
    refine p _ _ _ ⟨?_, ex⟩
    refine r0.ra.treeE e1 ht hv ex.s fun fi oi => ?_
    rw [own_fp oi o']
    refine ⟨a :: (fq ++ fc), ?_, fun b hb => ?_, fun b hb hn => (upd_ne fun z => hb (by rw [z]; exact List.mem_cons_self)).trans (e1.stay hn)⟩
    · simp only [Own]
      refine ⟨a, _, fq ++ fc, rfl, rfl, fun z => ?_, hf1, upd_same, ?_⟩
      · rcases List.mem_append.mp z with z | z
        · exact g1 z
        · exact ac z
      · refine OwnL.app (.one (oc.keep fun b hb => ⟨(oc.at b hb).1, upd_ne fun z => ac (by rw [← z]; exact hb)⟩)) (g4.keep fun b hb => ⟨e1.gone (g4.at b hb).1 (g4.at b hb).2, (upd_ne fun z => g1 (by rw [← z]; exact hb)).trans (e1.stay (g4.at b hb).2)⟩) fun b hb z => ?_
        exact (g4.at b hb).2 (nc b z)
    · rcases List.mem_cons.mp hb with rfl | hb
      · exact .inl List.mem_cons_self
      · rcases List.mem_append.mp hb with hb | hb
        · exact .inl (List.mem_cons_of_mem _ hb)
        · exact .inr ⟨nc b hb, r0.ext.h.free (nc b hb)⟩
  · rw [if_neg hl] at p
    exact p.elim
theorem sAppP (wn : Nat) {i j : Nat} {a : Ex} {st : Stmt} (ft : SFit X W cref n G bs cs N sc) (h : kAppP N bs sc i a j st = true) : PS X st (tS X.K W G wn (.appP i a j)) := by
  unfold kAppP at h
  split at h
  case h_2 => cases h
  simp only [Bool.and_eq_true, decide_eq_true_eq] at h
  obtain ⟨⟨⟨⟨rfl, h1⟩, h2⟩, h3⟩, h4⟩ := h
  refine ps_imp (ps_expr (pe_bm PySem.F.plainAttrs_list PySem.F.slot_list_append PySem.F.type_list_append mt_append (vr_ok ft h2)
    (pa_cons (pe_tup (pa_cons (sE a ft.toFit h3) (pa_cons (vr_ok ft h4) pa_nil (star_cons rfl)) (star_cons (chk_noStar h3)))) pa_nil (star_cons rfl)) rfl (by rw [star_cons rfl]; rfl) (beq_iff_eq.mpr h1) (star_cons rfl) rfl) rfl) fun E σ H q => ?_
  obtain ⟨B0, A0, F, env, r0, p⟩ := q
  unfold evS at p
  obtain ⟨t, ht, p⟩ := p.ok odD_exc
  have ht := odD_ok ht
  obtain ⟨ds, hds, p⟩ := p.ok asL_exc
  have hds := asL_ok hds
  subst hds
  obtain ⟨v, fp, hv, o, na⟩ := r0.ra.ods ht
  have o' := o
  simp only [Own] at o
  obtain ⟨b, vs, fq, rfl, rfl, g1, g2, g3, g4⟩ := o
  refine ⟨_, hv, .inl ⟨rfl, vs, (LL.of (K := X.K) g3).seq⟩, r0.aftE p fun y F1 H1 v1 e1 rv1 s1 p => ?_⟩
  obtain ⟨c, hc, p⟩ := p.ok scalR_exc
  obtain ⟨sc, rfl⟩ := scalR_ok hc
  obtain ⟨d, hd, p⟩ := p.ok ownT_exc
  obtain ⟨w, fw, hw, ow, _⟩ := ownT_ok s1 hd
  refine ⟨w, hw, (by show 2 ≤ sizeLine; rw [sizeLine_eq]; decide), fun q np => ?_⟩
  by_cases hl : i ≠ j ∧ ds.length < lim
  case neg =>
    rw [if_neg hl] at p
    exact p.elim
  rw [if_pos hl] at p
  obtain ⟨nij, hl⟩ := hl
  have e2 := Ext.new0 (o := HO.tup [v1, w]) e1.s np
  have s2 := s1.next e2
  have bq : b ≠ q := fun z => by
    have := e1.stay (p := b) (by rw [g3]; intro z; cases z)
    rw [z, np, ← z, g3] at this
    cases this
  have g3' : (upd H1 q (.tup [v1, w])) b = some (.lst vs) := by rw [upd_ne bq]; exact (e1.stay (by rw [g3]; intro z; cases z)).trans g3
  refine ⟨b, vs, .ref q, rfl, rfl, g3', by rw [g4.len]; exact Nat.lt_trans hl lim_lt, ?_⟩
  have hf1 : F1 b = none := e1.gone g2 (by rw [g3]; intro z; cases z)
  have ex := s2.ext.mut (o := .lst (vs ++ [.ref q])) (na b List.mem_cons_self) hf1
  refine p _ _ _ ⟨?_, ex⟩
  have qn : A0 q = none := s1.ext.h.free np
  refine s1.ra.treeJ e2 ht hv ex.s fun fi fj oi bj dj => ?_
  have o1 : Own X.K F1 H1 (.list ds) (.ref b) (b :: fq) := o'.keep fun a ha => ⟨e1.gone (o'.at a ha).1 (o'.at a ha).2, e1.stay (o'.at a ha).2⟩
  have ei := own_fp oi o1
  subst ei
  have ej : fj = fw := ownT_fp hd bj hw ow
  subst ej
  have dj := dj nij
  have g4' : OwnL X.K F1 H1 ds vs fq := by
    simp only [Own] at o1
    obtain ⟨p', vs', fq', z1, z2, _, _, z3, z4⟩ := o1
    cases z1
    cases z2
    have := e1.stay (p := b) (by rw [g3]; intro z; cases z)
    rw [z3, g3] at this
    cases this
    exact z4
  have pr := own_pair ow sc (rv1.is e1.s) e1.s np
  have bw : b ∉ fj := dj b List.mem_cons_self
  refine ⟨b :: (fq ++ (q :: fj)), ?_, fun a ha => ?_, fun a ha hj hn => ?_⟩
  · simp only [Own]
    refine ⟨b, _, fq ++ (q :: fj), rfl, rfl, fun z => ?_, hf1, upd_same, ?_⟩
    · rcases List.mem_append.mp z with z | z
      · exact g1 z
      · rcases List.mem_cons.mp z with z | z
        · exact bq z
        · exact bw z
    · refine OwnL.app (.one (pr.keep fun a ha => ⟨(pr.at a ha).1, upd_ne fun z => ?_⟩)) (g4'.keep fun a ha => ⟨(g4'.at a ha).1, ?_⟩) fun a ha z => ?_
      · subst z
        rcases List.mem_cons.mp ha with z | z
        · exact bq z
        · exact bw z
      · rw [upd_ne fun z => g1 (by rw [← z]; exact ha), upd_ne fun z => (g4'.at a ha).2 (by rw [z]; exact np)]
      · rcases List.mem_cons.mp z with z | z
        · exact (g4'.at a ha).2 (by rw [z]; exact np)
        · exact dj a (List.mem_cons_of_mem _ ha) z
  · rcases List.mem_cons.mp ha with rfl | ha
    · exact .inl (.inl List.mem_cons_self)
    · rcases List.mem_append.mp ha with ha | ha
      · exact .inl (.inl (List.mem_cons_of_mem _ ha))
      · rcases List.mem_cons.mp ha with rfl | ha
        · exact .inr ⟨np, qn⟩
        · exact .inl (.inr ha)
  · rw [upd_ne fun z => ha (by rw [z]; exact List.mem_cons_self), upd_ne fun z => hn (by rw [z]; exact np)]
theorem atI_ok {vs : List V} {k : Int} {w : V} {p : Addr} {H : Hp} {Q : VK} (h : H p = some (.lst vs) ∨ H p = some (.tup vs)) (e : atI vs k = some w) (q : Q w H) : rIx X.K (.ref p) (.int k) H Q := by
  rcases h with h | h
  · exact .inl ⟨p, vs, k, w, rfl, rfl, (LL.of h).seq, e, q⟩
  · exact .inr (.inl ⟨p, vs, k, w, rfl, rfl, .of h, e, q⟩)
theorem stay2 {F H F' H' : Hp} (e : Ext F H F' H') {p : Addr} {vs : List V} (h : H p = some (.lst vs) ∨ H p = some (.tup vs)) : H' p = some (.lst vs) ∨ H' p = some (.tup vs) := h.imp (e.h _ _) (e.h _ _)
theorem own_ext {K : PySem.W.Frag} {F H F' H' : Hp} {d : D} {v : V} {fp : List Addr} (o : Own K F H d v fp) (e : Ext F H F' H') : Own K F' H' d v fp := o.keep fun a ha => ⟨e.gone (o.at a ha).1 (o.at a ha).2, e.stay (o.at a ha).2⟩
theorem sAppX (wn : Nat) {i : Nat} {k e : Ex} {st : Stmt} (ft : SFit X W cref n G bs cs N sc) (h : kAppX N bs sc i k e st = true) : PS X st (tS X.K W G wn (.appX i k e)) := by
  unfold kAppX at h
  split at h
  case h_2 => cases h
  simp only [Bool.and_eq_true, decide_eq_true_eq] at h
  obtain ⟨⟨⟨⟨⟨rfl, h1⟩, h2⟩, h3⟩, h4⟩, h5⟩ := h
  have st := star_cons (es := []) (env := X.env) (chk_noStar h5)
  refine ps_imp (ps_expr (pe_bm PySem.F.plainAttrs_list PySem.F.slot_list_append PySem.F.type_list_append mt_append (pe_ix ix_seq (vr_ok ft h2) (sE k ft.toFit h4) (plainIx_of h3)) (pa_cons (sE e ft.toFit h5) pa_nil st) rfl (by rw [st]; rfl) (beq_iff_eq.mpr h1) st rfl) rfl) fun E σ H q => ?_
  obtain ⟨B0, A0, F, env, r, p⟩ := q
  unfold evS at p
  obtain ⟨d, hd, p⟩ := p.ok odD_exc
  have hd := odD_ok hd
  obtain ⟨v, fp, hv, o, na⟩ := r.ra.ods hd
  refine ⟨v, hv, r.aftE p fun x F1 H1 v1 e1 rv1 s1 p => ?_⟩
  obtain ⟨a, ha, p⟩ := p.isInt
  have iv1 := rv1.is e1.s
  rw [ha] at iv1
  cases is_int iv1
  have o1 := own_ext o e1
  obtain ⟨⟨j, ws⟩, hr, p⟩ := p.ok rowL_exc
  obtain ⟨es, hi, hp⟩ := rowL_ok hr
  obtain ⟨pa, vs, q, us, fq, rfl, g1, g2, g3, g4, g5, g6, g7, _⟩ := o1.row hi hp
  refine atI_ok g1 g2 ⟨.inl ⟨rfl, us, (LL.of (K := X.K) g3).seq⟩, s1.aftE p fun y F2 H2 v2 e2 rv2 s2 p => ?_⟩
  obtain ⟨c, hc, p⟩ := p.ok scalR_exc
  obtain ⟨sc, rfl⟩ := scalR_ok hc
  by_cases hl : ws.length < lim
  · rw [if_pos hl] at p
    have g3' := e2.h _ _ g3
    refine ⟨q, us, v2, rfl, rfl, g3', by rw [g4.len]; exact Nat.lt_trans hl lim_lt, ?_⟩
    exact p _ _ _ (s2.rowA hd hv (own_ext o1 e2) na hi hp rfl (stay2 e2 g1) g2 g3' (Is.scal (rv2.is e2.s) sc) sc)
  · rw [if_neg hl] at p
    exact p.elim
theorem sSetXX (wn : Nat) {i : Nat} {k l e : Ex} {st : Stmt} (ft : SFit X W cref n G bs cs N sc) (h : kSetXX N bs sc i k l e st = true) : PS X st (tS X.K W G wn (.setXX i k l e)) := by
  unfold kSetXX at h
  split at h
  case h_2 => cases h
  rename_i x px s ps u pu v pos
  simp only [Bool.and_eq_true, decide_eq_true_eq] at h
  obtain ⟨⟨⟨⟨⟨h1, h2⟩, h3⟩, h4⟩, h5⟩, h6⟩ := h
  have pg : PG X (.Subscript (.Subscript (.Name x px) s ps) u pu) (gSub (tOp (rIx X.K) (tVar i) (tE X.K W G k)) (tE X.K W G l) rSetL) := by
    refine pg_sub (pe_ix ix_seq (vr_ok ft h1) (sE k ft.toFit h4) (plainIx_of h2)) (sE l ft.toFit h5) set_list ?_
    cases u <;> first | (intro _; rfl) | cases h3
  refine ps_imp (ps_asg (sE e ft.toFit h6) pg (swaps_two (a := .Subscript (.Name x px) s ps) (b := u) (p := pu) (n := pos.line) (env := X.env)) stores_sub) fun E σ H q => ?_
  obtain ⟨B0, A0, F, env, r0, p⟩ := q
  unfold evS at p
  refine r0.aftE p fun y F0 H0 v0 e0 rv0 r p => ?_
  obtain ⟨c, hc, p⟩ := p.ok scalR_exc
  obtain ⟨sc, rfl⟩ := scalR_ok hc
  obtain ⟨d, hd, p⟩ := p.ok odD_exc
  have hd := odD_ok hd
  obtain ⟨v, fp, hv, o, na⟩ := r.ra.ods hd
  refine ⟨v, hv, r.aftE p fun x F1 H1 v1 e1 rv1 s1 p => ?_⟩
  obtain ⟨a, ha, p⟩ := p.isInt
  have iv1 := rv1.is e1.s
  rw [ha] at iv1
  cases is_int iv1
  have o1 := own_ext o e1
  obtain ⟨⟨j, ws⟩, hr, p⟩ := p.ok rowL_exc
  obtain ⟨es, hi, hp⟩ := rowL_ok hr
  obtain ⟨pa, vs, q, us, fq, rfl, g1, g2, g3, g4, g5, g6, g7, _⟩ := o1.row hi hp
  refine atI_ok g1 g2 (s1.aftE p fun y2 F2 H2 v2 e2 rv2 s2 p => ?_)
  obtain ⟨b, hb, p⟩ := p.isInt
  have iv2 := rv2.is e2.s
  rw [hb] at iv2
  cases is_int iv2
  obtain ⟨d2, hd2, p⟩ := p.ok rowS_exc
  obtain ⟨m, y3, hs, hm, rfl⟩ := rowS_ok hd2
  have g3' := e2.h _ _ g3
  refine ⟨q, us, b, m, rfl, rfl, g3', by rw [g4.len]; exact (placed_ok hm).1, ?_⟩
  exact p _ _ _ (s2.rowS hd hv (own_ext o1 e2) na hi hp rfl (stay2 e2 g1) g2 g3' hs (Is.scal (rv0.is e0.s) sc) sc)
end
section
variable {K : PySem.W.Frag} {A F H F' H' : Hp} {σ : L2.St} {env : Env} {B0 A0 : Hp} {W : Wd} {E : Ends} {G : Gam}
theorem SRel.any (r : SRel K B0 A0 F H σ env) {i : Nat} {v : Option V} : SRel K B0 A0 F H (σ.set i v) (env.set i .no) := ⟨r.ra.any, r.ext⟩
theorem SRel.drop (r : SRel K B0 A0 F H σ env) (i : Nat) : SRel K B0 A0 F H σ (env.set i .no) := by
  by_cases hi : i < σ.length
  · have := r.any (i := i) (v := σ[i])
    rwa [set_get_same (List.getElem?_eq_getElem hi)] at this
  · rw [List.set_eq_of_length_le (by rw [r.rel.len]; omega)]
    exact r
theorem SRel.deep (r : SRel K B0 A0 F H σ env) {i n : Nat} {d c1 : D} {v w : V} {fp f : List Addr} {q : Addr} {u : HO} (h : env[i]? = some (.od d)) (hv : σ[i]? = some (some v)) (o : Own K F H d v fp) (na : ∀ a ∈ fp, A0 a = none)
    (rb : ∀ (H' : Hp) (c' : D), Own K F H' c' w f → (∀ a, a ∈ fp → a ∉ f → H' a = H a) → Own K F H' (putAt d n c') v fp) (sub : ∀ a ∈ f, a ∈ fp) (hq : q ∈ f) (hf : F q = none) (oc : Own K F (upd H q u) c1 w f) :
    SRel K B0 A0 F (upd H q u) σ (env.set i (.od (putAt d n c1))) := by
  have e1 := r.ext.mut (o := u) (na q (sub q hq)) hf
  refine ⟨r.ra.tree1 h hv e1.s fun fi oi => ?_, e1⟩
  rw [own_fp oi o]
  exact ⟨fp, rb _ _ oc fun a _ ha => upd_ne fun z => ha (by rw [z]; exact hq), fun a ha => .inl ha, fun a ha _ => upd_ne fun z => ha (by rw [z]; exact sub q hq)⟩
theorem own_ext_L {d : List D} {v : List V} {fp : List Addr} (o : OwnL K F H d v fp) (e : Ext F H F' H') : OwnL K F' H' d v fp := o.keep fun a ha => ⟨e.gone (o.at a ha).1 (o.at a ha).2, e.stay (o.at a ha).2⟩
theorem own_app {q : Addr} {ws : List D} {us : List V} {fq : List Addr} {c : D} {w : V} {G : Hp} (g : OwnL K F H ws us fq) (n : q ∉ fq) (ic : Is K G c w) (sc : scal c = true) : OwnL K F (upd H q (.lst (us ++ [w]))) (ws ++ [c]) (us ++ [w]) fq := by
  have := OwnL.app (es := [c]) (ws := [w]) (g := []) (.one (own_scal ic sc)) (g.keep (H' := upd H q (.lst (us ++ [w]))) (F' := F) fun a ha => ⟨(g.at a ha).1, upd_ne fun z => n (by rw [← z]; exact ha)⟩) fun a _ z => by cases z
  rwa [List.append_nil] at this
theorem own_set {q : Addr} {ws : List D} {us us' : List V} {fq : List Addr} {c : D} {w : V} {m : Nat} (g : OwnL K F H ws us fq) (hs : ws.all scal = true) (ic : Is K H c w) (sc : scal c = true) : OwnL K F (upd H q (.lst us')) (ws.set m c) (us.set m w) fq := by
  rw [g.scal hs]
  exact ownL_scal (G := H) (IsL.set m (g.is fun _ _ => rfl) ic) (all_set hs sc)
theorem eachR_exc {f : D → R D} (h : ∀ d c, f d ≠ .exc c) : ∀ {ds : List D} (c : Str), eachR f ds ≠ .exc c
  | [], c, z => by cases z
  | d :: r, c, z => bind_exc (h d) (fun e => bind_exc (eachR_exc h) fun s y q => by cases q) c z
theorem eachR_cons {f : D → R D} {d : D} {r es : List D} (h : eachR f (d :: r) = .ok es) : ∃ e s, f d = .ok e ∧ eachR f r = .ok s ∧ es = e :: s := by
  unfold eachR at h
  cases q : f d with
  | ok e =>
    rw [q] at h
    have h : ((eachR f r).bind fun s => .ok (e :: s)) = .ok es := h
    cases q2 : eachR f r with
    | ok s => rw [q2] at h; cases h; exact ⟨e, s, rfl, rfl, rfl⟩
    | exc c => rw [q2] at h; cases h
    | stuck => rw [q2] at h; cases h
  | exc c => rw [q] at h; cases h
  | stuck => rw [q] at h; cases h
theorem nox_eq {α : Type} {r : R α} {a : α} (h : nox r = .ok a) : r = .ok a := by
  cases r <;> cases h
  rfl
theorem nox_exc {α : Type} {r : R α} : ∀ c, nox r ≠ .exc c := fun c h => by cases r <;> cases h
theorem app_get {es ds : List D} {n : Nat} (h : es.length = n) : (es ++ ds.drop n)[n]? = ds[n]? := by
  rw [List.getElem?_append_right (by omega), List.getElem?_drop]
  congr 1
  omega
theorem app_set {es ds : List D} {n : Nat} {x : D} (h : es.length = n) (hn : n < ds.length) : (es ++ ds.drop n).set n x = (es ++ [x]) ++ ds.drop (n + 1) := by
  rw [List.set_append_right _ _ (by omega), List.drop_eq_getElem_cons hn, h, Nat.sub_self, List.append_assoc]
  rfl
end
section
variable {cref : Str → Value} {n : Nat} {G : Gam} {bs cs N : List Str} {X : Cx} {W : Wd} {sc : Scope}
theorem sLopA (wn : Nat) {i j : Nat} {k : Int} {c : Const} {st : Stmt} (ft : SFit X W cref n G bs cs N sc) (h : kLopA N bs sc i j k c st = true) : PS X st (tS X.K W G wn (.lopA i j k c)) := by
  unfold kLopA at h
  split at h
  case h_2 => cases h
  simp only [Bool.and_eq_true, decide_eq_true_eq] at h
  obtain ⟨⟨⟨⟨⟨⟨⟨⟨hr, rfl⟩, h1⟩, h2⟩, h3⟩, h4⟩, h5⟩, h6⟩, h7⟩ := h
  obtain ⟨na, nb, nc⟩ := st_of ft.hN ft.hsc (fun x _ => ft.fn x) h3
  have hN : X.N.Nodup := by rw [ft.hN]; exact ft.nd
  have st := star_cons (es := []) (env := X.env) (chk_noStar h7)
  refine ps_imp (ps_for ft.pass (ft.calm hr) (pi_list (vr_ok ft h2)) (pg_name hN na nb nc) (pss_one (ps_expr (pe_bm PySem.F.plainAttrs_list PySem.F.slot_list_append PySem.F.type_list_append mt_append (pe_ix ix_seq (vr_ok ft h4) (sE (.cst (.int k)) ft.toFit h6) (plainIx_of h5)) (pa_cons (sE (.cst c) ft.toFit h7) pa_nil st) rfl (by rw [st]; rfl) (beq_iff_eq.mpr h1) st rfl) rfl))) fun E σ H q => ?_
  obtain ⟨B0, A0, F, env, r, p⟩ := q
  unfold evS at p
  obtain ⟨t, ht, p⟩ := p.ok odD_exc
  have ht := odD_ok ht
  obtain ⟨ds, hds, p⟩ := p.ok asL_exc
  have hds := asL_ok hds
  subst hds
  cases hc : constD c with
  | none => rw [hc] at p; exact p.elim
  | some cd =>
    rw [hc] at p
    by_cases hij : i ≠ j ∧ j < env.length
    case neg =>
      have p : Post X.K B0 A0 W E (if i ≠ j ∧ j < env.length then Out.of env (eachR (rowA k cd) ds) fun es => .nx ((env.set j .no).set i (.od (.list es))) else .stuck) := p
      rw [if_neg hij] at p
      exact p.elim
    have p : Post X.K B0 A0 W E (if i ≠ j ∧ j < env.length then Out.of env (eachR (rowA k cd) ds) fun es => .nx ((env.set j .no).set i (.od (.list es))) else .stuck) := p
    rw [if_pos hij] at p
    obtain ⟨nij, jl⟩ := hij
    obtain ⟨fin, hfin, p⟩ := p.ok (eachR_exc fun d => rowA_exc)
    obtain ⟨v, fp, hv, o, _⟩ := r.ra.ods ht
    have il := lt_of_get ht
    simp only [Own] at o
    obtain ⟨a, xs, fq, rfl, rfl, g1, g2, g3, g4⟩ := o
    refine ⟨_, hv, a, rfl, ⟨xs, (LL.of g3).seq⟩, ?_⟩
    have s0 := r.drop j
    have e0 : (env.set j .no).set i (.od (.list ds)) = env.set j .no := set_eq_self (by rw [List.getElem?_set_ne (Ne.symm nij)]; exact ht)
    refine for_list (fun n σ' H' => ∃ F' es rest, n ≤ ds.length ∧ es.length = n ∧ eachR (rowA k cd) (ds.drop n) = .ok rest ∧ es ++ rest = fin ∧ SRel X.K B0 A0 F' H' σ' ((env.set j .no).set i (.od (.list (es ++ ds.drop n)))) ∧ σ'[i]? = some (some (.ref a)) ∧ H' a = some (.lst xs))
      ⟨F, [], fin, Nat.zero_le _, rfl, hfin, rfl, by rw [List.drop_zero, List.nil_append, e0]; exact s0, hv, g3⟩ (fun n σ' H' _ ⟨F', es, rest, _, _, _, _, _, _, z⟩ => (LL.of z).seq) (fun m x σ1 H1 hx ⟨F1, es, rest, hm, hes, hre, hfi, s1, hv1, ha1⟩ => ?_) (fun σ1 H1 ⟨F1, es, rest, hm, hes, hre, hfi, s1, hv1, ha1⟩ => ?_)
    · have hm2 : m < ds.length := by rw [← g4.len]; exact (List.getElem?_eq_some_iff.mp hx).1
      rw [List.drop_eq_getElem_cons hm2] at hre
      obtain ⟨d1, re2, hd1, hre2, rfl⟩ := eachR_cons hre
      obtain ⟨⟨jj, ws⟩, hr1, hl, rfl⟩ := rowA_ok hd1
      obtain ⟨es1, hi1, hp1⟩ := rowL_ok hr1
      have lens : ((env.set j .no).set i (.od (.list (es ++ ds.drop m)))).length = env.length := by rw [List.length_set, List.length_set]
      have hE : ((env.set j .no).set i (.od (.list (es ++ ds.drop m))))[i]? = some (.od (.list (es ++ ds.drop m))) := List.getElem?_set_self (by rw [List.length_set]; exact il)
      have s2 : SRel X.K B0 A0 F1 H1 (σ1.set j (some x)) ((env.set j .no).set i (.od (.list (es ++ ds.drop m)))) := by
        have := s1.any (i := j) (v := some x)
        rwa [set_eq_self (x := Slot.no) (by rw [List.getElem?_set_ne nij, List.getElem?_set_self jl])] at this
      have hvi : (σ1.set j (some x))[i]? = some (some (.ref a)) := by rw [List.getElem?_set_ne (Ne.symm nij)]; exact hv1
      have hvj : (σ1.set j (some x))[j]? = some (some x) := List.getElem?_set_self (by rw [← s1.rel.len, lens]; exact jl)
      obtain ⟨v2, fp, hv2, o, na⟩ := s2.ra.ods hE
      rw [hvi] at hv2
      cases hv2
      obtain ⟨p1, vs1, w, f, q1, q2, q3, q4, q5, q6, q7, q8, rb⟩ := o.part (j := m) rfl (by rw [app_get hes]; exact List.getElem?_eq_getElem hm2)
      cases q1
      rw [ha1] at q2
      have : vs1 = xs := by rcases q2 with z | z <;> cases z; rfl
      subst this
      rw [hx] at q3
      cases q3
      obtain ⟨pa, vs, q, us, fr, rfl, y1, y2, y3, y4, y5, y6, y7, y8⟩ := q5.row hi1 hp1
      refine ⟨_, hvj, F1, _, s2.rel, ?_⟩
      have ek : ∀ e : Env, ev G (.cst (.int k)) e = .ok (.sh, .int k) := fun e => by unfold ev; rfl
      have ec : ∀ e : Env, ev G (.cst c) e = .ok (.sh, cd) := fun e => by unfold ev; rw [hc]
      rw [ek]
      refine fun F2 H2 e2 v2 rv2 => ?_
      cases is_int (K := X.K) (H := F2) rv2
      refine atI_ok (stay2 e2 y1) y2 ⟨.inl ⟨rfl, us, (LL.of (K := X.K) (e2.h _ _ y3)).seq⟩, ?_⟩
      have s3 := s2.next e2
      refine ⟨F2, _, s3.rel, ?_⟩
      rw [ec]
      refine fun F3 H3 e3 v3 rv3 => ?_
      have s4 := s3.next e3
      have e4 := e2.trans e3
      have y3' := e4.h _ _ y3
      refine ⟨q, us, v3, rfl, rfl, y3', by rw [y4.len]; exact Nat.lt_trans hl lim_lt, ?_⟩
      have sc : scal cd = true := by
        unfold constD at hc
        split at hc <;> cases hc <;> rfl
      have oc := own_app (q := q) (own_ext_L y4 e4) y5 (G := F3) (c := cd) (w := v3) rv3 sc
      obtain ⟨p2, vs2, w2, f2, z1, z2, z3, z4, z5, z6, z7, z8, rb2⟩ := (own_ext o e4).part (j := m) rfl (by rw [app_get hes]; exact List.getElem?_eq_getElem hm2)
      cases z1
      rw [e4.h _ _ ha1] at z2
      have : vs2 = vs1 := by rcases z2 with z | z <;> cases z; rfl
      subst this
      rw [hx] at z3
      cases z3
      have ef := own_fp z5 (own_ext q5 e4)
      subst ef
      obtain ⟨_, fr2, t1, t2, t3, t4, t5⟩ := z5.row_at hi1 hp1 rfl (stay2 e4 y1) y2 y3'
      have er := ownL_fp t1 (own_ext_L y4 e4)
      subst er
      have s5 := s4.deep (u := .lst (us ++ [v3])) hE hvi (own_ext o e4) na rb2 z6 t3 t4 (t5 _ _ oc)
      refine ⟨F3, es ++ [putAt ds[m] jj (.list (ws ++ [cd]))], re2, hm2, by rw [List.length_append, hes]; rfl, hre2, by rw [List.append_assoc]; exact hfi, ?_, hvi, ?_⟩
      · rw [← app_set hes hm2]
        rw [List.set_set] at s5
        exact s5
      · rw [upd_ne fun z => z7 (by rw [z]; exact t3)]
        exact e4.h _ _ ha1
    · have hm2 : xs.length = ds.length := g4.len
      rw [hm2, List.drop_length] at hre s1
      cases hre
      rw [List.append_nil] at hfi s1
      subst hfi
      exact p _ _ _ s1
theorem bind_ok2 {α β : Type} {r : R α} {f : α → R β} {b : β} (h : r.bind f = .ok b) : ∃ a, r = .ok a ∧ f a = .ok b := by
  cases r with
  | ok a => exact ⟨a, rfl, h⟩
  | exc c => cases h
  | stuck => cases h
theorem isInt_ok2 {d : D} {i : Int} (h : PV.isInt d = .ok i) : d = .int i := by
  cases d <;> cases h
  rfl
theorem sLopS (wn : Nat) {i j : Nat} {k : Int} {l e : Ex} {st : Stmt} (ft : SFit X W cref n G bs cs N sc) (h : kLopS N bs sc i j k l e st = true) : PS X st (tS X.K W G wn (.lopS i j k l e)) := by
  unfold kLopS at h
  split at h
  case h_2 => cases h
  rename_i rr pr xx px r2 pr2 ss pss uu pu vv pos pos2
  simp only [Bool.and_eq_true, decide_eq_true_eq] at h
  obtain ⟨⟨⟨⟨⟨⟨⟨⟨hr, h2⟩, h3⟩, h4⟩, h5⟩, h5b⟩, h6⟩, h7⟩, h8⟩ := h
  obtain ⟨na, nb, nc⟩ := st_of ft.hN ft.hsc (fun x _ => ft.fn x) h3
  have hN : X.N.Nodup := by rw [ft.hN]; exact ft.nd
  have pg : PG X (.Subscript (.Subscript (.Name r2 pr2) ss pss) uu pu) (gSub (tOp (rIx X.K) (tVar j) (tE X.K W G (.cst (.int k)))) (tE X.K W G l) rSetL) := by
    refine pg_sub (pe_ix ix_seq (vr_ok ft h4) (sE (.cst (.int k)) ft.toFit h6) (plainIx_of h5)) (sE l ft.toFit h7) set_list ?_
    cases uu <;> first | (intro _; rfl) | cases h5b
  refine ps_imp (ps_for ft.pass (ft.calm hr) (pi_list (vr_ok ft h2)) (pg_name hN na nb nc) (pss_one (ps_asg (sE e ft.toFit h8) pg (swaps_two (a := .Subscript (.Name r2 pr2) ss pss) (b := uu) (p := pu) (n := pos.line) (env := X.env)) stores_sub))) fun E σ H q => ?_
  obtain ⟨B0, A0, F, env, r, p⟩ := q
  unfold evS at p
  obtain ⟨t, ht, p⟩ := p.ok odD_exc
  have ht := odD_ok ht
  obtain ⟨ds, hds, p2⟩ := p.ok asL_exc
  have hds := asL_ok hds
  subst hds
  clear p
  generalize hf : (fun d => (ev G e ((env.set i .no).set j (.od d))).bind fun y => (scalD y).bind fun c => (rowL k d).bind fun p => (ev G l ((env.set i .no).set j (.od d))).bind fun b => (isInt b.2).bind fun b => rowS p b c d) = f at p2
  have p : Post X.K B0 A0 W E (if i ≠ j ∧ j < env.length then Out.of env (nox (eachR f ds)) fun es => .nx ((env.set j .no).set i (.od (.list es))) else .stuck) := p2
  clear p2
  by_cases hij : i ≠ j ∧ j < env.length
  case neg =>
    rw [if_neg hij] at p
    exact p.elim
  rw [if_pos hij] at p
  obtain ⟨nij, jl⟩ := hij
  obtain ⟨fin, hfin, p⟩ := p.ok nox_exc
  have hfin := nox_eq hfin
  obtain ⟨v, fp, hv, o, _⟩ := r.ra.ods ht
  have il := lt_of_get ht
  simp only [Own] at o
  obtain ⟨a, xs, fq, rfl, rfl, g1, g2, g3, g4⟩ := o
  refine ⟨_, hv, a, rfl, ⟨xs, (LL.of g3).seq⟩, ?_⟩
  have s0 := r.drop j
  have e0 : (env.set j .no).set i (.od (.list ds)) = env.set j .no := set_eq_self (by rw [List.getElem?_set_ne (Ne.symm nij)]; exact ht)
  refine for_list (fun n σ' H' => ∃ F' es rest, n ≤ ds.length ∧ es.length = n ∧ eachR f (ds.drop n) = .ok rest ∧ es ++ rest = fin ∧ SRel X.K B0 A0 F' H' σ' ((env.set j .no).set i (.od (.list (es ++ ds.drop n)))) ∧ σ'[i]? = some (some (.ref a)) ∧ H' a = some (.lst xs))
    ⟨F, [], fin, Nat.zero_le _, rfl, hfin, rfl, by rw [List.drop_zero, List.nil_append, e0]; exact s0, hv, g3⟩ (fun n σ' H' _ ⟨F', es, rest, _, _, _, _, _, _, z⟩ => (LL.of z).seq) (fun m x σ1 H1 hx ⟨F1, es, rest, hm, hes, hre, hfi, s1, hv1, ha1⟩ => ?_) (fun σ1 H1 ⟨F1, es, rest, hm, hes, hre, hfi, s1, hv1, ha1⟩ => ?_)
  · have hm2 : m < ds.length := by rw [← g4.len]; exact (List.getElem?_eq_some_iff.mp hx).1
    rw [List.drop_eq_getElem_cons hm2] at hre
    obtain ⟨d1, re2, hd1, hre2, rfl⟩ := eachR_cons hre
    rw [← hf] at hd1
    obtain ⟨y, hy, hd1⟩ := bind_ok2 hd1
    obtain ⟨c, hc, hd1⟩ := bind_ok2 hd1
    obtain ⟨sc, rfl⟩ := scalR_ok hc
    obtain ⟨⟨jj, ws⟩, hr1, hd1⟩ := bind_ok2 hd1
    obtain ⟨b, hb, hd1⟩ := bind_ok2 hd1
    obtain ⟨bi, hbi, hd1⟩ := bind_ok2 hd1
    obtain ⟨mm, y0, hs, hm0, rfl⟩ := rowS_ok hd1
    obtain ⟨es1, hi1, hp1⟩ := rowL_ok hr1
    have lens : ((env.set j .no).set i (.od (.list (es ++ ds.drop m)))).length = env.length := by rw [List.length_set, List.length_set]
    have hE : ((env.set j .no).set i (.od (.list (es ++ ds.drop m))))[i]? = some (.od (.list (es ++ ds.drop m))) := List.getElem?_set_self (by rw [List.length_set]; exact il)
    have s2 : SRel X.K B0 A0 F1 H1 (σ1.set j (some x)) ((env.set j .no).set i (.od (.list (es ++ ds.drop m)))) := by
      have := s1.any (i := j) (v := some x)
      rwa [set_eq_self (x := Slot.no) (by rw [List.getElem?_set_ne nij, List.getElem?_set_self jl])] at this
    have hvi : (σ1.set j (some x))[i]? = some (some (.ref a)) := by rw [List.getElem?_set_ne (Ne.symm nij)]; exact hv1
    have hvj : (σ1.set j (some x))[j]? = some (some x) := List.getElem?_set_self (by rw [← s1.rel.len, lens]; exact jl)
    obtain ⟨v2, fp, hv2, o, na⟩ := s2.ra.ods hE
    rw [hvi] at hv2
    cases hv2
    obtain ⟨p1, vs1, w, ff, q1, q2, q3, q4, q5, q6, q7, q8, rb⟩ := o.part (j := m) rfl (by rw [app_get hes]; exact List.getElem?_eq_getElem hm2)
    cases q1
    rw [ha1] at q2
    have : vs1 = xs := by rcases q2 with z | z <;> cases z; rfl
    subst this
    rw [hx] at q3
    cases q3
    obtain ⟨pa, vs, q, us, fr, rfl, y1, y2, y3, y4, y5, y6, y7, y8⟩ := q5.row hi1 hp1
    -- the row alone, to be read
    have rr2 : RelA X.K A0 F1 H1 (σ1.set j (some (.ref pa))) ((env.set i .no).set j (.od ds[m])) := by
      have := s2.ra.change (i := j) (by rw [lens]; exact jl) i (x := some (.ref pa)) (t := .od ds[m]) (F' := F1) (H' := H1) s2.rel.sub (Same.refl _) fun fps b1 b2 b3 => by
        obtain ⟨w2, z1, z2⟩ := b1 i _ hE
        rw [hvi] at z1
        cases z1
        have e1 := own_fp z2 o
        exact ⟨ff, ⟨_, rfl, q5⟩, fun a2 ha2 => na a2 (q6 a2 ha2), fun k2 k3 k4 k5 a2 ha2 => ⟨fun z => b2 k2 i k4 k5 (by rw [lens]; exact il) a2 ha2 (by rw [e1]; exact q6 a2 z), (b3 k2 k5 a2 ha2).2.1, rfl⟩⟩
      rw [List.set_set] at this
      rw [List.set_set, List.set_comm _ _ (Ne.symm nij), List.set_set] at this
      exact this
    refine ⟨F1, _, rr2.rel, ?_⟩
    rw [hy]
    refine fun F2 H2 e2 v2 rv2 => ?_
    refine ⟨_, hvj, F2, _, (rr2.ext e2).rel, ?_⟩
    have ek : ∀ e : Env, ev G (.cst (.int k)) e = .ok (.sh, .int k) := fun e => by unfold ev; rfl
    rw [ek]
    refine fun F3 H3 e3 v3 rv3 => ?_
    cases is_int (K := X.K) (H := F3) rv3
    have e23 := e2.trans e3
    refine atI_ok (stay2 e23 y1) y2 ⟨F3, _, ((rr2.ext e2).ext e3).rel, ?_⟩
    rw [hb]
    refine fun F4 H4 e4 v4 rv4 => ?_
    have e5 := e23.trans e4
    have iv4 := rv4.is e4.s
    rw [isInt_ok2 hbi] at iv4
    cases is_int iv4
    have y3' := e5.h _ _ y3
    refine ⟨q, us, bi, mm, rfl, rfl, y3', by rw [y4.len]; exact (placed_ok hm0).1, ?_⟩
    have s4 := s2.next e5
    have ic : Is X.K H4 y.2 v2 := (rv2.is e2.s).mono (e3.h.trans e4.h)
    have oc := own_set (q := q) (us' := us.set mm v2) (own_ext_L y4 e5) hs ic sc (m := mm)
    obtain ⟨p2, vs2, w2, f2, z1, z2, z3, z4, z5, z6, z7, z8, rb2⟩ := (own_ext o e5).part (j := m) rfl (by rw [app_get hes]; exact List.getElem?_eq_getElem hm2)
    cases z1
    rw [e5.h _ _ ha1] at z2
    have : vs2 = vs1 := by rcases z2 with z | z <;> cases z; rfl
    subst this
    rw [hx] at z3
    cases z3
    have ef := own_fp z5 (own_ext q5 e5)
    subst ef
    obtain ⟨_, fr2, t1, t2, t3, t4, t5⟩ := z5.row_at hi1 hp1 rfl (stay2 e5 y1) y2 y3'
    have er := ownL_fp t1 (own_ext_L y4 e5)
    subst er
    have s5 := s4.deep (u := .lst (us.set mm v2)) hE hvi (own_ext o e5) na rb2 z6 t3 t4 (t5 _ _ oc)
    refine ⟨F4, es ++ [putAt ds[m] jj (.list (ws.set mm y.2))], re2, hm2, by rw [List.length_append, hes]; rfl, hre2, by rw [List.append_assoc]; exact hfi, ?_, hvi, ?_⟩
    · rw [← app_set hes hm2]
      rw [List.set_set] at s5
      exact s5
    · rw [upd_ne fun z => z7 (by rw [z]; exact t3)]
      exact e5.h _ _ ha1
  · have hm2 : xs.length = ds.length := g4.len
    rw [hm2, List.drop_length] at hre s1
    cases hre
    rw [List.append_nil] at hfi s1
    subst hfi
    exact p _ _ _ s1
theorem hL2_set {K : PySem.W.Frag} {H : Hp} {ds : List D} {vs : List V} {j : Nat} {d : D} {v : V} (h : IsL K H ds vs) (q : Is K H d v) : IsL K H (ds.set j d) (vs.set j v) := h.set j q
theorem chgV_ok {ds es : List D} {k c : Int} (h : chgV ds k c = .ok es) : ∃ j d, placed ds k = .ok (j, d) ∧ ((d = .none ∧ es = ds) ∨ ∃ m, d = .int m ∧ es = ds.set j (.int (m + c))) := by
  unfold chgV at h
  obtain ⟨⟨j, d⟩, hp, h⟩ := bind_ok2 h
  refine ⟨j, d, hp, ?_⟩
  cases d with
  | none => cases h; exact .inl ⟨rfl, rfl⟩
  | int m => cases h; exact .inr ⟨m, rfl, rfl⟩
  | _ => cases h
theorem chgV_exc {ds : List D} {k c : Int} : ∀ y, chgV ds k c ≠ .exc y := by
  unfold chgV
  refine bind_exc placed_exc fun p y h => ?_
  obtain ⟨j, d⟩ := p
  cases d <;> cases h
theorem sChg (wn : Nat) {i : Nat} {l e : Ex} {st : Stmt} (ft : SFit X W cref n G bs cs N sc) (h : kChg N bs sc i l e st = true) : PS X st (tS X.K W G wn (.chg i l e)) := by
  unfold kChg at h
  split at h
  case h_2 => cases h
  simp only [Bool.and_eq_true, decide_eq_true_eq] at h
  obtain ⟨⟨⟨⟨⟨rfl, h1⟩, h2⟩, h3⟩, h4⟩, h5⟩ := h
  cases hG : G "!changed" with
  | none =>
    refine ⟨fun pins s σ H E I q => ?_⟩
    obtain ⟨B0, A0, F, env, r, p⟩ := q
    unfold evS at p
    rw [hG] at p
    exact p.elim
  | some g =>
    obtain ⟨f, fd, hm, hk, hb, hF⟩ := ft.gc.chg g hG
    have hs := chk_noStar h4
    have hs2 := chk_noStar h5
    refine ps_imp (ps_expr (pe_g (E := WE (wx cref W)) hF (ft.rm (.inl ⟨_, g, hG⟩)).1 ft.gd (ft.gl h1) hm hk hb (fun σ => passAt ft.tk σ) (pa_cons (vr_ok ft h3) (pa_cons (sE l ft.toFit h4) (pa_cons (sE e ft.toFit h5) pa_nil (star_cons hs2)) (star_cons hs)) (star_cons rfl)) (by simp only [List.all_cons, List.all_nil, Bool.and_true, Bool.and_eq_true]; exact ⟨rfl, hs, hs2⟩) (nm_of h2).1) rfl) fun E σ H q => ?_
    obtain ⟨B0, A0, F, env, r, p⟩ := q
    unfold evS at p
    rw [hG] at p
    have p : Post X.K B0 A0 W E (Out.of env (ownL env i) fun ds => Out.of env (ev G l env) fun a => Out.of env (isInt a.2) fun a => Out.of env (ev G e env) fun b => Out.of env (isInt b.2) fun b => Out.of env (chgV ds a b) fun es => .nx (env.set i (.ow (.list es)))) := p
    obtain ⟨ds, hds, p⟩ := p.ok ownL_exc
    have hds := ownL_ok hds
    obtain ⟨pa, hpa, rt⟩ := r.rel.own hds
    refine ⟨_, hpa, r.aftE p fun x F1 H1 v1 e1 rv1 s1 p => ?_⟩
    obtain ⟨a, ha, p⟩ := p.isInt
    have iv1 := rv1.is e1.s
    rw [ha] at iv1
    cases is_int iv1
    refine s1.aftE p fun x2 F2 H2 v2 e2 rv2 s2 p => ?_
    obtain ⟨b, hb2, p⟩ := p.isInt
    have iv2 := rv2.is e2.s
    rw [hb2] at iv2
    cases is_int iv2
    obtain ⟨es, hes, p9⟩ := p.ok chgV_exc
    obtain ⟨j, d, hp, hd⟩ := chgV_ok hes
    obtain ⟨hj1, hj2⟩ := placed_ok hp
    have rt2 := (rt.mono e1).mono e2
    obtain ⟨f2, vs, hvs, hL⟩ := id rt2
    obtain ⟨w, hw, iw⟩ := hL.get hj2
    refine ⟨pa, vs, a, b, j, w, rfl, hvs, by rw [hL.len]; exact hj1, hw, ?_⟩
    rcases hd with ⟨d1, d2⟩ | ⟨m, d1, d2⟩
    · rw [d1] at iw
      rw [d2] at p9
      refine .inl ⟨by simpa only [Is] using iw, ?_⟩
      have := s2
      rw [← set_eq_self hds] at this
      exact p9 _ _ _ this
    · rw [d1] at iw
      rw [d2] at p9
      refine .inr ⟨m, is_int iw, ?_⟩
      exact p9 _ _ _ (s2.write hds hpa rt2 (hL2_set hL int_is))
theorem sIns (wn : Nat) {fz : List Nat} {i : Nat} {k e : Ex} {st : Stmt} (ft : SFit X W cref n G bs cs N sc) (h : kIns N bs sc i k e st = true) : PS X st (tS X.K W G wn (.ins fz i k e)) := by
  unfold kIns at h
  split at h
  case h_2 => cases h
  simp only [Bool.and_eq_true, decide_eq_true_eq] at h
  obtain ⟨⟨⟨⟨rfl, h1⟩, h2⟩, h4⟩, h5⟩ := h
  have s4 := fun es => star_cons (es := es) (env := X.env) (chk_noStar h4)
  have s5 := fun es => star_cons (es := es) (env := X.env) (chk_noStar h5)
  refine ps_imp (ps_expr (pe_bm PySem.F.plainAttrs_list PySem.F.slot_list_insert PySem.F.type_list_insert mt_insert (vr_ok ft h2) (pa_cons (sE k ft.toFit h4) (pa_cons (sE e ft.toFit h5) pa_nil (s5 [])) (s4 _)) rfl (by rw [s4, s5]; rfl) (beq_iff_eq.mpr h1) (s4 _) (by rw [s5]; rfl)) rfl) fun E σ H q => ?_
  obtain ⟨B0, A0, F, env, r, p⟩ := q
  unfold evS at p
  obtain ⟨F0, r0⟩ := r.frz (fz := fz)
  generalize frz fz env = env at p r0
  obtain ⟨ds, hds, p⟩ := p.ok ownL_exc
  have hds := ownL_ok hds
  obtain ⟨pa, hpa, rt⟩ := r0.rel.own hds
  refine ⟨_, hpa, .inl ⟨rfl, ?_⟩, r0.aftE p fun x F1 H1 v1 e1 rv1 s1 p => ?_⟩
  · obtain ⟨_, vs, hvs, _⟩ := rt
    exact ⟨vs, (LL.of (K := X.K) hvs).seq⟩
  · obtain ⟨a, ha, p⟩ := p.isInt
    have iv1 := rv1.is e1.s
    rw [ha] at iv1
    cases is_int iv1
    refine s1.aftE p fun y F2 H2 v2 e2 rv2 s2 p => ?_
    obtain ⟨d, hd, p⟩ := p.ok shOnly_exc
    obtain ⟨F3, s3, i3, _⟩ := shOnly_use s1 e2 rv2 hd
    obtain ⟨pa', hpa', rt2⟩ := s3.rel.own hds
    rw [hpa] at hpa'
    cases hpa'
    obtain ⟨f2, vs2, hvs2, hL2⟩ := id rt2
    by_cases hl : 0 ≤ a ∧ a ≤ 1000000 ∧ ds.length < lim
    · rw [if_pos hl] at p
      refine ⟨pa, vs2, a, v2, rfl, rfl, hvs2, by rw [hL2.len]; exact Nat.lt_trans hl.2.2 lim_lt, hl.1, by omega, ?_⟩
      exact p _ _ _ (s3.write hds hpa rt2 (((hL2.take a.toNat).app (.one i3)).app (hL2.drop a.toNat)))
    · rw [if_neg hl] at p
      exact p.elim
end
end PV

/-! PvTry: try and except. -/
namespace PV
open PySem PySem.Spec PyProof.Rows L2
section
variable {X : Cx} {a D : Addr} {oe : Obj} {pn : List (Addr × Obj)}
/-- isinstance(e, (c1, c2, ..)), e the error that the suite holds -/
def rIsET (K : PySem.W.Frag) (D a : Addr) : List V → Hp → VK → Prop := fun xs H Q => ∃ (tp : Addr) (cs : List V) (us : List Value) (b : Bool), xs = [.ref a, .ref tp] ∧ H tp = some (.tup cs) ∧ Paired ClsV cs us ∧ PySem.W.kitAny K (.ref D) us = some b ∧ Q (.bl b) H
theorem call_isET (C : L2.ExcC X.K D) (hz : Zc (.ref D) none oe) (hf : ∃ vs, oe.data = .fields vs) : CallR (X.suite a ((a, oe) :: pn)) (.builtin "isinstance") (rIsET X.K D a) := by
  intro pins s σ H xs us Q I r h
  obtain ⟨tp, cs, ws, b, rfl, hT, k, e, q⟩ := h
  obtain ⟨u1, u2, rfl, r1, r2⟩ := vals2 r
  cases (show u2 = Value.ref tp from r2)
  cases (show u1 = Value.ref a from r1)
  obtain ⟨hget, _⟩ := I.pin (a, oe) (List.mem_append.mpr (.inl List.mem_cons_self))
  obtain ⟨vs, hv⟩ := hf
  have J : PySem.W.InstAt s.heap a oe D none := by
    obtain ⟨oc, od, oda, osl⟩ := oe
    obtain ⟨h1, h2⟩ := hz
    dsimp only at h1 h2 hv
    subst h1 h2 hv
    exact ⟨hget, rfl, rfl, trivial⟩
  obtain ⟨_, its, rv, o, h1, h2, n, h3⟩ := (show ObjOk X.prog X.w H s.heap tp (.tup cs) from I.hok tp _ hT)
  have e3 := ClsV.all k rv
  subst e3
  obtain ⟨oc, od, dt, sl⟩ := o
  simp only at h2 h3
  subst h2 h3
  exact PySem.W.kia_tup (PySem.W.handS_kitx_exc C.hg C.hk C.hs C.hd C.ha C.hn C.ht C.hm) I.kIn J h1 e (fun z => nomatch z) fun tk => ⟨.bl b, H, I.kept (t' := tk) fun _ _ z => z, rfl, q⟩
end
section
variable {cref : Str → Value} {n : Nat} {G : Gam} {bs cs N : List Str} {X : Cx} {W : Wd} {sc : Scope}
theorem fit_suite (ft : Fit X W cref n G bs cs N sc) (a : Addr) (pn : List (Addr × Obj)) : Fit (X.suite a pn) (fun _ _ _ => False) cref 0 (fun _ => none) [] [] N sc where
  gc := { blt := fun x hx => (by cases hx), fns := fun x g _ h => (by cases h), kwf := fun x k g h => (by cases h), chg := fun g h => (by cases h), exs := fun c hc => (by cases hc), err := fun _ c hc => (by cases hc), con := fun x g h => (by cases h), dfl := fun x g h => (by cases h) }
  hN := ft.hN
  nd := ft.nd
  hsc := ft.hsc
  calm := fun h => by cases h
  un := ft.un
  rm := fun h => by
    rcases h with ⟨f, g, h⟩ | h
    · cases h
    · cases h
  rp := fun h => (by cases h)
  gd := ft.gd
  tk := takes_none5.imp fun c d σ H q => by obtain ⟨_, _, _, z⟩ := q; exact z
/-- .. in which repr may be called -/
theorem fit_suite2 (ft : Fit X W cref n G bs cs N sc) (hr : ("repr" : Str) ∈ bs) (a : Addr) (pn : List (Addr × Obj)) : Fit (X.suite a pn) (fun _ _ _ => False) cref 0 (fun _ => none) ["repr"] [] N sc where
  gc := { blt := fun x hx => (by rw [List.mem_singleton.mp hx]; exact ft.gc.blt _ hr), fns := fun x g _ h => (by cases h), kwf := fun x k g h => (by cases h), chg := fun g h => (by cases h), exs := fun c hc => (by cases hc), err := fun _ c hc => (by cases hc), con := fun x g h => (by cases h), dfl := fun x g h => (by cases h) }
  hN := ft.hN
  nd := ft.nd
  hsc := ft.hsc
  calm := fun h => absurd (List.mem_singleton.mp h) (by decide)
  un := ft.un
  rm := fun h => by
    rcases h with ⟨f, g, h⟩ | h
    · cases h
    · exact absurd (List.mem_singleton.mp h) (by decide)
  rp := fun _ => ft.rp hr
  gd := ft.gd
  tk := takes_none5.imp fun c d σ H q => by obtain ⟨_, _, _, z⟩ := q; exact z
/-- slot i holds the error; nothing is written -/
def tUb (i : Nat) (a : Addr) (b : Bool) : TE := fun σ H Q => σ[i]? = some (some (.ref a)) ∧ ∀ H', Same H H' → Q (.bl b) H'
def tUt (i : Nat) (a : Addr) (b : Bool) : TT := fun σ H Q => σ[i]? = some (some (.ref a)) ∧ ∀ H', Same H H' → Q b H'
def tCs (ws : List V) : TA := fun _ H Q => Q ws H
/-- what the suite knows of the error -/
structure Err (K : PySem.W.Frag) (mg : Str → Option Value) (cs : List Str) (c : Str) (D : Addr) : Prop where
  ec : L2.ExcC K D
  facts : ∀ x, (x ∈ cs ∨ x = "LegionError" ∨ x = "ValueError") →
    ∃ v, PySem.W.kitOne K (.ref D) v = some (subE c x) ∧ (x = "ValueError" → v = .type "ValueError") ∧ (x ≠ "ValueError" → ∃ C, v = .ref C ∧ mg x = some (.ref C)) ∧ (x ∈ cs → x ≠ "ValueError" ∧ PySem.W.exmOne K (.ref D) v = some (subE c x))
theorem boot_VE : bootBuiltins "ValueError" = some (.type "ValueError") := by first | rfl | decide +kernel
theorem cls_ok (ft : Fit X W cref n G bs cs N sc) {c : Str} {D a : Addr} {pn : List (Addr × Obj)} (er : Err X.K X.mg cs c D) {x : Str} {p : Pos} (h : kCls sc bs cs x = true) :
    ∃ (w : V) (v : Value), PE (X.suite a pn) (.Name x p) (tC w) ∧ ClsV w v ∧ PySem.W.kitOne X.K (.ref D) v = some (subE c x) := by
  unfold kCls at h
  by_cases hx : x = "ValueError"
  · rw [if_pos hx] at h
    obtain ⟨g1, g2⟩ := ft.glN h
    obtain ⟨v, k1, k2, _⟩ := er.facts x (.inr (.inr hx))
    have := k2 hx
    subst this
    subst hx
    exact ⟨.ty "ValueError", _, pe_bltn (X := X.suite a pn) g1 g2 boot_VE rfl (by decide) (by decide), .ty _, k1⟩
  · rw [if_neg hx] at h
    simp only [Bool.and_eq_true, Bool.or_eq_true, decide_eq_true_eq] at h
    obtain ⟨⟨h1, h2⟩, h3⟩ := h
    obtain ⟨v, k1, _, k3, _⟩ := er.facts x (h3.imp id .inl)
    obtain ⟨C, rfl, hm⟩ := k3 hx
    exact ⟨.ref C, _, pe_glob (X := X.suite a pn) (ft.gl h1) hm rfl (nm_of h2).1, .own C, k1⟩
theorem clss_ok (ft : Fit X W cref n G bs cs N sc) {c : Str} {D a : Addr} {pn : List (Addr × Obj)} (er : Err X.K X.mg cs c D) : ∀ {xs : List Str} {es : List Expr}, kClss sc bs cs xs es = true →
    ∃ (ws : List V) (vs : List Value), PA (X.suite a pn) es (tCs ws) ∧ Paired ClsV ws vs ∧ PySem.W.kitAny X.K (.ref D) vs = some (xs.any (subE c)) ∧ ws.length = xs.length
  | [], [], _ => ⟨[], [], pa_imp pa_nil fun σ H Q q => q, .nil, rfl, rfl⟩
  | [], _ :: _, h => by simp [kClss] at h
  | x :: xs, [], h => by simp [kClss] at h
  | x :: xs, e :: es, h => by
    cases e with
    | Name z p =>
      simp only [kClss, Bool.and_eq_true, decide_eq_true_eq] at h
      obtain ⟨⟨rfl, h1⟩, h2⟩ := h
      obtain ⟨w, v, p1, p2, p3⟩ := cls_ok (a := a) (pn := pn) (p := p) ft er h1
      obtain ⟨ws, vs, q1, q2, q3, q4⟩ := clss_ok ft er h2
      refine ⟨w :: ws, v :: vs, pa_imp (pa_cons p1 q1 (star_cons rfl)) fun σ H Q q => q, .cons p2 q2, ?_, by rw [List.length_cons, q4, List.length_cons]⟩
      unfold PySem.W.kitAny
      rw [p3, List.any_cons]
      cases subE c z with
      | true => rfl
      | false => exact q3
    | _ => simp [kClss] at h
theorem clss_one {xs : List Str} {z : Expr} (h : kClss sc bs cs xs [z] = true) : ∃ x, xs = [x] ∧ ∃ pz, z = .Name x pz ∧ kCls sc bs cs x = true := by
  match xs, h with
  | [], h => simp [kClss] at h
  | [x], h =>
    cases z with
    | Name y pz =>
      simp only [kClss, Bool.and_eq_true, decide_eq_true_eq] at h
      obtain ⟨⟨rfl, h⟩, _⟩ := h
      exact ⟨y, rfl, pz, rfl, h⟩
    | _ => simp [kClss] at h
  | _ :: _ :: _, h => cases z <;> simp [kClss] at h
theorem kUb_noStar {i : Nat} {u : Ub} {e : Expr} (h : kUb N bs cs sc i u e = true) : noStar e = true := by
  cases e <;> first | rfl | (cases u <;> simp [kUb] at h)
theorem sUb (ft : Fit X W cref n G bs cs N sc) {c : Str} {D a : Addr} {oe : Obj} {pn : List (Addr × Obj)} (er : Err X.K X.mg cs c D) (hz : Zc (.ref D) none oe) (hf : ∃ vs, oe.data = .fields vs) {i : Nat} :
    ∀ {u : Ub} {e : Expr}, kUb N bs cs sc i u e = true → PE (X.suite a ((a, oe) :: pn)) e (tUb i a (u.is c))
  | .not u, e, h => by
    unfold kUb at h
    split at h <;> first | (cases h; done) | skip
    all_goals (rename_i heq; try cases heq)
    refine pe_imp (pe_not (sUb ft er hz hf (u := u) h)) fun σ H Q ⟨q1, q2⟩ => ⟨q1, fun H' s => ⟨_, rfl, q2 H' s⟩⟩
  | .and2 u v, e, h => by
    unfold kUb at h
    split at h <;> first | (cases h; done) | skip
    all_goals (rename_i heq; try cases heq)
    simp only [Bool.and_eq_true] at h
    refine pe_imp (pe_and (sUb ft er hz hf (u := u) h.1) (pe_one (sUb ft er hz hf (u := v) h.2))) fun σ H Q ⟨q1, q2⟩ => ⟨q1, fun H' s => ⟨_, rfl, ?_⟩⟩
    have q2 : ∀ H', Same H H' → Q (.bl (u.is c && v.is c)) H' := q2
    generalize u.is c = bu at q2
    cases bu with
    | true => exact iteT ⟨q1, fun H2 s2 => q2 H2 (s.trans s2)⟩
    | false => exact iteF (q2 H' s)
  | .and3 u v w, e, h => by
    unfold kUb at h
    split at h <;> first | (cases h; done) | skip
    all_goals (rename_i heq; try cases heq)
    simp only [Bool.and_eq_true] at h
    refine pe_imp (pe_and (sUb ft er hz hf (u := u) h.1.1) (pe_and (sUb ft er hz hf (u := v) h.1.2) (pe_one (sUb ft er hz hf (u := w) h.2)))) fun σ H Q ⟨q1, q2⟩ => ⟨q1, fun H' s => ⟨_, rfl, ?_⟩⟩
    have q2 : ∀ H', Same H H' → Q (.bl (u.is c && (v.is c && w.is c))) H' := q2
    generalize u.is c = bu at q2
    generalize v.is c = bv at q2
    cases bu with
    | true =>
      refine iteT ⟨q1, fun H2 s2 => ⟨_, rfl, ?_⟩⟩
      cases bv with
      | true => exact iteT ⟨q1, fun H3 s3 => q2 H3 ((s.trans s2).trans s3)⟩
      | false => exact iteF (q2 H2 (s.trans s2))
    | false => exact iteF (q2 H' s)
  | .isE xs, e, h => by
    have st := star_cons (e := .Name "" ⟨0, 0, 0, 0⟩) (es := []) (env := X.env) rfl
    unfold kUb at h
    split at h <;> first | (cases h; done) | skip
    all_goals (rename_i heq; try cases heq)
    · simp only [Bool.and_eq_true, decide_eq_true_eq] at h
      obtain ⟨⟨⟨⟨rfl, h1⟩, h2⟩, h3⟩, h4⟩ := h
      obtain ⟨g1, g2⟩ := ft.glN h1
      obtain ⟨ws, vs, q1, q2, q3, q4⟩ := clss_ok (a := a) (pn := (a, oe) :: pn) ft er h3
      unfold vr at h2
      simp only [Bool.and_eq_true, decide_eq_true_eq] at h2
      refine pe_imp (pe_callB (X := X.suite a ((a, oe) :: pn)) (call_isET er.ec hz hf) g1 g2 boot_isinstance (pa_cons ((fit_suite ft a ((a, oe) :: pn)).nm h2.1.1 h2.1.2 h2.2) (pa_cons (pe_tup q1) pa_nil (star_cons rfl)) (star_cons rfl)) (by decide) (by decide) (star_cons rfl) rfl) fun σ H Q ⟨z1, z2⟩ => ?_
      refine ⟨_, z1, by rw [q4]; exact Nat.le_trans (Nat.le_of_lt h4) (by rw [sizeLine_eq]; decide), fun p np => ?_⟩
      exact ⟨p, ws, vs, _, rfl, upd_same, q2, q3, z2 _ (same_upd np)⟩
    · simp only [Bool.and_eq_true, decide_eq_true_eq] at h
      obtain ⟨⟨⟨rfl, h1⟩, h2⟩, h3⟩ := h
      obtain ⟨g1, g2⟩ := ft.glN h1
      obtain ⟨x, rfl, pz, rfl, h5⟩ := clss_one h3
      obtain ⟨w, v, p1, p2, p3⟩ := cls_ok (a := a) (pn := (a, oe) :: pn) (p := pz) ft er h5
      unfold vr at h2
      simp only [Bool.and_eq_true, decide_eq_true_eq] at h2
      refine pe_imp (pe_callB (X := X.suite a ((a, oe) :: pn)) (call_isE er.ec hz hf) g1 g2 boot_isinstance (pa_cons ((fit_suite ft a ((a, oe) :: pn)).nm h2.1.1 h2.1.2 h2.2) (pa_cons p1 pa_nil (star_cons rfl)) (star_cons rfl)) (by decide) (by decide) (star_cons rfl) rfl) fun σ H Q ⟨z1, z2⟩ => ?_
      refine ⟨_, z1, w, v, _, rfl, fun u r => p2.eq r, p3, ?_⟩
      have z3 : Q (.bl (subE c x || false)) H := z2 H (Same.refl _)
      rwa [Bool.or_false] at z3
theorem sUt (ft : Fit X W cref n G bs cs N sc) {c : Str} {D a : Addr} {oe : Obj} {pn : List (Addr × Obj)} (er : Err X.K X.mg cs c D) (hz : Zc (.ref D) none oe) (hf : ∃ vs, oe.data = .fields vs) {i : Nat} :
    ∀ {u : Ub} {e : Expr}, kUt N bs cs sc i u e = true → PT (X.suite a ((a, oe) :: pn)) e (tUt i a (u.is c))
  | .not u, e, h => by
    unfold kUt at h
    split at h <;> first | (cases h; done) | skip
    all_goals (rename_i heq; try cases heq)
    exact pt_imp (pt_not (sUt ft er hz hf (u := u) h)) fun σ H Q ⟨q1, q2⟩ => ⟨q1, fun H' s => q2 H' s⟩
  | .and2 u v, e, h => by
    unfold kUt at h
    split at h <;> first | (cases h; done) | skip
    all_goals (rename_i heq; try cases heq)
    simp only [Bool.and_eq_true] at h
    refine pt_imp (pw_and (sUt ft er hz hf (u := u) h.1) (pw_and1 (sUt ft er hz hf (u := v) h.2))).pt fun σ H Q ⟨q1, q2⟩ => ⟨q1, fun H' s => ?_⟩
    have q2 : ∀ H', Same H H' → Q (u.is c && v.is c) H' := q2
    generalize u.is c = bu at q2
    cases bu with
    | true => exact iteT ⟨q1, fun H2 s2 => q2 H2 (s.trans s2)⟩
    | false => exact iteF (q2 H' s)
  | .and3 u v w, e, h => by simp [kUt] at h
  | .isE xs, e, h => by
    unfold kUt at h
    split at h <;> first | (cases h; done) | skip
    all_goals (rename_i heq; try cases heq)
    exact pt_imp (pt_truth (sUb ft er hz hf h) fun _ => rfl) fun σ H Q ⟨q1, q2⟩ => ⟨q1, fun H' s => ⟨_, rfl, q2 H' s⟩⟩
/-- the suite's reading -/
def tSux (K : PySem.W.Frag) (i : Nat) (a : Addr) (c : Str) (s : Sux) : TS := fun E σ H => σ[i]? = some (some (.ref a)) ∧ ∃ B0 A0 F env, SRel K B0 A0 F H σ env ∧ env[i]? = some .no ∧ Post K B0 A0 (fun _ _ _ => False) E (s.ev c env)
theorem ext_same {F H H' : Hp} (s : Same F H) (s' : Same H H') : Ext F H F H' := ⟨Same.refl _, s', s.trans s', fun _ h => .inl h⟩
theorem sSux (ft : SFit X W cref n G bs cs N sc) {c : Str} {D a : Addr} {oe : Obj} {pn : List (Addr × Obj)} (er : Err X.K X.mg cs c D) (hz : Zc (.ref D) none oe) (hf : ∃ vs, oe.data = .fields vs) {i : Nat} :
    ∀ {s : Sux} {st : Stmt}, kSux N bs cs sc i s st = true → PS (X.suite a ((a, oe) :: pn)) st (tSux X.K i a c s)
  | .ret u, st, h => by
    unfold kSux at h
    split at h <;> first | (cases h; done) | skip
    all_goals (rename_i heq; try cases heq)
    refine ps_imp (ps_ret (sUb ft.toFit er hz hf h)) fun E σ H ⟨q1, B0, A0, F, env, r, q2, p⟩ => ⟨q1, fun H' s => ?_⟩
    exact p _ F H' (r.ext.trans (ext_same r.rel.sub s)) (bool_is (K := X.K) (H := F))
  | .rets u x y, st, h => by
    unfold kSux at h
    split at h <;> first | (cases h; done) | skip
    all_goals (rename_i heq; try cases heq)
    simp only [Bool.and_eq_true, decide_eq_true_eq] at h
    obtain ⟨⟨h1, rfl⟩, rfl⟩ := h
    refine ps_imp (ps_ret (pe_ifExp (sUt ft.toFit er hz hf h1) pe_str pe_str)) fun E σ H ⟨q1, B0, A0, F, env, r, q2, p⟩ => ⟨q1, fun H' s => ?_⟩
    have p : Post X.K B0 A0 (fun _ _ _ => False) E (.ret .sh (.str (if u.is c then _ else _))) := p
    generalize u.is c = b at p
    cases b with
    | true => exact iteT (p _ F H' (r.ext.trans (ext_same r.rel.sub s)) (str_is (K := X.K) (H := F)))
    | false => exact iteF (p _ F H' (r.ext.trans (ext_same r.rel.sub s)) (str_is (K := X.K) (H := F)))
  | .addI j u, st, h => by
    unfold kSux at h
    split at h <;> first | (cases h; done) | skip
    all_goals (rename_i heq; try cases heq)
    simp only [Bool.and_eq_true, decide_eq_true_eq] at h
    obtain ⟨⟨⟨⟨⟨h0, h1⟩, h2⟩, rfl⟩, h4⟩, h5⟩ := h
    obtain ⟨g1, g2⟩ := ft.glN h4
    obtain ⟨z1, z2, z3⟩ := st_of ft.hN ft.hsc (fun x _ => ft.fn x) h1
    have hN : X.N.Nodup := by rw [ft.hN]; exact ft.nd
    unfold vr at h2
    simp only [Bool.and_eq_true, decide_eq_true_eq] at h2
    have star := fun (e : Expr) (k : noStar e = true) => star_cons (e := e) (es := []) (env := X.env) k
    have hns : noStar _ = true := kUb_noStar h5
    refine ps_imp (ps_set (X := X.suite a ((a, oe) :: pn)) hN z1 z2 (pe_op op_add ((fit_suite ft.toFit a ((a, oe) :: pn)).nm h2.1.1 h2.1.2 h2.2) (pe_callTy (X := X.suite a ((a, oe) :: pn)) call_int1 g1 g2 rfl (pa_cons (sUb ft.toFit er hz hf h5) pa_nil (star_cons hns)) (by decide) (by decide) (star_cons hns) rfl)) rfl z3) fun E σ H ⟨q1, B0, A0, F, env, r, q2, p⟩ => ?_
    have p : Post X.K B0 A0 (fun _ _ _ => False) E (match env[j]? with | some (.sh (.int n)) => .nx (env.set j (.sh (.int (n + (if u.is c then 1 else 0))))) | _ => .stuck) := p
    split at p
    · rename_i n hj
      obtain ⟨v, hv, iv⟩ := r.rel.shs hj
      cases is_int iv
      refine ⟨_, hv, q1, fun H' s => .inr ⟨_, rfl, ?_⟩⟩
      refine ⟨_, _, rfl, rfl, ?_⟩
      exact p _ F H' ((r.next (ext_same r.rel.sub s)).set int_is)
    · exact p.elim
  | .pas, st, h => by
    unfold kSux at h
    split at h <;> first | (cases h; done) | skip
    all_goals (rename_i heq; try cases heq)
    exact ps_imp ps_pass fun E σ H ⟨q1, B0, A0, F, env, r, q2, p⟩ => (show Post X.K B0 A0 (fun _ _ _ => False) E (.nx env) from p) _ _ _ r
  | .retE u v w p0 q0, st, h => by
    unfold kSux at h
    split at h <;> first | (cases h; done) | skip
    all_goals (rename_i heq; try cases heq)
    simp only [Bool.and_eq_true, decide_eq_true_eq] at h
    obtain ⟨⟨⟨⟨⟨hr, h1⟩, h2⟩, h3⟩, h4⟩, h5⟩ := h
    have f2 := fit_suite2 ft.toFit hr a ((a, oe) :: pn)
    refine ps_imp (ps_ret (pe_and (sUb ft.toFit er hz hf h1) (pe_and (sUb ft.toFit er hz hf h2) (pe_and (sUb ft.toFit er hz hf h3) (pe_and (sE p0 f2 h4) (pe_one (sE q0 f2 h5))))))) fun E σ H ⟨q1, B0, A0, F, env, r, q2, p⟩ => ⟨q1, fun H' s => ⟨_, rfl, ?_⟩⟩
    have fin : ∀ H2, Same H H2 → Post X.K B0 A0 (fun _ _ _ => False) E (.ret .sh (.bool false)) → E.rt (.bl false) H2 := fun H2 s2 p => p _ F H2 (r.ext.trans (ext_same r.rel.sub s2)) (bool_is (K := X.K) (H := F))
    have p : Post X.K B0 A0 (fun _ _ _ => False) E (if (u.is c && (v.is c && w.is c)) = true then (match ev (fun _ => none) p0 env with
      | .ok (_, .bool a) => if a = true then (match ev (fun _ => none) q0 env with | .ok (_, .bool b) => .ret .sh (.bool b) | _ => .stuck) else .ret .sh (.bool false)
      | _ => .stuck) else .ret .sh (.bool false)) := p
    generalize u.is c = bu at p
    generalize v.is c = bv at p
    generalize w.is c = bw at p
    cases bu with
    | false => exact iteF (fin H' s p)
    | true =>
    refine iteT ⟨q1, fun H2 s2 => ⟨_, rfl, ?_⟩⟩
    cases bv with
    | false => exact iteF (fin H2 (s.trans s2) p)
    | true =>
    refine iteT ⟨q1, fun H3 s3 => ⟨_, rfl, ?_⟩⟩
    cases bw with
    | false => exact iteF (fin H3 ((s.trans s2).trans s3) p)
    | true =>
    have s4 : Same H H3 := (s.trans s2).trans s3
    have rl : Rel X.K F H3 σ env := r.rel.ext (ext_same r.rel.sub s4)
    refine iteT ⟨F, env, rl, ?_⟩
    have p : Post X.K B0 A0 (fun _ _ _ => False) E (match ev (fun _ => none) p0 env with
      | .ok (_, .bool a) => if a = true then (match ev (fun _ => none) q0 env with | .ok (_, .bool b) => .ret .sh (.bool b) | _ => .stuck) else .ret .sh (.bool false)
      | _ => .stuck) := p
    cases h0 : ev (fun _ => none) p0 env with
    | stuck => rw [h0] at p; exact p.elim
    | exc _ => rw [h0] at p; exact p.elim
    | ok x =>
    rw [h0] at p
    obtain ⟨t, d⟩ := x
    intro F4 H4 e4 v4 rv4
    cases d with
    | bool b4 =>
      have iv := is_bool (rv4.is e4.s)
      subst iv
      refine ⟨b4, rfl, ?_⟩
      have x4 : Ext B0 A0 F4 H4 := (r.ext.trans (ext_same r.rel.sub s4)).trans e4
      cases b4 with
      | false => exact iteF (p _ F4 H4 x4 (bool_is (K := X.K) (H := F4)))
      | true =>
      refine iteT ⟨F4, env, rl.ext e4, ?_⟩
      have p : Post X.K B0 A0 (fun _ _ _ => False) E (match ev (fun _ => none) q0 env with | .ok (_, .bool b) => .ret .sh (.bool b) | _ => .stuck) := p
      cases h5 : ev (fun _ => none) q0 env with
      | stuck => rw [h5] at p; exact p.elim
      | exc _ => rw [h5] at p; exact p.elim
      | ok x =>
      rw [h5] at p
      obtain ⟨t5, d5⟩ := x
      intro F5 H5 e5 v5 rv5
      cases d5 with
      | bool b5 =>
        have iv := is_bool (rv5.is e5.s)
        subst iv
        exact p _ F5 H5 (x4.trans e5) (bool_is (K := X.K) (H := F5))
      | _ => exact p.elim
    | _ => exact p.elim
theorem Post.weak {K : PySem.W.Frag} {B0 A0 : Hp} {W : Wd} {E : Ends} {s : Sux} {c : Str} {env : Env} {i : Nat} (hi : env[i]? = some .no) (h : Post K B0 A0 W E (s.ev c env)) :
    Post K B0 A0 (fun _ _ _ => False) { nx := fun σ' H' => E.nx (σ'.set i none) H', rt := E.rt, bk := fun σ' H' => E.bk (σ'.set i none) H', ct := fun σ' H' => E.ct (σ'.set i none) H' } (s.ev c env) := by
  have keep : ∀ {e : Env}, e[i]? = some .no → (∀ σ F H, SRel K B0 A0 F H σ e → E.nx σ H) → ∀ σ F H, SRel K B0 A0 F H σ e → E.nx (σ.set i none) H := fun {e} he k σ F H r => by
    have := r.any (i := i) (v := none)
    rw [set_eq_self he] at this
    exact k _ F H this
  cases s with
  | ret u => exact h
  | rets u x y => exact h
  | pas => exact keep hi h
  | retE u v w p q =>
    have k : (∃ d, (Sux.retE u v w p q).ev c env = .ret .sh d) ∨ (Sux.retE u v w p q).ev c env = .stuck := by
      simp only [Sux.ev]
      split
      · split
        · split
          · split
            · exact .inl ⟨_, rfl⟩
            · exact .inr rfl
          · exact .inl ⟨_, rfl⟩
        · exact .inr rfl
      · exact .inl ⟨_, rfl⟩
    rcases k with ⟨d, k⟩ | k
    · rw [k] at h ⊢
      exact h
    · rw [k] at h
      exact h.elim
  | addI j u =>
    have h : Post K B0 A0 W E (match env[j]? with | some (.sh (.int n)) => .nx (env.set j (.sh (.int (n + (if u.is c then 1 else 0))))) | _ => .stuck) := h
    show Post K B0 A0 _ _ (match env[j]? with | some (.sh (.int n)) => .nx (env.set j (.sh (.int (n + (if u.is c then 1 else 0))))) | _ => .stuck)
    split at h
    · rename_i m hj
      refine keep ?_ h
      by_cases e : j = i
      · subst e
        rw [hj] at hi
        cases hi
      · rw [List.getElem?_set_ne e]
        exact hi
    · exact h.elim
/-- the clauses, each with the same name (slot i), and what they wish one after the other -/
inductive Hds (X : Cx) (n : Str) (i : Nat) (Wout : WX) : List ExceptHandler → (Ends → WX) → Prop
  | nil : Hds X n i Wout [] fun _ => Wout
  | cons {x : Str} {c : Value} {ts : Addr → Value → Option Addr → TS} {b : Stmt} {np p : Pos} {hs : List ExceptHandler} {w : Ends → WX} (hc : Names X x c)
      (hsu : ∀ (a : Addr) (oe : Obj) (cls : Value) (d : Option Addr) (pn : List (Addr × Obj)), Zc cls d oe → (∃ vs, oe.data = .fields vs) → PSs (X.suite a ((a, oe) :: pn)) [b] (ts a cls d)) (r : Hds X n i Wout hs w) :
      Hds X n i Wout (.ExceptHandler (some (.Name x np)) (some n) [b] p :: hs) fun D => wAs X.K c i ts (w D) D
theorem ps_hds {body : List Stmt} {nm : Str} {i : Nat} {h₀ : ExceptHandler} {hds : List ExceptHandler} {w : Ends → WX} {pos : Pos} {tb : WX → TS} {Wout : WX} (hs : X.stack = X.env :: X.outer) (hf : X.env.frame = some X.env.locals) (hN : X.N.Nodup) (hi : X.N[i]? = some nm) (hln : X.env.kindOf nm = some .local) (tk : Takes X Wout)
    (hb : ∀ (W : WX) (pn : List (Addr × Obj)) (xe : Value → Shared → Prop), Takes (X.tr pn xe) W → PassesOwn (model X.prog X.w) X.A X.env xe → PSs (X.tr pn xe) body (tb W)) (hh : Hds X nm i Wout (h₀ :: hds) w) :
    PS X (.Try body (h₀ :: hds) [] [] pos) (fun D σ H => tb (w D) D σ H) := by
  refine ⟨fun pins s σ H D I q0 => ?_⟩
  have ok := I.ok
  have fr : X.A.frames = some (X.env :: X.outer) := ok.frames.trans (congrArg some hs)
  refine wpAny_Try_except (wpAny_mono ((hb (w D) (X.pn ++ pins) (fun e s₁ => wpAny (model X.prog X.w) X.A (noteFrame e X.env) (fun _ s₂ => wpAny (model X.prog X.w) X.A (setFlight e none) (fun _ s₃ =>
    wpAny (model X.prog X.w) X.A (handleBy e X.env (h₀ :: hds)) (SP X pins D) X.xe s₃) X.xe s₂) X.xe s₁) ?ctch PassesOwn.looking).run [] s σ H D (I.toTry _) q0) ?thru fun _ _ he => he)
  case thru =>
    intro f s1 q
    cases f with
    | next => obtain ⟨σ', H', J, q⟩ := q; exact wpAny_execs_nil ⟨σ', H', J.ofTry ok, q⟩
    | brk => obtain ⟨σ', H', J, q⟩ := q; exact ⟨σ', H', J.ofTry ok, q⟩
    | cont => obtain ⟨σ', H', J, q⟩ := q; exact ⟨σ', H', J.ofTry ok, q⟩
    | ret u => obtain ⟨v, σ', H', J, r, q⟩ := q; exact ⟨v, σ', H', J.ofTry ok, r, q⟩
  case ctch =>
    rintro u s' ⟨a, B, sI, pins', σ', H', cls, d, rfl, J', nb, up, sky, na, os, ag, wish⟩
    have J : Inv X pins σ' H' sI := J'.ofTry ok
    have sky' : Sky B (X.env :: X.outer) a (Zc cls d) X.env.locals s'.heap := by rw [← hs]; exact sky
    show wpAny (model X.prog X.w) X.A (noteFrame (.ref a) X.env) _ _ _
    refine Sky.land Zc.steady fr hf sky' fun h3 fl3 up3 => ?_
    have J3 : Inv X pins σ' H' { s' with heap := h3 } := J.landed nb fl3.1 (up.trans up3) os ag
    obtain ⟨o3, v3, he3, hz3, hd3⟩ := fl3.there
    have away : a ∉ frs (X.env :: X.outer) := fun hm => by
      obtain ⟨_, o', e', nf⟩ := fl3.2.2.1.mem hm
      rw [he3] at e'
      cases e'
      exact nf _ hd3
    have nL : a ≠ X.env.locals := fun z => away (List.mem_filterMap.mpr ⟨X.env, List.mem_cons_self, by rw [hf, z]⟩)
    have nF : a ∉ X.fs := fun hm => by
      obtain ⟨e, he, q⟩ := List.mem_filterMap.mp hm
      exact away (List.mem_filterMap.mpr ⟨e, List.mem_cons_of_mem _ he, q⟩)
    have S3 := J3.suite he3 hd3 na nL nF
    have ty : PySem.W.Looks (model X.prog X.w) h3 (typeOf (.ref a)) cls := fun A Q E s k q => wpAny_typeOf_ref (k _ _ he3) (by rw [hz3.1]; exact q)
    have go : ∀ {hs' : List ExceptHandler} {w' : Ends → WX}, Hds X nm i Wout hs' w' → w' D cls d σ' H' → wpAny (model X.prog X.w) X.A (handleBy (.ref a) X.env hs') (SP X pins D) X.xe { s' with heap := h3 } := by
      intro hs' w' hk
      induction hk with
      | nil =>
        intro wish
        refine wpAny_handleBy_nil ?_
        obtain ⟨_, _, _, oe, vs, T, oT, ts', he, hz, hd, h1, hr⟩ := id fl3
        unfold PySem.passOn
        refine wpAny_bind (wpAny_field he hd h1 ?_)
        rw [if_neg (show ¬ ((Value.ref T == Value.none) = true) from by simp)]
        have fin : wpAny (model X.prog X.w) X.A (setFlight (.ref a) X.env.frame) (fun _ s4 => wpAny (model X.prog X.w) X.A (throw (.ref a) : Sem Flow) (SP X pins D) X.xe s4) X.xe { s' with heap := h3 } := by
          rw [hf]
          exact HandSPX.setFlight_upZ fl3 fun h4 hh4 up4 => wpAny_throw (tk _ _ ⟨a, B, sI, pins, σ', H', cls, d, rfl, J, nb, (up.trans up3).trans up4, .inr (.inr (by rw [hs]; exact hh4)), na, os, ag, wish⟩)
        first
          | exact wpAny_bind (wpAny_pure (wpAny_bind fin))
          | exact wpAny_bind fin
      | @cons x c ts b np p hs2 w2 hc hsu r ih =>
        rintro ⟨bb, hb1, yes, no⟩
        refine wpAny_handleBy_cons (codeAny_handlers_test ?_) (by intro q; cases q)
        have LM := PySem.W.exm_one (M := model X.prog X.w) J3.kIn ty hb1
        have test : ∀ {Q E : Value → Shared → Prop}, Q c { s' with heap := h3 } → wpAny (model X.prog X.w) (X.A.mark (some (.ref a))) (eval (.Name x np) X.env) Q E { s' with heap := h3 } := fun {Q E} q => by
          obtain ⟨hg, hdb, hm | ⟨hm, hv, hnn⟩⟩ := hc
          · exact ld_glob (X := X.suite a ((a, o3) :: (X.pn ++ pins))) S3 hg hm q hdb
          · exact ld_blt (X := X.suite a ((a, o3) :: (X.pn ++ pins))) S3 hg hm hv q hnn hdb
        refine test (LM.here ?_)
        cases bb with
        | false => exact ih (no rfl)
        | true =>
          refine codeAny_handlers_suite_as ?_
          refine HandSPX.lands_againZ fl3 fun h4 fl4 up4 => ?_
          have J4 : Inv X pins σ' H' { s' with heap := h4 } := J.landed nb fl4.1 ((up.trans up3).trans up4) os ag
          obtain ⟨o4, v4, he4, hz4, hd4⟩ := fl4.there
          refine store_ok (X := X.suite a ((a, o4) :: (X.pn ++ pins))) (v := .ref a) (J4.suite he4 hd4 na nL nF) hN hi (.inl hln) rfl (fun s5 S5 => ?_) (.inr hln)
          refine wpAny_mono ((hsu a o4 cls d (X.pn ++ pins) hz4 ⟨_, hd4⟩).run [] s5 _ H' _ S5 (yes rfl a na)) (fun f s6 q => ?_) (fun _ _ z => False.elim z)
          have gone : ∀ {σ6 : L2.St} {H6 : Hp} {Q : Shared → Prop}, Inv (X.suite a ((a, o4) :: (X.pn ++ pins))) [] σ6 H6 s6 → (∀ s7, Inv X pins (σ6.set i none) H6 s7 → Q s7) →
              wpAny (model X.prog X.w) X.A (do bindName X.env nm .none; unbindBehindTheSuite X.env nm p) (fun _ s7 => Q s7) X.xe s6 := fun S6 hq => gone_ok (S6.unsuite ok) hN hi hln hq
          cases f with
          | next => obtain ⟨σ6, H6, S6, q6⟩ := q; exact gone S6 fun s7 J7 => ⟨_, _, J7, q6⟩
          | brk => obtain ⟨σ6, H6, S6, q6⟩ := q; exact gone S6 fun s7 J7 => ⟨_, _, J7, q6⟩
          | cont => obtain ⟨σ6, H6, S6, q6⟩ := q; exact gone S6 fun s7 J7 => ⟨_, _, J7, q6⟩
          | ret u => obtain ⟨v6, σ6, H6, S6, r6, q6⟩ := q; exact gone S6 fun s7 J7 => ⟨_, _, _, J7, r6, q6⟩
    exact go hh wish
/-- the clauses as the look finds them -/
theorem hds_ok (ft : SFit X W cref n G bs cs N sc) {i : Nat} {ks : List Str} (ht : ("!try" : Str) ∈ bs) (hk : ∀ c ∈ ks, c ∈ cs) (B0 A0 : Hp) : ∀ {hs : List (Str × Sux)} {hds : List ExceptHandler} {nm : Str}, kHs N bs cs sc i hs hds = true → N[i]? = some nm → ∃ w : Ends → WX, Hds X nm i (wx cref W) hds w ∧
    ∀ (E : Ends) (c : Str) (e : Env) (σ : L2.St) (F H : Hp), c ∈ ks → i < e.length → SRel X.K B0 A0 F H σ e → Post X.K B0 A0 W E (match hdl c hs with | some s => s.ev c (e.set i .no) | none => .exc c e) → w E (cref c) none σ H
  | [], [], nm, _, _ => ⟨_, .nil, fun E c e σ F H _ _ r p => ⟨rfl, c, rfl, p σ F H r⟩⟩
  | [], _ :: _, _, h, _ => by simp [kHs] at h
  | _ :: _, [], _, h, _ => by simp [kHs] at h
  | h :: r, hd :: hds, nm, hh, hn => by
    unfold kHs at hh
    split at hh
    case h_3 => cases hh
    all_goals (rename_i heq1 heq2; first | (cases heq1; done) | (cases heq1; cases heq2))
    rename_i cn np nm' st pos'
    simp only [Bool.and_eq_true, decide_eq_true_eq, beq_iff_eq] at hh
    obtain ⟨⟨⟨⟨⟨⟨⟨rfl, h1⟩, h2⟩, h3⟩, h4⟩, h5⟩, h6⟩, h7⟩ := hh
    rw [hn] at h4
    cases h4
    obtain ⟨w, hw, rd⟩ := hds_ok ft ht hk B0 A0 h7 hn
    obtain ⟨C0, hC0⟩ := ft.gc.exs _ h1
    refine ⟨_, .cons (c := .ref C0) (ts := fun a cls d E σ H => ∃ c, c ∈ ks ∧ cls = cref c ∧ d = none ∧ tSux X.K i a c h.2 E σ H) ⟨ft.gl h2, (nm_of h3).1, .inl hC0.mg⟩ (fun a oe cls d pn hz hf => ⟨fun pins s σ H E I q => ?_⟩) hw, fun E c e σ F H hc hi r' p => ?_⟩
    · obtain ⟨c, hc, rfl, rfl, q⟩ := q
      obtain ⟨D, hD, ec, fc⟩ := ft.gc.err ht c (hk c hc)
      rw [hD] at hz
      exact (pss_one (sSux ft ⟨ec, fc⟩ hz hf h6)).run pins s σ H E I q
    · obtain ⟨D, hD, ec, fc⟩ := ft.gc.err ht c (hk c hc)
      obtain ⟨v, _, _, v3, v4⟩ := fc _ (.inl h1)
      obtain ⟨C1, rfl, hm⟩ := v3 (v4 h1).1
      rw [hC0.mg] at hm
      cases hm
      have ea := (v4 h1).2
      rw [← hD] at ea
      refine ⟨_, ea, fun y a na => ?_, fun y => ?_⟩
      · refine ⟨c, hc, rfl, rfl, ?_⟩
        have e1 : hdl c (h :: r) = some h.2 := by
          unfold hdl
          rw [if_pos y]
        rw [e1] at p
        exact ⟨List.getElem?_set_self (by rw [← r'.rel.len]; exact hi), B0, A0, F, e.set i .no, r'.any, List.getElem?_set_self hi, p.weak (List.getElem?_set_self hi)⟩
      · have e1 : hdl c (h :: r) = hdl c r := by
          conv => lhs; unfold hdl
          rw [if_neg (by rw [y]; exact Bool.false_ne_true)]
        rw [e1] at p
        exact rd E c e σ F H hc hi r' p
theorem sTry (wn : Nat) (ft : SFit X W cref n G bs cs N sc) {i : Nat} {ks : List Str} {hs : List (Str × Sux)} {b : Sx} {x : Stmt} {hds : List ExceptHandler} {pos : Pos} (ht : ("!try" : Str) ∈ bs) (hk : ∀ c ∈ ks, c ∈ cs) (hl : 0 < hs.length) (hh : kHs N bs cs sc i hs hds = true)
    (hb : ∀ (W' : Wd) (pn : List (Addr × Obj)) (xe : Value → Shared → Prop), Takes (X.tr pn xe) (wx cref W') → PassesOwn (model X.prog X.w) X.A X.env xe → PS (X.tr pn xe) x (tS X.K W' G wn b)) : PS X (.Try [x] hds [] [] pos) (tS X.K W G wn (.tryA i ks hs b)) := by
  obtain ⟨h0, r0, rfl⟩ : ∃ a b, hs = a :: b := by
    cases hs with
    | nil => cases hl
    | cons a b => exact ⟨a, b, rfl⟩
  match hds, hh with
  | [], hh => simp [kHs] at hh
  | hd :: hds, hh =>
    have hh0 := hh
    unfold kHs at hh
    split at hh
    case h_3 => cases hh
    all_goals (rename_i heq1 heq2; first | (cases heq1; done) | (cases heq1; cases heq2))
    rename_i cn np nm st pos'
    simp only [Bool.and_eq_true, decide_eq_true_eq, beq_iff_eq] at hh
    obtain ⟨⟨⟨⟨⟨⟨⟨rfl, h1⟩, h2⟩, h3⟩, h4⟩, h5⟩, h6⟩, h7⟩ := hh
    have hN : X.N.Nodup := by rw [ft.hN]; exact ft.nd
    have hn : X.N[i]? = some nm := by rw [ft.hN]; exact h4
    have hlo : X.env.kindOf nm = some .local := by
      show X.env.scope.names.lookup nm = _
      rw [ft.hsc]
      exact h5
    refine ⟨fun pins s σ H E I q => ?_⟩
    obtain ⟨B0, A0, F, env, r, p⟩ := q
    obtain ⟨w, hw, rd⟩ := hds_ok ft ht hk B0 A0 hh0 h4
    refine (ps_hds (tb := fun W' => tSs X.K (fun c σ H => W' (cref c) none σ H) G wn [b]) ft.stk ft.frm hN hn hlo ft.tk ?_ hw).run pins s σ H E I ?_
    · intro W' pn xe tk po
      refine pss_imp (pss_one (hb (fun c σ H => W' (cref c) none σ H) pn xe (tk.imp fun c d σ H q => ?_) po)) fun E σ H q => ?_
      · obtain ⟨rfl, c', rfl, q⟩ := q
        exact q
      · obtain ⟨B0, A0, F, env, r, p⟩ := q
        refine ⟨B0, A0, F, env, r, ?_⟩
        unfold evSs at p
        cases ho : evS G wn b env with
        | nx e =>
          rw [ho] at p
          have p : Post X.K B0 A0 (fun c σ H => W' (cref c) none σ H) E (evSs G wn [] e) := p
          unfold evSs at p
          exact p
        | _ => rw [ho] at p; exact p
    · refine ⟨B0, A0, F, env, r, ?_⟩
      have p : Post X.K B0 A0 W E ((evS G wn b env).caught i ks (h0 :: r0)) := p
      unfold evSs
      cases ho : evS G wn b env with
      | exc c e =>
        rw [ho] at p
        have p : Post X.K B0 A0 W E (if c ∈ ks ∧ i < e.length then (match hdl c (h0 :: r0) with | some s => s.ev c (e.set i .no) | none => .exc c e) else .stuck) := p
        by_cases hc : c ∈ ks ∧ i < e.length
        case neg =>
          rw [if_neg hc] at p
          exact p.elim
        rw [if_pos hc] at p
        exact fun σ' F' H' r' => rd E c e σ' F' H' hc.1 hc.2 r' p
      | nx e =>
        rw [ho] at p
        show Post X.K B0 A0 _ E (evSs G wn [] e)
        unfold evSs
        exact p
      | _ => rw [ho] at p; exact p
theorem sTryK (wn : Nat) (ft : SFit X W cref n G bs cs N sc) {ks : List Str} {v : Bool} {b : Sx} {x : Stmt} {y : Str} {j : Nat} {np p1 p2 p3 pos : Pos} (ht : ("!try" : Str) ∈ bs) (hk : ∀ c ∈ ks, c ∈ cs) (h1 : y ∈ cs) (h2 : glB sc y = true) (h3 : nmB y = true)
    (hb : ∀ (W' : Wd) (pn : List (Addr × Obj)) (xe : Value → Shared → Prop), Takes (X.tr pn xe) (wx cref W') → PassesOwn (model X.prog X.w) X.A X.env xe → PS (X.tr pn xe) x (tS X.K W' G wn b)) : PS X (.Try [x] [.ExceptHandler (some (.Name y np)) none [.Return (some (.Constant (.bool v) j p1)) p2] p3] [] [] pos) (tS X.K W G wn (.tryK y ks v b)) := by
  refine ⟨fun pins s σ H E I q => ?_⟩
  obtain ⟨B0, A0, F, env, r, p⟩ := q
  obtain ⟨C0, hC0⟩ := ft.gc.exs _ h1
  refine (ps_try_only (c := .ref C0) (ts := fun a cls d => tSeq (tRet (tC (.bl v))) tNext) (tb := fun W' => tSs X.K (fun c σ H => W' (cref c) none σ H) G wn [b]) ft.stk ft.frm ⟨ft.gl h2, (nm_of h3).1, .inl hC0.mg⟩ ft.tk ?_ fun a oe cls d pn hz hf => pss_cons (ps_ret pe_bl) pss_nil).run pins s σ H E I ?_
  · intro W' pn xe tk po
    refine pss_imp (pss_one (hb (fun c σ H => W' (cref c) none σ H) pn xe (tk.imp fun c d σ H q => ?_) po)) fun E σ H q => ?_
    · obtain ⟨rfl, c', rfl, q⟩ := q
      exact q
    · obtain ⟨B0, A0, F, env, r, p⟩ := q
      refine ⟨B0, A0, F, env, r, ?_⟩
      unfold evSs at p
      cases ho : evS G wn b env with
      | nx e =>
        rw [ho] at p
        have p : Post X.K B0 A0 (fun c σ H => W' (cref c) none σ H) E (evSs G wn [] e) := p
        unfold evSs at p
        exact p
      | _ => rw [ho] at p; exact p
  · refine ⟨B0, A0, F, env, r, ?_⟩
    have p : Post X.K B0 A0 W E ((evS G wn b env).caughtK y ks v) := p
    unfold evSs
    cases ho : evS G wn b env with
    | exc c e =>
      rw [ho] at p
      have p : Post X.K B0 A0 W E (if c ∈ ks then (if subE c y = true then .ret .sh (.bool v) else .exc c e) else .stuck) := p
      by_cases hc : c ∈ ks
      case neg =>
        rw [if_neg hc] at p
        exact p.elim
      rw [if_pos hc] at p
      obtain ⟨D, hD, ec, fc⟩ := ft.gc.err ht c (hk c hc)
      obtain ⟨w, _, _, v3, v4⟩ := fc _ (.inl h1)
      obtain ⟨C1, rfl, hm⟩ := v3 (v4 h1).1
      rw [hC0.mg] at hm
      cases hm
      have ea := (v4 h1).2
      rw [← hD] at ea
      intro σ' F' H' r'
      refine ⟨_, ea, fun z a na => ?_, fun z => ?_⟩
      · rw [if_pos z] at p
        exact p (.bl v) F' H' r'.ext (show Is X.K F' (.bool v) (.bl v) by simp only [Is])
      · rw [if_neg (by rw [z]; exact Bool.false_ne_true)] at p
        exact ⟨rfl, c, rfl, p σ' F' H' r'⟩
    | nx e =>
      rw [ho] at p
      show Post X.K B0 A0 _ E (evSs G wn [] e)
      unfold evSs
      exact p
    | _ => rw [ho] at p; exact p
end
end PV

/-! PvTree2: more statements about owned trees: dicts of lists, a list moved into a tree, rows raised and moved. -/
namespace PV
open PySem PySem.Spec PyProof.Rows L2
section
variable {K : PySem.W.Frag} {A A' F H F' H' : Hp} {σ : L2.St} {env : Env} {B0 A0 : Hp} {W : Wd} {E : Ends} {G : Gam}
theorem RelA.weak (hA : ∀ a, A a = none → A' a = none) (r : RelA K A F H σ env) : RelA K A' F H σ env := by
  obtain ⟨fps, h1, h2, h3⟩ := r.slot
  exact ⟨r.sub, r.len, fps, h1, h2, fun i hi a ha => hA a (h3 i hi a ha)⟩
/-- A and places that float free -/
def float (A : Hp) (l : List Addr) : Hp := fun a => if a ∈ l then some (.lst []) else A a
theorem float_no {l : List Addr} {a : Addr} (h : float A l a = none) : a ∉ l ∧ A a = none := by
  unfold float at h
  by_cases c : a ∈ l
  · rw [if_pos c] at h; cases h
  · rw [if_neg c] at h; exact ⟨c, h⟩
theorem float_of {l : List Addr} {a : Addr} (n : a ∉ l) (h : A a = none) : float A l a = none := by
  unfold float
  rw [if_neg n]
  exact h
theorem RelA.float (r : RelA K A F H σ env) (e : Ext F H F' H') {l : List Addr} (n : ∀ a ∈ l, H a = none) : RelA K (PV.float A l) F' H' σ env := by
  obtain ⟨fps, h1, h2, h3⟩ := r.slot
  refine ⟨e.s, r.len, fps, fun i s h => (h1 i s h).keep e.f fun a ha => ?_, h2, fun i hi a ha => float_of (fun z => ?_) (h3 i hi a ha)⟩
  · have q := (h1 i s h).at a ha
    exact ⟨e.gone q.1 q.2, e.stay q.2⟩
  · exact ((h1 i _ (List.getElem?_eq_getElem hi)).at a ha).2 (n a z)
theorem RelA.drop (r : RelA K A F H σ env) (i : Nat) : RelA K A F H σ (env.set i .no) := by
  by_cases hi : i < σ.length
  · have := r.any (i := i) (v := σ[i])
    rwa [set_get_same (List.getElem?_eq_getElem hi)] at this
  · rw [List.set_eq_of_length_le (by rw [r.len]; omega)]
    exact r
theorem bump_ok {x c : Int} {d d2 : D} (h : bump x c d = .ok d2) : ∃ ws m z, d = .list ws ∧ ws.all scal = true ∧ placed ws x = .ok (m, .int z) ∧ d2 = .list (ws.set m (.int (z + c))) := by
  unfold bump at h
  obtain ⟨ws, h1, h⟩ := bind_ok2 h
  have h1 := asL_ok h1
  unfold allS at h
  by_cases z : ws.all scal = true
  · rw [if_pos z] at h
    obtain ⟨ws', h2, h⟩ := bind_ok2 h
    cases h2
    obtain ⟨⟨m, y⟩, h3, h⟩ := bind_ok2 h
    obtain ⟨r, h4, h⟩ := bind_ok2 h
    cases h
    obtain ⟨i, j, e1, e2, _⟩ := augB_ok h4
    have e1 : y = .int i := e1
    subst e1
    cases e2
    cases h4
    exact ⟨ws, m, i, h1, z, h3, rfl⟩
  · rw [if_neg z] at h
    cases h
theorem keyD_inj {a b : Key} (h : keyD a = keyD b) : a = b := by
  have := congrArg dkey h
  rw [dkey_of, dkey_of] at this
  exact Option.some.inj this
theorem dKey_eq (k : Key) : dKey k = keyD k := by cases k <;> rfl
theorem ownK_keys : ∀ {kvs : List (D × D)} {es : List (Key × V)} {fp : List Addr}, OwnK K F H kvs es fp → ∀ q ∈ kvs, ∃ kk, q.1 = keyD kk
  | [], _, _, _, q, hq => by cases hq
  | (k, x) :: r, _, _, h, q, hq => by
    simp only [OwnK] at h
    obtain ⟨kk, v, w, f, g, rfl, hk, rfl, h0, h1, h2⟩ := h
    rcases List.mem_cons.mp hq with rfl | hq
    · exact ⟨kk, hk.1⟩
    · exact ownK_keys h2 q hq
theorem ownK_len : ∀ {kvs : List (D × D)} {es : List (Key × V)} {fp : List Addr}, OwnK K F H kvs es fp → es.length = kvs.length
  | [], _, _, h => by
    simp only [OwnK] at h
    rw [h.1]
    rfl
  | (k, x) :: r, _, _, h => by
    simp only [OwnK] at h
    obtain ⟨kk, v, w, f, g, rfl, hk, rfl, h0, h1, h2⟩ := h
    rw [List.length_cons, List.length_cons, ownK_len h2]
/-- the value at a key, and the dict with that value anew -/
theorem OwnK.sub : ∀ {kvs : List (D × D)} {es : List (Key × V)} {fp : List Addr} {k : Key} {v : V}, OwnK K F H kvs es fp → valV es k = some v → ∃ d f g1 g2, dGetK kvs k = some d ∧ (kvs.any fun kv => decide (dkey kv.1 = some k)) = true ∧ fp = g1 ++ f ++ g2 ∧ (∀ a ∈ f, a ∉ g1 ∧ a ∉ g2) ∧ Own K F H d v f ∧
    ∀ (H' : Hp) (d' : D), Own K F H' d' v f → (∀ a, a ∈ g1 ∨ a ∈ g2 → H' a = H a) → OwnK K F H' (kvs.map fun kv => if dkey kv.1 = some k then (kv.1, d') else kv) es fp
  | [], _, _, k, v, h, e => by
    simp only [OwnK] at h
    rw [h.1] at e
    cases e
  | (y, x) :: r, _, _, k, v, h, e => by
    simp only [OwnK] at h
    obtain ⟨kk, v0, w, f, g, rfl, ⟨rfl, hk⟩, rfl, h0, h1, h2⟩ := h
    by_cases c : kk = k
    · subst c
      rw [valV_pos rfl] at e
      cases e
      refine ⟨x, f, [], g, by simp [dGetK, dkey_of], by simp [dkey_of], rfl, fun a ha => ⟨(fun z => by cases z), h0 a ha⟩, h1, fun H' d' o kp => ?_⟩
      have er : (r.map fun kv => if dkey kv.1 = some kk then (kv.1, d') else kv) = r := by
        conv => rhs; rw [← List.map_id r]
        refine List.map_congr_left fun q hq => ?_
        obtain ⟨k2, e2⟩ := ownK_keys h2 q hq
        rw [if_neg (fun z => hk q hq (by rw [e2] at z ⊢; rw [dkey_of] at z; rw [Option.some.inj z]))]
        rfl
      rw [List.map_cons, er, if_pos (dkey_of kk)]
      simp only [OwnK]
      exact ⟨kk, v0, w, f, g, rfl, ⟨rfl, hk⟩, rfl, h0, o, h2.keep fun a ha => ⟨(h2.at a ha).1, kp a (.inr ha)⟩⟩
    · rw [valV_neg c] at e
      obtain ⟨d, f2, g1, g2, e1, e2, rfl, e3, e4, e5⟩ := OwnK.sub h2 e
      have nk : ¬ dkey (keyD kk) = some k := fun z => c (by rw [dkey_of] at z; exact Option.some.inj z)
      refine ⟨d, f2, f ++ g1, g2, ?_, by rw [List.any_cons, e2, Bool.or_true], by simp, fun a ha => ⟨fun z => ?_, (e3 a ha).2⟩, e4, fun H' d' o kp => ?_⟩
      · unfold dGetK at e1 ⊢
        rw [List.find?_cons, decide_eq_false nk]
        exact e1
      · rcases List.mem_append.mp z with z | z
        · exact h0 a z (List.mem_append_left _ (List.mem_append_right _ ha))
        · exact (e3 a ha).1 z
      · have t := e5 H' d' o fun a ha => kp a (ha.imp (List.mem_append_right _) id)
        rw [List.map_cons, if_neg nk]
        simp only [OwnK]
        refine ⟨kk, v0, w, f, g1 ++ f2 ++ g2, rfl, ⟨rfl, fun q hq => ?_⟩, rfl, h0, h1.keep fun a ha => ⟨(h1.at a ha).1, kp a (.inl (List.mem_append_left _ ha))⟩, t⟩
        obtain ⟨q0, hq0, rfl⟩ := List.mem_map.mp hq
        split <;> exact hk q0 hq0
/-- a key more -/
theorem OwnK.new {k : Key} : ∀ {kvs : List (D × D)} {es : List (Key × V)} {fp : List Addr}, OwnK K F H kvs es fp → valV es k = none → dGetK kvs k = none ∧ (kvs.any fun kv => decide (dkey kv.1 = some k)) = false ∧
    ∀ (d : D) (v : V) (f : List Addr), Own K F H d v f → (∀ a ∈ fp, a ∉ f) → OwnK K F H (kvs ++ [(keyD k, d)]) (es ++ [(k, v)]) (fp ++ f)
  | [], _, _, h, e => by
    simp only [OwnK] at h
    obtain ⟨rfl, rfl⟩ := h
    refine ⟨rfl, rfl, fun d v f o n => ?_⟩
    show OwnK K F H [(keyD k, d)] [(k, v)] ([] ++ f)
    simp only [OwnK]
    exact ⟨k, v, [], f, [], rfl, ⟨rfl, fun q hq => by cases hq⟩, by simp, (fun a _ z => by cases z), o, rfl, rfl⟩
  | (y, x) :: r, _, _, h, e => by
    simp only [OwnK] at h
    obtain ⟨kk, v0, w, f, g, rfl, ⟨rfl, hk⟩, rfl, h0, h1, h2⟩ := h
    by_cases c : kk = k
    · subst c
      rw [valV_pos rfl] at e
      cases e
    · rw [valV_neg c] at e
      obtain ⟨e1, e2, e3⟩ := OwnK.new h2 e
      have nk : ¬ dkey (keyD kk) = some k := fun z => c (by rw [dkey_of] at z; exact Option.some.inj z)
      refine ⟨?_, by rw [List.any_cons, e2, decide_eq_false nk]; rfl, fun d v f2 o n => ?_⟩
      · unfold dGetK at e1 ⊢
        rw [List.find?_cons, decide_eq_false nk]
        exact e1
      · have t := e3 d v f2 o fun a ha => n a (List.mem_append_right _ ha)
        show OwnK K F H ((keyD kk, x) :: (r ++ [(keyD k, d)])) ((kk, v0) :: (w ++ [(k, v)])) _
        simp only [OwnK]
        refine ⟨kk, v0, w ++ [(k, v)], f, g ++ f2, rfl, ⟨rfl, fun q hq => ?_⟩, List.append_assoc _ _ _, fun a ha z => ?_, h1, t⟩
        · rcases List.mem_append.mp hq with hq | hq
          · exact hk q hq
          · rw [List.mem_singleton.mp hq]
            exact fun z => c (keyD_inj z).symm
        · rcases List.mem_append.mp z with z | z
          · exact h0 a ha z
          · exact n a (List.mem_append_left _ ha) z
theorem asD_ok {d : D} {kvs : List (D × D)} (h : asD d = .ok kvs) : d = .dict kvs := by
  cases d <;> cases h
  rfl
theorem asD_exc {d : D} : ∀ c, asD d ≠ .exc c := fun c h => by cases d <;> cases h
theorem sdRow_exc {kvs : List (D × D)} {k : Key} : ∀ c, sdRow kvs k ≠ .exc c := fun c h => by
  unfold sdRow at h
  split at h
  · cases h
  · exact asL_exc c h
end
section
variable {cref : Str → Value} {n : Nat} {G : Gam} {bs cs N : List Str} {X : Cx} {W : Wd} {sc : Scope}
theorem sAppT (wn : Nat) {i j : Nat} {st : Stmt} (ft : SFit X W cref n G bs cs N sc) (h : kAppT N bs sc i j st = true) : PS X st (tS X.K W G wn (.appT i j)) := by
  unfold kAppT at h
  split at h
  case h_2 => cases h
  simp only [Bool.and_eq_true, decide_eq_true_eq] at h
  obtain ⟨⟨⟨rfl, h1⟩, h2⟩, h3⟩ := h
  refine ps_imp (ps_expr (pe_bm PySem.F.plainAttrs_list PySem.F.slot_list_append PySem.F.type_list_append mt_append (vr_ok ft h2)
    (pa_cons (vr_ok ft h3) pa_nil (star_cons rfl)) rfl (by rw [star_cons rfl]; rfl) (beq_iff_eq.mpr h1) (star_cons rfl) rfl) rfl) fun E σ H q => ?_
  obtain ⟨B0, A0, F, env, r0, p⟩ := q
  unfold evS at p
  obtain ⟨t, ht, p⟩ := p.ok odD_exc
  have ht := odD_ok ht
  obtain ⟨ds, hds, p2⟩ := p.ok asL_exc
  clear p
  have hds := asL_ok hds
  subst hds
  obtain ⟨v, fp, hv, o, na⟩ := r0.ra.ods ht
  have o' := o
  simp only [Own] at o
  obtain ⟨b, vs, fq, rfl, rfl, g1, g2, g3, g4⟩ := o
  obtain ⟨d, hd, p⟩ := p2.ok ownT_exc
  obtain ⟨w, fw, hw, ow, _⟩ := ownT_ok r0 hd
  by_cases hl : i ≠ j ∧ ds.length < lim
  case neg =>
    rw [if_neg hl] at p
    exact p.elim
  rw [if_pos hl] at p
  obtain ⟨nij, hl⟩ := hl
  refine ⟨_, hv, .inl ⟨rfl, vs, (LL.of (K := X.K) g3).seq⟩, w, hw, ⟨b, vs, w, rfl, rfl, g3, by rw [g4.len]; exact Nat.lt_trans hl lim_lt, ?_⟩⟩
  have ex := r0.ext.mut (o := .lst (vs ++ [w])) (na b List.mem_cons_self) g2
  refine p _ _ _ ⟨?_, ex⟩
  refine r0.ra.treeJ (Ext.refl r0.ra.sub) ht hv ex.s fun fi fj oi bj dj => ?_
  have ei := own_fp oi o'
  subst ei
  have ej : fj = fw := ownT_fp hd bj hw ow
  subst ej
  have dj := dj nij
  have bw : b ∉ fj := dj b List.mem_cons_self
  refine ⟨b :: (fq ++ fj), ?_, fun a ha => ?_, fun a ha hj hn => ?_⟩
  · simp only [Own]
    refine ⟨b, _, fq ++ fj, rfl, rfl, fun z => ?_, g2, upd_same, ?_⟩
    · rcases List.mem_append.mp z with z | z
      · exact g1 z
      · exact bw z
    · exact OwnL.app (.one (ow.keep fun a ha => ⟨(ow.at a ha).1, upd_ne fun z => bw (by rw [← z]; exact ha)⟩)) (g4.keep fun a ha => ⟨(g4.at a ha).1, upd_ne fun z => g1 (by rw [← z]; exact ha)⟩) fun a ha => dj a (List.mem_cons_of_mem _ ha)
  · rcases List.mem_cons.mp ha with rfl | ha
    · exact .inl (.inl List.mem_cons_self)
    · rcases List.mem_append.mp ha with ha | ha
      · exact .inl (.inl (List.mem_cons_of_mem _ ha))
      · exact .inl (.inr ha)
  · rw [upd_ne fun z => ha (by rw [z]; exact List.mem_cons_self)]
theorem sLopP (wn : Nat) {fz : List Nat} {i j : Nat} {e x : Ex} {c : Int} {st : Stmt} (ft : SFit X W cref n G bs cs N sc) (h : kLopP N bs sc i j e x c st = true) : PS X st (tS X.K W G wn (.lopP fz i j e x c)) := by
  unfold kLopP at h
  split at h
  case h_2 => cases h
  rename_i rr pr it r2 pr2 s ps op v pv f pf m ap r3 pr3 p pe pos
  simp only [Bool.and_eq_true, decide_eq_true_eq] at h
  obtain ⟨⟨⟨⟨⟨⟨⟨⟨⟨⟨⟨⟨hr, rfl⟩, rfl⟩, h1⟩, h2⟩, h3⟩, h4⟩, h5⟩, h6⟩, h7⟩, h8⟩, h9⟩, h10⟩ := h
  obtain ⟨na, nb, nc⟩ := st_of ft.hN ft.hsc (fun x _ => ft.fn x) h4
  have hN : X.N.Nodup := by rw [ft.hN]; exact ft.nd
  have ha : ∀ ov iv new, augStore s ov iv new = (do holding [new, ov, iv] (setItem ov iv new); release [new, ov, iv] []; pure .next) := by
    cases s <;> first | (intros; rfl) | cases h8
  refine ps_imp (ps_for ft.pass (ft.calm hr) (pi_list (sE e ft.toFit h3)) (pg_name hN na nb nc) (pss_cons (ps_augS (vr_ok ft h5) (sE x ft.toFit h9) get_listO (sE (.cst (.int c)) ft.toFit h10) ip_add set_list ha)
    (pss_one (ps_expr (pe_bm PySem.F.plainAttrs_list PySem.F.slot_list_append PySem.F.type_list_append mt_append (vr_ok ft h7) (pa_cons (vr_ok ft h6) pa_nil (star_cons rfl)) rfl (by rw [star_cons rfl]; rfl) (beq_iff_eq.mpr h1) (star_cons rfl) rfl) rfl))) (nofold h2)) fun E σ H q => ?_
  obtain ⟨B0, A0, F, env, r, p⟩ := q
  unfold evS at p
  obtain ⟨Fz, rz⟩ := r.frz (fz := fz)
  clear r
  have r := rz
  clear rz
  generalize frz fz env = env at p r
  refine r.aftE p fun y F1 H1 v1 e1 rv s1 p => ?_
  obtain ⟨t, ht, p⟩ := p.ok treeOf_exc
  obtain ⟨fp, nn, o⟩ := treeOf_own rv e1.s ht
  obtain ⟨ds, hds, p2⟩ := p.ok asL_exc
  clear p
  have hds := asL_ok hds
  subst hds
  obtain ⟨u, hu, p⟩ := p2.ok odD_exc
  clear p2
  have hu := odD_ok hu
  obtain ⟨fs, hfs, p2⟩ := p.ok asL_exc
  have hfs := asL_ok hfs
  subst hfs
  clear p
  generalize hf : (fun d => (ev G x ((env.set i .no).set j .no)).bind fun b => (isInt b.2).bind fun b => bump b c d) = f at p2
  have p : Post X.K B0 A0 W E (if i ≠ j ∧ j < env.length ∧ fs.length + ds.length < lim then Out.of env (nox (eachR f ds)) fun es => .nx ((env.set j .no).set i (.od (.list (fs ++ es)))) else .stuck) := p2
  clear p2
  by_cases hij : i ≠ j ∧ j < env.length ∧ fs.length + ds.length < lim
  case neg =>
    rw [if_neg hij] at p
    exact p.elim
  rw [if_pos hij] at p
  obtain ⟨nij, jl, ll⟩ := hij
  obtain ⟨fin, hfin, p⟩ := p.ok nox_exc
  have hfin := nox_eq hfin
  have il := lt_of_get hu
  simp only [Own] at o
  obtain ⟨a, xs, fq, rfl, rfl, g1, g2, g3, g4⟩ := o
  obtain ⟨v0, f0, hv, o0, _⟩ := s1.ra.ods hu
  simp only [Own] at o0
  obtain ⟨b, vs0, fq0, rfl, rfl, k1, k2, k3, k4⟩ := o0
  refine ⟨a, rfl, ⟨xs, (LL.of g3).seq⟩, ?_⟩
  have n0 : ∀ z ∈ a :: fq, A0 z = none := fun z hz => r.ext.h.free (nn z hz)
  have r1 : RelA X.K (float A0 (a :: fq)) F1 H1 σ (env.set j .no) := (r.ra.float e1 nn).drop j
  have e0 : (env.set j .no).set i (.od (.list fs)) = env.set j .no := set_eq_self (by rw [List.getElem?_set_ne (Ne.symm nij)]; exact hu)
  have lE : ∀ z : D, ((env.set j .no).set i (.od z)).length = env.length := fun z => by rw [List.length_set, List.length_set]
  refine for_list (fun n σ' H' => ∃ F' es rest vs' gq, n ≤ ds.length ∧ es.length = n ∧ eachR f (ds.drop n) = .ok rest ∧ es ++ rest = fin ∧ σ'[i]? = some (some (.ref b)) ∧ H' b = some (.lst vs') ∧ H' a = some (.lst xs) ∧ a ∉ gq ∧ (∀ z ∈ gq, A0 z = none) ∧
      OwnL X.K F' H' (ds.drop n) (xs.drop n) gq ∧ RelA X.K (float A0 (a :: gq)) F' H' σ' ((env.set j .no).set i (.od (.list (fs ++ es)))) ∧ Ext B0 A0 F' H')
    ⟨F1, [], fin, vs0, fq, Nat.zero_le _, rfl, hfin, rfl, hv, k3, g3, g1, fun z hz => n0 z (List.mem_cons_of_mem _ hz), g4, by rw [List.append_nil, e0]; exact r1, s1.ext⟩ (fun n σ' H' _ ⟨F', es, rest, vs', gq, _, _, _, _, _, _, z, _⟩ => (LL.of z).seq)
    (fun m x1 σ1 H2 hx ⟨F2, es, rest, vs', gq, hm, hes, hre, hfi, hv1, hb1, ha1, nag, ngq, og, ra, ex⟩ => ?_) (fun σ1 H2 ⟨F2, es, rest, vs', gq, hm, hes, hre, hfi, hv1, hb1, ha1, nag, ngq, og, ra, ex⟩ => ?_)
  · have hm2 : m < ds.length := by rw [← g4.len]; exact (List.getElem?_eq_some_iff.mp hx).1
    have hm3 : m < xs.length := (List.getElem?_eq_some_iff.mp hx).1
    have hx1 : xs[m] = x1 := (List.getElem?_eq_some_iff.mp hx).2
    rw [List.drop_eq_getElem_cons hm2] at hre og
    rw [List.drop_eq_getElem_cons hm3, hx1] at og
    obtain ⟨d1, re2, hd1, hre2, rfl⟩ := eachR_cons hre
    rw [← hf] at hd1
    obtain ⟨y2, hy, hd1⟩ := bind_ok2 hd1
    obtain ⟨bi, hbi, hd1⟩ := bind_ok2 hd1
    obtain ⟨ws, mm, z0, hw0, hs, hp, rfl⟩ := bump_ok hd1
    rw [hw0] at og
    simp only [OwnL] at og
    obtain ⟨_, _, fr, g, q1, rfl, dj, orow, orest⟩ := og
    cases q1
    simp only [Own] at orow
    obtain ⟨q, us, fr2, rfl, rfl, c1, c2, c3, c4⟩ := orow
    have efr := c4.scal hs
    subst efr
    have hvi : (σ1.set j (some (.ref q)))[i]? = some (some (.ref b)) := by rw [List.getElem?_set_ne (Ne.symm nij)]; exact hv1
    have hvj : (σ1.set j (some (.ref q)))[j]? = some (some (.ref q)) := List.getElem?_set_self (by rw [← ra.len, lE]; exact jl)
    have ra2 : RelA X.K (float A0 (a :: ([q] ++ g))) F2 H2 (σ1.set j (some (.ref q))) ((env.set j .no).set i (.od (.list (fs ++ es)))) := by
      have := ra.any (i := j) (v := some (.ref q))
      rwa [set_eq_self (x := Slot.no) (by rw [List.getElem?_set_ne nij, List.getElem?_set_self jl])] at this
    have rx : Rel X.K F2 H2 (σ1.set j (some (.ref q))) ((env.set i .no).set j .no) := by
      have := (ra2.drop i).rel
      rw [List.set_set, List.set_comm _ _ (Ne.symm nij)] at this
      exact this
    refine ⟨_, hvj, F2, _, rx, ?_⟩
    rw [hy]
    intro F3 H3 e3 v3 rv3
    have iv3 := rv3.is e3.s
    rw [isInt_ok2 hbi] at iv3
    cases is_int iv3
    obtain ⟨hp1, hp2⟩ := placed_ok hp
    have hl : us.length = ws.length := c4.len
    obtain ⟨w, hw, iw⟩ := (c4.is (P := H2) fun _ _ => rfl).get hp2
    cases is_int iw
    refine ⟨q, us, bi, mm, _, rfl, rfl, e3.h _ _ c3, by rw [hl]; exact hp1, hw, F3, _, rx.ext e3, ?_⟩
    rw [show ∀ e : Env, ev G (.cst (.int c)) e = .ok (.sh, .int c) from fun e => rfl]
    intro F4 H4 e4 v4 rv4
    cases is_int (K := X.K) (H := F4) rv4
    have e34 := e3.trans e4
    have c3' := e34.h _ _ c3
    have ha4 := e34.h _ _ ha1
    have hb4 := e34.h _ _ hb1
    refine ⟨z0, c, rfl, rfl, q, us, bi, mm, rfl, rfl, c3', by rw [hl]; exact hp1, ?_⟩
    have ra4 := ra2.ext e34
    obtain ⟨vi, fi, hvi2, oi, nfi⟩ := ra4.ods (i := i) (d := .list (fs ++ es)) (by rw [List.getElem?_set_self (by rw [List.length_set]; exact il)])
    rw [hvi] at hvi2
    cases hvi2
    have oi' := oi
    simp only [Own] at oi
    obtain ⟨_, vs2, fi2, z1, rfl, t1, t2, t3, t4⟩ := oi
    cases z1
    rw [hb4] at t3
    cases t3
    have nq : ∀ z ∈ b :: fi2, z ≠ q := fun z hz zq => (float_no (nfi z hz)).1 (by rw [zq]; simp)
    have nqa : a ≠ q := fun z => nag (by rw [z]; simp)
    have nba : b ≠ a := fun z => (float_no (nfi b List.mem_cons_self)).1 (by rw [z]; simp)
    have nbq : b ≠ q := nq b List.mem_cons_self
    have nqg : q ∉ g := dj q List.mem_cons_self
    have hb5 : (upd H4 q (.lst (us.set mm (.int (z0 + c))))) b = some (.lst vs') := by rw [upd_ne nbq]; exact hb4
    have c2' : F4 q = none := e34.gone c2 (by rw [c3]; intro z; cases z)
    have x1 := (ex.trans e34).mut (o := .lst (us.set mm (.int (z0 + c)))) (ngq q (by simp)) c2'
    have x2 := x1.mut (o := .lst (vs' ++ [.ref q])) (float_no (nfi b List.mem_cons_self)).2 t2
    have hlen : vs'.length < sizeLine := by
      have := t4.len
      rw [this, List.length_append, hes]
      have := lim_lt
      omega
    refine ⟨_, hvi, .inl ⟨rfl, vs', (LL.of (K := X.K) hb5).seq⟩, _, hvj, ⟨b, vs', .ref q, rfl, rfl, hb5, hlen, ?_⟩⟩
    have orow5 : Own X.K F4 (upd (upd H4 q (.lst (us.set mm (.int (z0 + c))))) b (.lst (vs' ++ [.ref q]))) (.list (ws.set mm (.int (z0 + c)))) (.ref q) [q] := by
      simp only [Own]
      refine ⟨q, _, [], rfl, rfl, (fun z => by cases z), c2', by rw [upd_ne nbq.symm, upd_same], ?_⟩
      exact ownL_scal (G := H2) (IsL.set mm (c4.is fun _ _ => rfl) (int_is (K := X.K) (H := H2))) (all_set hs rfl)
    refine ⟨F4, es ++ [.list (ws.set mm (.int (z0 + c)))], re2, vs' ++ [.ref q], g, hm2, by rw [List.length_append, hes]; rfl, hre2, by rw [List.append_assoc]; exact hfi, hvi, upd_same, ?_, fun z => nag (by simp [z]), fun z hz => ngq z (by simp [hz]), ?_, ?_, x2⟩
    · rw [upd_ne nba.symm, upd_ne nqa]
      exact ha4
    · refine (own_ext_L orest e34).keep fun z hz => ⟨e34.gone (orest.at z hz).1 (orest.at z hz).2, ?_⟩
      rw [upd_ne fun zb => (float_no (nfi b List.mem_cons_self)).1 (by rw [← zb]; simp [hz]), upd_ne fun zq => nqg (by rw [← zq]; exact hz)]
    · have := ra4.changeA (A' := float A0 (a :: g)) (fun z hz => by
          obtain ⟨y1, y2⟩ := float_no hz
          exact float_of (fun y => y1 (by
            rcases List.mem_cons.mp y with y | y
            · rw [y]; simp
            · simp [y])) y2) (i := i) (by rw [lE]; exact il) j (x := some (.ref b)) (t := .od (.list (fs ++ (es ++ [.list (ws.set mm (.int (z0 + c)))])))) (F' := F4) (H' := upd (upd H4 q (.lst (us.set mm (.int (z0 + c))))) b (.lst (vs' ++ [.ref q]))) x2.s (Same.refl _) fun fps b1 b2 b3 => by
        obtain ⟨w2, y1, y2⟩ := b1 i _ (by rw [List.getElem?_set_self (by rw [List.length_set]; exact il)])
        rw [hvi] at y1
        cases y1
        have ei := own_fp y2 oi'
        refine ⟨b :: (fi2 ++ [q]), ⟨_, rfl, ?_⟩, fun z hz => ?_, fun k k1 k2 k3 z hz => ?_⟩
        · simp only [Own]
          refine ⟨b, _, fi2 ++ [q], rfl, rfl, fun z => ?_, t2, upd_same, ?_⟩
          · rcases List.mem_append.mp z with z | z
            · exact t1 z
            · exact nbq (List.mem_singleton.mp z)
          · rw [← List.append_assoc]
            refine OwnL.app (.one orow5) (t4.keep fun z hz => ⟨(t4.at z hz).1, ?_⟩) fun z hz y => nq z (List.mem_cons_of_mem _ hz) (List.mem_singleton.mp y)
            rw [upd_ne fun zb => t1 (by rw [← zb]; exact hz), upd_ne (nq z (List.mem_cons_of_mem _ hz))]
        · have nm : z ∈ b :: fi2 ∨ z = q := by
            rcases List.mem_cons.mp hz with y | y
            · exact .inl (by rw [y]; exact List.mem_cons_self)
            · rcases List.mem_append.mp y with y | y
              · exact .inl (List.mem_cons_of_mem _ y)
              · exact .inr (List.mem_singleton.mp y)
          rcases nm with y | y
          · obtain ⟨y1, y2⟩ := float_no (nfi z y)
            exact float_of (fun y => y1 (by
              rcases List.mem_cons.mp y with y | y
              · rw [y]; simp
              · simp [y])) y2
          · rw [y]
            refine float_of (fun y => ?_) (ngq q (by simp))
            rcases List.mem_cons.mp y with y | y
            · exact nqa y.symm
            · exact nqg y
        · have d1 := b2 k i k1 k3 (by rw [lE]; exact il) z hz
          rw [ei] at d1
          have d2 : z ≠ q := fun y => (float_no (b3 k k3 z hz).1).1 (by rw [y]; simp)
          refine ⟨fun y => ?_, (b3 k k3 z hz).2.1, ?_⟩
          · rcases List.mem_cons.mp y with y | y
            · exact d1 (by rw [y]; exact List.mem_cons_self)
            · rcases List.mem_append.mp y with y | y
              · exact d1 (List.mem_cons_of_mem _ y)
              · exact d2 (List.mem_singleton.mp y)
          · rw [upd_ne fun y => d1 (by rw [y]; exact List.mem_cons_self), upd_ne d2]
      rw [set_get_same hvi, List.set_comm _ _ (Ne.symm nij), List.set_set, List.set_comm _ _ nij] at this
      rw [List.set_set] at this
      exact this
  · have hm2 : xs.length = ds.length := g4.len
    rw [hm2, List.drop_length] at hre
    cases hre
    rw [List.append_nil] at hfi
    subst hfi
    exact p _ _ _ ⟨ra.weak fun z hz => (float_no hz).2, ex⟩
theorem sSda (wn : Nat) {i : Nat} {k e : Ex} {st : Stmt} (ft : SFit X W cref n G bs cs N sc) (h : kSda N bs sc i k e st = true) : PS X st (tS X.K W G wn (.sda i k e)) := by
  unfold kSda at h
  split at h
  case h_2 => cases h
  rename_i x px m1 ap1 u pl p1 m ap y p pos
  simp only [Bool.and_eq_true, decide_eq_true_eq] at h
  obtain ⟨⟨⟨⟨⟨⟨rfl, h1⟩, rfl⟩, h2⟩, h3⟩, h4⟩, h5⟩ := h
  have st := star_cons (es := []) (env := X.env) (chk_noStar h5)
  have su := star_cons (es := [.List [] pl]) (env := X.env) (chk_noStar h4)
  have mm : M2 X (.Name x px) "setdefault" ap1 u (.List [] pl) p1 := ⟨rfl, by rw [su]; rfl, beq_iff_eq.mpr h1, by rw [su]; rfl⟩
  refine ps_imp (ps_expr (pe_bm PySem.F.plainAttrs_list PySem.F.slot_list_append PySem.F.type_list_append mt_append (pe_dsetd (vr_ok ft h3) (sE k ft.toFit h4) (pe_lst pa_nil) mm) (pa_cons (sE e ft.toFit h5) pa_nil st) rfl (by rw [st]; rfl) (beq_iff_eq.mpr h2) st rfl) rfl) fun E σ H q => ?_
  obtain ⟨B0, A0, F, env, r, p⟩ := q
  unfold evS at p
  obtain ⟨d, hd, p⟩ := p.ok odD_exc
  have hd := odD_ok hd
  obtain ⟨kvs, hk, p2⟩ := p.ok asD_exc
  clear p
  have hk := asD_ok hk
  subst hk
  obtain ⟨v, fp, hv, o, na⟩ := r.ra.ods hd
  have o' := o
  simp only [Own] at o
  obtain ⟨a, es, fq, rfl, rfl, g1, g2, g3, g4⟩ := o
  refine ⟨_, hv, a, rfl, .inl ⟨es, .inl g3⟩, r.aftE p2 fun z F1 H1 v1 e1 rv1 s1 p => ?_⟩
  cases hkk : dkey z.2 with
  | none => rw [hkk] at p; exact p.elim
  | some kk =>
  rw [hkk] at p
  have p : Post X.K B0 A0 W E (Out.of env (sdRow kvs kk) fun ws => Out.of env (nox (ev G e (env.set i .no))) fun y => Out.of env (scalD y) fun c => if kvs.length < lim ∧ ws.length < lim then .nx (env.set i (.od (.dict (dPutK kvs kk (.list (ws ++ [c])))))) else .stuck) := p
  obtain ⟨ws, hws, p⟩ := p.ok sdRow_exc
  obtain ⟨yv, hy, p⟩ := p.ok nox_exc
  have hy := nox_eq hy
  obtain ⟨c, hc, p⟩ := p.ok scalR_exc
  obtain ⟨sc, rfl⟩ := scalR_ok hc
  by_cases hl : kvs.length < lim ∧ ws.length < lim
  case neg =>
    rw [if_neg hl] at p
    exact p.elim
  rw [if_pos hl] at p
  have il := lt_of_get hd
  refine ⟨(by show 0 ≤ sizeLine; omega), fun q nq => ?_⟩
  have ek := key_is (rv1.is e1.s) hkk
  have o1 := own_ext o' e1
  have o1' := o1
  simp only [Own] at o1
  obtain ⟨_, es1, fq1, y1, y2, k1, k2, k3, k4⟩ := o1
  cases y1
  obtain ⟨_, y2⟩ := List.cons.inj y2
  subst y2
  have e13 : es = es1 := by
    have := e1.h _ _ g3
    rw [k3] at this
    cases this
    rfl
  subst e13
  have aq : a ≠ q := fun y => by rw [y, nq] at k3; cases k3
  have nqf : ∀ b ∈ a :: fq, b ≠ q := fun b hb y => (o1'.at b hb).2 (by rw [y]; exact nq)
  have k3' : (upd H1 q (.lst [])) a = some (.dK es) := by rw [upd_ne aq]; exact k3
  have el : es.length < sizeLine := by rw [ownK_len g4]; exact Nat.lt_trans hl.1 lim_lt
  have eD := Ext.new0 (o := HO.lst []) e1.s nq
  -- what is read of the item: the dict's slot set aside
  have side : ∀ H3 : Hp, Same F1 H3 → (∀ b, b ∉ a :: fq → H1 b ≠ none → H3 b = H1 b) → Rel X.K F1 H3 σ (env.set i .no) := fun H3 sm kp => by
    have hs : i < σ.length := by rw [← r.ra.len]; exact il
    have := s1.ra.change1 il (x := some (.ref a)) (t := .no) (F' := F1) (H' := H3) sm (Same.refl _) fun fps b1 b2 b3 => by
      refine ⟨[], rfl, (fun _ z => by cases z), fun k n1 hk b hb => ⟨(fun z => by cases z), (b3 k hk b hb).2.1, kp b (fun z => ?_) (b3 k hk b hb).2.2⟩⟩
      obtain ⟨w, z1, z2⟩ := b1 i _ hd
      rw [hv] at z1
      cases z1
      exact b2 k i n1 hk il b hb (by rw [own_fp z2 o1']; exact z)
    rw [set_get_same hv] at this
    exact this.rel
  refine ⟨es, kk, k3', ek, el, fun w hw => ?_, fun hn => ?_⟩
  · obtain ⟨dd, f, gA, gB, x1, x2, efq, x3, x4, x5⟩ := k4.sub hw
    unfold sdRow at hws
    rw [x1] at hws
    have hws := asL_ok (show asL dd = .ok ws from hws)
    subst hws
    have x4' := x4
    simp only [Own] at x4
    obtain ⟨t, us, ft2, rfl, rfl, t1, t2, t3, t4⟩ := x4
    have tin : t ∈ a :: fq := by rw [efq]; simp
    have tq := nqf t tin
    have ta : t ≠ a := fun y => k1 (by rw [← y, efq]; simp)
    have t3' : (upd H1 q (.lst [])) t = some (.lst us) := by rw [upd_ne tq]; exact t3
    refine ⟨.inl ⟨rfl, us, (LL.of (K := X.K) t3').seq⟩, ?_⟩
    refine ⟨F1, _, side _ eD.s (fun b _ hb => eD.stay hb), ?_⟩
    rw [hy]
    intro F3 H3 e3 v3 rv3
    have e := e1.trans (eD.trans e3)
    have t3'' := e3.h _ _ t3'
    refine ⟨t, us, v3, rfl, rfl, t3'', by rw [t4.len]; exact Nat.lt_trans hl.2 lim_lt, ?_⟩
    have o3 := own_ext o' e
    have o3' := o3
    simp only [Own] at o3
    obtain ⟨_, es3, fq3, y1, y2, j1, j2, j3, j4⟩ := o3
    cases y1
    obtain ⟨_, y2⟩ := List.cons.inj y2
    subst y2
    rw [e.h _ _ g3] at j3
    cases j3
    obtain ⟨dd3, f3, gA3, gB3, u1, u2, ef, u3, u4, u5⟩ := j4.sub hw
    rw [x1] at u1
    cases u1
    have u4' := u4
    simp only [Own] at u4
    obtain ⟨_, us3, ft3, z1, rfl, w1, w2, w3, w4⟩ := u4
    cases z1
    rw [t3''] at w3
    cases w3
    have ex := (r.ext.trans e).mut (o := .lst (us ++ [v3])) (na t tin) w2
    refine p σ F3 _ ⟨?_, ex⟩
    refine r.ra.treeE e hd hv ex.s fun fi oi => ?_
    rw [own_fp oi o']
    refine ⟨_, ?_, fun b hb => .inl hb, fun b hb hn => ?_⟩
    · unfold dPutK
      rw [if_pos u2]
      simp only [Own]
      refine ⟨a, es, _, rfl, rfl, k1, j2, by rw [upd_ne ta.symm]; exact e.h _ _ g3, ?_⟩
      refine u5 _ _ ?_ fun b hb => upd_ne fun y => ?_
      · simp only [Own]
        exact ⟨t, _, ft3, rfl, rfl, w1, w2, upd_same, own_app w4 w1 (rv3.is e3.s) sc⟩
      · have := u3 t List.mem_cons_self
        rw [← y] at this
        exact hb.elim this.1 this.2
    · rw [upd_ne fun y => hb (by rw [y]; exact tin)]
      exact e.stay hn
  · obtain ⟨x1, x2, x3⟩ := k4.new hn
    unfold sdRow at hws
    rw [x1] at hws
    have hws : R.ok [] = .ok ws := hws
    cases hws
    have ep : putK es kk (.ref q) = es ++ [(kk, .ref q)] := putK_new _ hn
    rw [ep]
    have q3 : (upd (upd H1 q (.lst [])) a (.dK (es ++ [(kk, .ref q)]))) q = some (.lst []) := by rw [upd_ne aq.symm, upd_same]
    refine ⟨.inl ⟨rfl, [], (LL.of (K := X.K) q3).seq⟩, ?_⟩
    have sm3 : Same F1 (upd (upd H1 q (.lst [])) a (.dK (es ++ [(kk, .ref q)]))) := fun b u hb => by
      rw [upd_ne fun y => by rw [y, k2] at hb; cases hb]
      exact eD.s _ _ hb
    refine ⟨F1, _, side _ sm3 (fun b hb hn2 => ?_), ?_⟩
    · rw [upd_ne fun y => hb (by rw [y]; exact List.mem_cons_self)]
      exact eD.stay hn2
    rw [hy]
    intro F3 H4 e3 v3 rv3
    have q4 := e3.h _ _ q3
    refine ⟨q, [], v3, rfl, rfl, q4, (by show 0 < sizeLine; rw [sizeLine_eq]; decide), ?_⟩
    have fq1 : F1 q = none := e1.s.free nq
    have fq3 : F3 q = none := e3.gone fq1 (by rw [q3]; intro y; cases y)
    have ea := (s1.ext.trans eD).mut (o := .dK (es ++ [(kk, .ref q)])) (na a List.mem_cons_self) k2
    have ex := (ea.trans e3).mut (o := .lst ([] ++ [v3])) (s1.ext.h.free nq) fq3
    refine p σ F3 _ ⟨?_, ex⟩
    have stay : ∀ b, H1 b ≠ none → b ≠ a → b ≠ q → (upd H4 q (.lst ([] ++ [v3]))) b = H1 b := fun b h1 h2 h3 => by
      have e5 : (upd (upd H1 q (.lst [])) a (.dK (es ++ [(kk, .ref q)]))) b = H1 b := by rw [upd_ne h2, upd_ne h3]
      rw [upd_ne h3, e3.stay (by rw [e5]; exact h1), e5]
    have ha4 : (upd H4 q (.lst ([] ++ [v3]))) a = some (.dK (es ++ [(kk, .ref q)])) := by
      rw [upd_ne aq]
      exact e3.h _ _ upd_same
    have fa3 : F3 a = none := e3.gone k2 (by rw [upd_same]; intro y; cases y)
    have := r.ra.change1 il (x := some (.ref a)) (t := .od (.dict (dPutK kvs kk (.list ([] ++ [yv.2]))))) (F' := F3) (H' := upd H4 q (.lst ([] ++ [v3]))) ex.s (e1.f.trans e3.f) fun fps b1 b2 b3 => by
      obtain ⟨w, z1, z2⟩ := b1 i _ hd
      rw [hv] at z1
      cases z1
      have ei := own_fp z2 o'
      have gone3 : ∀ b, H1 b ≠ none → F1 b = none → b ≠ a → b ≠ q → F3 b = none := fun b h1 h2 h3 h4 => e3.gone h2 (by rw [upd_ne h3, upd_ne h4]; exact h1)
      refine ⟨a :: (fq ++ [q]), ⟨_, rfl, ?_⟩, fun b hb => ?_, fun k n1 hk b hb => ?_⟩
      · unfold dPutK
        rw [x2]
        simp only [Bool.false_eq_true, if_false, Own]
        refine ⟨a, _, _, rfl, rfl, fun y => ?_, fa3, ha4, ?_⟩
        · rcases List.mem_append.mp y with y | y
          · exact k1 y
          · exact aq (List.mem_singleton.mp y)
        · rw [dKey_eq]
          have k5 : OwnK X.K F3 (upd H4 q (.lst ([] ++ [v3]))) kvs es fq := k4.keep fun b hb => by
            have n1 := (k4.at b hb)
            have n2 : b ≠ a := fun y => k1 (by rw [← y]; exact hb)
            have n3 := nqf b (List.mem_cons_of_mem _ hb)
            exact ⟨gone3 b n1.2 n1.1 n2 n3, stay b n1.2 n2 n3⟩
          refine (k5.new hn).2.2 _ _ [q] ?_ fun b hb y => nqf b (List.mem_cons_of_mem _ hb) (List.mem_singleton.mp y)
          simp only [Own]
          refine ⟨q, _, [], rfl, rfl, (fun y => by cases y), fq3, upd_same, ?_⟩
          exact ownL_scal (G := H4) (.one (rv3.is e3.s)) (by simp [sc])
      · rcases List.mem_cons.mp hb with y | y
        · rw [y]; exact na a List.mem_cons_self
        · rcases List.mem_append.mp y with y | y
          · exact na b (List.mem_cons_of_mem _ y)
          · rw [List.mem_singleton.mp y]
            exact s1.ext.h.free nq
      · have d1 := b2 k i n1 hk il b hb
        rw [ei] at d1
        have nb := b3 k hk b hb
        have h1b := e1.stay nb.2.2
        have n2 : b ≠ a := fun y => d1 (by rw [y]; exact List.mem_cons_self)
        have n3 : b ≠ q := fun y => nb.2.2 (by rw [y]; exact e1.h.free nq)
        refine ⟨fun y => ?_, gone3 b (by rw [h1b]; exact nb.2.2) (e1.gone nb.2.1 nb.2.2) n2 n3, (stay b (by rw [h1b]; exact nb.2.2) n2 n3).trans h1b⟩
        rcases List.mem_cons.mp y with y | y
        · exact n2 y
        · rcases List.mem_append.mp y with y | y
          · exact d1 (List.mem_cons_of_mem _ y)
          · exact n3 (List.mem_singleton.mp y)
    rwa [set_get_same hv] at this
end
end PV

/-! PvAl: a list within an own tree, changed through two further names: one = x[k]; c = one[1]; p = q; c[p] = e. -/
namespace PV
open PySem PySem.Spec PyProof.Rows L2
theorem alOf_eq {s : Sx} {i j c pl : Nat} {k q e : Ex} (h : alOf s = some (i, j, c, pl, k, q, e)) : s = .alS i j c pl k q e := by
  cases s <;> first | (cases h; done) | (simp only [alOf, Option.some.injEq, Prod.mk.injEq] at h; obtain ⟨rfl, rfl, rfl, rfl, rfl, rfl, rfl⟩ := h; rfl)
section
variable {cref : Str → Value} {n : Nat} {G : Gam} {bs cs N : List Str} {X : Cx} {W : Wd} {sc : Scope}
theorem sAlS (wn : Nat) {i j c pl : Nat} {k q e : Ex} {x1 x2 x3 x4 : Stmt} {xs : List Stmt} {l : List Sx} (ft : SFit X W cref n G bs cs N sc) (h : kAlS N bs sc i j c pl k q e x1 x2 x3 x4 = true) (hr : PSs X xs (tSs X.K W G wn l)) :
    PSs X (x1 :: x2 :: x3 :: x4 :: xs) (tSs X.K W G wn (.alS i j c pl k q e :: l)) := by
  unfold kAlS at h
  split at h
  case h_2 => cases h
  rename_i o1 po1 m1 pm1 s1 ps1 pp1 c1 pc1 o2 po2 s2 ps2 pp2 p1 pp1' v3 pp3 c2 pc2 p2 pp2' ps4 v4 pp4
  simp only [Bool.and_eq_true] at h
  obtain ⟨⟨⟨⟨⟨⟨⟨⟨⟨⟨⟨⟨⟨h1, h2⟩, h3⟩, h4⟩, h5⟩, h6⟩, h7⟩, h8⟩, h9⟩, h10⟩, h11⟩, h12⟩, h13⟩, h14⟩ := h
  have hN : X.N.Nodup := by rw [ft.hN]; exact ft.nd
  obtain ⟨a1, b1, d1⟩ := st_of ft.hN ft.hsc (fun x _ => ft.fn x) h1
  obtain ⟨a2, b2, d2⟩ := st_of ft.hN ft.hsc (fun x _ => ft.fn x) h5
  obtain ⟨a3, b3, d3⟩ := st_of ft.hN ft.hsc (fun x _ => ft.fn x) h9
  have P1 := ps_set (pos := pp1) (pos' := po1) hN a1 b1 (pe_ix (pos := ps1) ix_seq (vr_ok (px := pm1) ft h2) (sE k ft.toFit h4) (plainIx_of h3)) rfl d1
  have P2 := ps_set (pos := pp2) (pos' := pc1) hN a2 b2 (pe_ix (pos := ps2) ix_seq (vr_ok (px := po2) ft h6) (sE (.cst (.int 1)) ft.toFit h8) (plainIx_of h7)) rfl d2
  have P3 := ps_set (pos := pp3) (pos' := pp1') hN a3 b3 (sE q ft.toFit h11) (swaps_name h11 fun a b c d z => by subst z; cases h10) d3
  have pg : PG X (.Subscript (.Name c2 pc2) (.Name p2 pp2') ps4) (gSub (tVar c) (tVar pl) rSetL) := pg_sub (vr_ok ft h12) (vr_ok ft h13) set_list (fun _ => rfl)
  have P4 := ps_asg (pos := pp4) (sE e ft.toFit h14) pg (swaps_two (a := .Name c2 pc2) (b := .Name p2 pp2') (p := ps4) (n := pp4.line) (env := X.env)) stores_sub
  refine pss_imp (pss_cons P1 (pss_cons P2 (pss_cons P3 (pss_cons P4 hr)))) fun E σ H z => ?_
  obtain ⟨B0, A0, F, env, r, p⟩ := z
  unfold evSs evS at p
  cases ha : alV G i j c pl k q e env with
  | exc y => rw [ha] at p; exact p.elim
  | stuck => rw [ha] at p; exact p.elim
  | ok env2 =>
  rw [ha] at p
  have p : Post X.K B0 A0 W E (evSs G wn l env2) := p
  unfold alV at ha
  obtain ⟨t, ht, hb0⟩ := bind_ok2 ha
  clear ha
  have ht := odD_ok ht
  obtain ⟨ds, hds, hc0⟩ := bind_ok2 hb0
  clear hb0
  have hds := asL_ok hds
  subst hds
  obtain ⟨y1, hy1, ha⟩ := bind_ok2 hc0
  obtain ⟨ai, hai, ha⟩ := bind_ok2 ha
  obtain ⟨⟨m, it⟩, hpl, ha⟩ := bind_ok2 ha
  obtain ⟨⟨jj, ws⟩, hrow, ha⟩ := bind_ok2 ha
  obtain ⟨y3, hy3, ha⟩ := bind_ok2 ha
  obtain ⟨bi, hbi, ha⟩ := bind_ok2 ha
  obtain ⟨y4, hy4, ha⟩ := bind_ok2 ha
  obtain ⟨z4, hz4, ha⟩ := bind_ok2 ha
  obtain ⟨sc4, rfl⟩ := scalR_ok hz4
  obtain ⟨it2, hit2, ha⟩ := bind_ok2 ha
  obtain ⟨mm, y0, hs, hm0, rfl⟩ := rowS_ok hit2
  obtain ⟨es1, hi1, hp1⟩ := rowL_ok hrow
  split at ha
  case isFalse => cases ha
  rename_i hd
  obtain ⟨⟨nij, nic, nip, njc, njp, ncp⟩, jl, cl, pll⟩ := hd
  cases ha
  have hget : ds[m]? = some it := (placed_ok hpl).2
  have il := lt_of_get ht
  obtain ⟨v, fp, hv, o, na⟩ := r.ra.ods ht
  obtain ⟨pa0, vs0, w, ff, rfl, g2, g3, g4, g5, g6, g7, g8, rb⟩ := o.part (j := m) rfl hget
  obtain ⟨pa, vs, qa, us, fr, rfl, u2, u3, u4, u5, u6, u7, u8, u9⟩ := g5.row hi1 hp1
  have efr := u5.scal hs
  subst efr
  have len : σ.length = env.length := r.rel.len.symm
  -- one = x[k]
  refine ⟨_, hv, F, env, r.rel, ?_⟩
  rw [hy1]
  refine fun F1 H1 e1 v1 rv1 => ?_
  have iv1 := rv1.is e1.s
  rw [isInt_ok2 hai] at iv1
  cases is_int iv1
  refine atI_ok (stay2 e1 g2) (atI_of g4 hpl g3) ?_
  -- c = one[1]
  have s1 := (r.next e1).any (i := j) (v := some (.ref pa))
  have hj1 : (σ.set j (some (.ref pa)))[j]? = some (some (.ref pa)) := List.getElem?_set_self (by rw [len]; exact jl)
  refine ⟨_, hj1, F1, _, s1.rel, ?_⟩
  have ek : ∀ e : Env, ev G (.cst (.int 1)) e = .ok (.sh, .int 1) := fun e => by unfold ev; rfl
  rw [ek]
  refine fun F2 H2 e2 v2 rv2 => ?_
  cases is_int (K := X.K) (H := F2) rv2
  have e12 := e1.trans e2
  refine atI_ok (stay2 e12 u2) u3 ?_
  have s2 := (s1.next e2).any (i := c) (v := some (.ref qa))
  -- p = q
  refine ⟨F2, _, s2.rel, ?_⟩
  rw [hy3]
  refine fun F3 H3 e3 v3' rv3 => ?_
  have iv3 := rv3.is e3.s
  rw [isInt_ok2 hbi] at iv3
  cases is_int iv3
  have s3 := (s2.next e3).set (i := pl) (v := .int bi) (d := .int bi) (by simp only [Is])
  have e123 := e12.trans e3
  -- the state with c alone
  have lenS : (((σ.set j (some (.ref pa))).set c (some (.ref qa))).set pl (some (.int bi))).length = env.length := by simp [len]
  have lenE : (((env.set j .no).set c .no).set pl (.sh (.int bi))).length = env.length := by simp
  have hi3 : (((env.set j .no).set c .no).set pl (.sh (.int bi)))[i]? = some (.od (.list ds)) := by
    rw [List.getElem?_set_ne (Ne.symm nip), List.getElem?_set_ne (Ne.symm nic), List.getElem?_set_ne (Ne.symm nij)]
    exact ht
  have hvi3 : (((σ.set j (some (.ref pa))).set c (some (.ref qa))).set pl (some (.int bi)))[i]? = some (some (.ref pa0)) := by
    rw [List.getElem?_set_ne (Ne.symm nip), List.getElem?_set_ne (Ne.symm nic), List.getElem?_set_ne (Ne.symm nij)]
    exact hv
  have hvc3 : (((σ.set j (some (.ref pa))).set c (some (.ref qa))).set pl (some (.int bi)))[c]? = some (some (.ref qa)) := by
    rw [List.getElem?_set_ne (Ne.symm ncp)]
    exact List.getElem?_set_self (by simp [len]; exact cl)
  have hvp3 : (((σ.set j (some (.ref pa))).set c (some (.ref qa))).set pl (some (.int bi)))[pl]? = some (some (.int bi)) := List.getElem?_set_self (by simp [len]; exact pll)
  have o3 := own_ext o e123
  have g53 := own_ext g5 e123
  have rr : RelA X.K A0 F3 H3 (((σ.set j (some (.ref pa))).set c (some (.ref qa))).set pl (some (.int bi))) (((((env.set j .no).set c .no).set pl (.sh (.int bi))).set i .no).set c (.od (.list ws))) := by
    have := s3.ra.change (i := c) (by rw [lenE]; exact cl) i (x := some (.ref qa)) (t := .od (.list ws)) (F' := F3) (H' := H3) s3.rel.sub (Same.refl _) fun fps b1 b2 b3 => by
      obtain ⟨w2, z1, z2⟩ := b1 i _ hi3
      rw [hvi3] at z1
      cases z1
      have ee := own_fp z2 o3
      have qi : qa ∈ fps i := by rw [ee]; exact g6 _ u7
      refine ⟨[qa], ⟨_, rfl, ?_⟩, fun a ha => ?_, fun k2 k3 k4 k5 a ha => ⟨fun z => ?_, (b3 k2 k5 a ha).2.1, rfl⟩⟩
      · simp only [Own]
        exact ⟨qa, us, [], rfl, rfl, (fun z => by cases z), e123.gone u8 (by rw [u4]; intro z; cases z), e123.h _ _ u4, own_ext_L u5 e123⟩
      · rw [List.mem_singleton.mp ha]
        exact na _ (g6 _ u7)
      · rw [List.mem_singleton.mp z] at ha
        exact b2 k2 i k4 k5 (by rw [lenE]; exact il) qa ha qi
    have eqs : ((((σ.set j (some (.ref pa))).set c (some (.ref qa))).set pl (some (.int bi))).set c (some (.ref qa))) = (((σ.set j (some (.ref pa))).set c (some (.ref qa))).set pl (some (.int bi))) := set_eq_self hvc3
    rwa [eqs] at this
  refine ⟨F3, _, rr.rel, ?_⟩
  rw [hy4]
  refine fun F4 H4 e4 v4' rv4 => ?_
  refine ⟨_, hvc3, _, hvp3, ?_⟩
  have e5 := e123.trans e4
  have y3' := e5.h _ _ u4
  refine ⟨qa, us, bi, mm, rfl, rfl, y3', by rw [u5.len]; exact (placed_ok hm0).1, ?_⟩
  have s4 := s3.next e4
  have ic : Is X.K H4 y4.2 v4' := rv4.is e4.s
  have oc := own_set (q := qa) (us' := us.set mm v4') (own_ext_L u5 e5) hs ic sc4 (m := mm)
  obtain ⟨p2, vs2, w2, f2, z1, z2, z3, z4, z5, z6, z7, z8, rb2⟩ := (own_ext o e5).part (j := m) rfl hget
  cases z1
  have : vs2 = vs0 := by
    rcases g2 with g2 | g2 <;> have g2' := e5.h _ _ g2 <;> rcases z2 with z2 | z2 <;> rw [g2'] at z2 <;> cases z2 <;> rfl
  subst this
  rw [g3] at z3
  cases z3
  obtain ⟨_, fr2, t1, t2, t3, t4, t5⟩ := z5.row_at hi1 hp1 rfl (stay2 e5 u2) u3 y3'
  have er := ownL_fp t1 (own_ext_L u5 e5)
  subst er
  have s5 := s4.deep (u := .lst (us.set mm v4')) hi3 hvi3 (own_ext o e5) na rb2 z6 t3 t4 (t5 _ _ oc)
  exact ⟨B0, A0, F4, _, s5, p⟩
theorem sApc (wn : Nat) {e c : Ex} {st : Stmt} (ft : SFit X W cref n G bs cs N sc) (h : kApc N bs sc e c st = true) : PS X st (tS X.K W G wn (.apc e c)) := by
  unfold kApc at h
  split at h
  case h_2 => cases h
  simp only [Bool.and_eq_true, decide_eq_true_eq] at h
  obtain ⟨⟨⟨rfl, h1⟩, h3⟩, h5⟩ := h
  have st := star_cons (es := []) (env := X.env) (chk_noStar h5)
  refine ps_imp (ps_expr (pe_bm PySem.F.plainAttrs_list PySem.F.slot_list_append PySem.F.type_list_append mt_append (sE e ft.toFit h3) (pa_cons (sE c ft.toFit h5) pa_nil st) rfl (by rw [st]; rfl) (beq_iff_eq.mpr h1) st rfl) rfl) fun E σ H q => ?_
  obtain ⟨B0, A0, F, env, r, p⟩ := q
  unfold evS at p
  refine r.aftE p fun x F1 H1 v1 e1 rv1 s1 p => ?_
  obtain ⟨t, d⟩ := x
  cases t <;> first | exact p.elim | skip
  cases d <;> first | exact p.elim | skip
  rename_i ds
  obtain ⟨pa, rfl, na, f1, vs, g1, g2⟩ := rv1
  refine ⟨.inl ⟨rfl, vs, (LL.of (K := X.K) g1).seq⟩, ?_⟩
  have p : Post X.K B0 A0 W E (Out.of env (nox (ev G c env)) fun y => Out.of env (scalD y) fun _ => if ds.length < lim then .nx env else .stuck) := p
  obtain ⟨y, hy, p⟩ := p.ok nox_exc
  have hy := nox_eq hy
  obtain ⟨z, hz, p⟩ := p.ok scalR_exc
  by_cases hl : ds.length < lim
  case neg =>
    rw [if_neg hl] at p
    exact p.elim
  rw [if_pos hl] at p
  refine ⟨F1, env, s1.rel, ?_⟩
  rw [hy]
  refine fun F2 H2 e2 v2 rv2 => ?_
  have g1' := e2.h _ _ g1
  have f2 := e2.gone f1 (by rw [g1]; intro z; cases z)
  refine ⟨pa, vs, v2, rfl, rfl, g1', by rw [g2.len]; exact Nat.lt_trans hl lim_lt, ?_⟩
  exact p _ _ _ (r.next ((e1.trans e2).mut na f2))
theorem sRts (wn : Nat) {f : Str} {i : Nat} {st : Stmt} (ft : SFit X W cref n G bs cs N sc) (h : kRts N bs sc f i st = true) : PS X st (tS X.K W G wn (.rts f i)) := by
  unfold kRts at h
  split at h
  case h_2 => cases h
  rename_i x px y py k z pz pk pc pos
  simp only [Bool.and_eq_true, decide_eq_true_eq] at h
  obtain ⟨⟨⟨⟨⟨⟨⟨rfl, h1⟩, rfl⟩, rfl⟩, h0⟩, h2⟩, h3⟩, h4⟩ := h
  have h0 : bang z = false := by simpa using h0
  obtain ⟨g1, g2⟩ := ft.toFit.glN h1
  cases hG : G z with
  | none =>
    refine ⟨fun pins s σ H Q I q => ?_⟩
    obtain ⟨B0, A0, F, env, r, p⟩ := q
    unfold evS at p
    rw [hG] at p
    exact p.elim
  | some g =>
    obtain ⟨fa, fd, ps, hm, hk, hb, hF, ar⟩ := ft.toFit.gc.fns z g h0 hG
    have nst : noStar (.Name y py) = true := rfl
    have st := star_cons (es := []) (env := X.env) nst
    refine ps_imp (ps_ret (pe_callBK (cr_srt hG hF hb ar (ft.toFit.rm (.inl ⟨z, g, hG⟩)).2 ft.toFit.gd) g1 g2 boot_sorted (pa_cons (vr_ok (px := py) ft h4) pa_nil st) (pk_cons (pe_glob (v := .ref fa) (ft.toFit.gl h2) hm rfl (nm_of h3).1) pk_nil) (by decide) (by decide) (by rw [st]; rfl) (star_any (es := [.Name y py]) (by simp only [List.all_cons, List.all_nil, Bool.and_true]; exact nst)) rfl rfl rfl)) fun E σ H q => ?_
    obtain ⟨B0, A0, F, env, r, p⟩ := q
    unfold evS at p
    rw [hG] at p
    have p : Post X.K B0 A0 W E (Out.of env (odD env i) fun t => Out.of env (asL t) fun ds => match keysOf g ds with
      | some ks => if sortOk ks = true then .ret .tr (.list (sortV ds ks)) else .stuck
      | none => .stuck) := p
    obtain ⟨t, ht, p⟩ := p.ok odD_exc
    have ht := odD_ok ht
    obtain ⟨ds, hds, p2⟩ := p.ok asL_exc
    clear p
    have hds := asL_ok hds
    subst hds
    cases hkk : keysOf g ds with
    | none => simp only [hkk] at p2; exact p2.elim
    | some ks =>
      simp only [hkk] at p2
      by_cases hs : sortOk ks = true
      case neg =>
        rw [if_neg hs] at p2
        exact p2.elim
      rw [if_pos hs] at p2
      obtain ⟨v, fp, hv, o, na⟩ := r.ra.ods ht
      simp only [Own] at o
      obtain ⟨a, ws, fq, rfl, rfl, k1, k2, k3, k4⟩ := o
      obtain ⟨lk, _⟩ := keysOf_spec hkk
      refine ⟨_, hv, ?_⟩
      refine ⟨rfl, a, ws, ds, ks, g, rfl, k3, k4.is fun _ _ => rfl, hG, hkk, hs, fun H' q sm np np' => ?_⟩
      obtain ⟨fr, f1, f2⟩ := ownL_sort (X := X) (ks := ks) k4 k4.len lk
      have ex : Ext F H F (upd H' q (.lst (sortV ws ks))) := ⟨Same.refl _, sm.trans (same_upd np'), r.rel.sub.trans (sm.trans (same_upd np')), fun b z => .inl z⟩
      refine p2 (.ref q) F _ (r.ext.trans ex) ⟨q :: fr, fun b hb => ?_, ?_⟩
      · rcases List.mem_cons.mp hb with rfl | hb
        · exact r.ext.h.free np
        · exact na b (List.mem_cons_of_mem _ ((f2 b).mp hb))
      · simp only [Own]
        refine ⟨q, _, fr, rfl, rfl, fun z => ?_, r.rel.sub.free np, upd_same, own_ext_L f1 ex⟩
        exact (k4.at q ((f2 q).mp z)).2 np
end
end PV

/-! PvTree3: return [(a, y) for y in sorted(x)], x an own tree. -/
namespace PV
open PySem PySem.Spec PyProof.Rows L2
section
variable {X : Cx}
def rSor (K : PySem.W.Frag) : List V → Hp → VK → Prop := fun vs H Q => ∃ l ws xs, vs = [.ref l] ∧ H l = some (.lst ws) ∧ IsL K H xs ws ∧ sortOk xs = true ∧ ∀ q, H q = none → Q (.ref q) (upd H q (.lst (sortV ws xs)))
theorem cr_sor {k : Nat} (hr : Room k X.A) : CallR X (.builtin "sorted") (rSor X.K) := by
  intro pins s σ H vs us Q I rv h
  obtain ⟨l, ws, xs, rfl, hH, h2, g1, q⟩ := h
  obtain ⟨its, rw', pl, hz⟩ := I.list (LL.of (K := X.K) hH).seq
  rw [Vals.ref1 rv]
  obtain ⟨o1, o2, o3⟩ := sortOk_of g1
  have hlen := h2.len
  have hu := hr.un
  have sn := zip_snd (xs := ws) (ys := xs) hlen
  have hlz : (ws.zip xs).length ≤ sizeLine := by
    rw [List.length_zip]
    omega
  have lay : ∀ p ∈ ws.zip xs, ∀ u, RelV p.1 u → ∃ as, Reads s.heap u p.2 as := fun p hp u ru => by
    have hi := isL_zip h2 p hp
    have cl : p.2.canLay0 = true := by
      have hm : p.2 ∈ xs := by
        rw [← sn]
        exact List.mem_map_of_mem hp
      exact (o3 _ hm).2
    exact Dp.reads I p.2 p.1 u (hi.dp cl) ru
  refine PySem.W.sorted_data (bs := ws.zip xs) (enc := fun p : V × D => p.2) (R := fun u p => RelV p.1 u) pl.isList (each_of rw' hlen fun v u d ru _ => ru) (each_of rw' hlen fun v u d ru hm => lay _ hm u ru)
    (by rw [sn]; exact o1) (by rw [sn]; exact o2) hlz (fun b hb => ?_) fun out e1 e2 => ?_
  · have hm : b.2 ∈ xs := by
      rw [← sn]
      exact List.mem_map_of_mem hb
    have := (o3 _ hm).1
    omega
  · obtain ⟨ep, he'⟩ := PyProof.Rows.sortedAll_at s.heap its out.toArray
    have hlen2 : (sortV ws xs).length ≤ sizeLine := by
      unfold sortV
      rw [List.length_map, List.length_mergeSort]
      exact hlz
    exact ⟨.ref _, _, I.laid (a := s.heap.objs.size + 1) (o := .lst (sortV ws xs)) (t' := s.toks) (fun _ _ => PyProof.Rows.sortedAll_old) (Nat.le_succ _) ⟨hlen2, out, ep, vals_each e2, he'⟩, rfl, q _ (I.hok.fresh (Nat.le_succ _))⟩
end
section
variable {X : Cx} {W : Wd} {cref : Str → Value} {n : Nat} {G : Gam} {bs cs N : List Str} {sc : Scope}
theorem Fit.var3 {W : Str → L2.St → Hp → Prop} (f : Fit X W cref n G bs cs N sc) {i : Nat} {x : Str} (h : vr N sc i x = true) {pos : Pos} : PE X (.Name x pos) (tVar i) := by
  unfold vr at h
  simp only [Bool.and_eq_true, decide_eq_true_eq] at h
  exact f.nm h.1.1 h.1.2 h.2
theorem sRtc (wn : Nat) {x : Str} {j i : Nat} {a : Ex} {st : Stmt} (ft : SFit X W cref n G bs cs N sc) (h : kRtc N bs sc x j i a st = true) : PS X st (tS X.K W G wn (.rtc x j i a)) := by
  unfold kRtc at h
  split at h
  case h_2 => cases h
  rename_i e1 y py tx tp t z zp u up cp m scope lp rp
  simp only [Bool.and_eq_true, decide_eq_true_eq] at h
  obtain ⟨⟨⟨⟨⟨⟨⟨⟨rfl, hr⟩, h1⟩, h2⟩, rfl⟩, h3⟩, h4⟩, h5⟩, h6⟩ := h
  obtain ⟨g1, g2⟩ := ft.toFit.glN h3
  have hN := ft.hN
  have hsc := ft.hsc
  have f := ft.toFit
  have nst : noStar (.Name u up) = true := rfl
  have st := star_cons (es := []) (env := X.env) nst
  have hsb : ("sorted" : Str) ∈ bs := by
    simp only [PV.glN, Bool.and_eq_true, decide_eq_true_eq] at h3
    exact h3.2
  have ha := pe_callB (X := X) (p := zp) (pos := cp) (cr_sor (ft.toFit.rm (.inr hsb)).1) g1 g2 boot_sorted (pa_cons (vr_ok (px := up) ft h4) pa_nil st) (by decide) (by decide) st rfl
  have hT : chkTs N bs .nil (relS scope sc) [] = true := by simp [chkTs]
  refine ps_imp (ps_ret (pe_lc (own := [(x, j)]) (tt := tTA X.K W0 G .nil) (g := gTg X.K (.nm j)) (te := tTup (tCons (tE X.K W0 G a) (tCons (tVar j) tNil))) (ft.calm hr) (by rw [hN]; exact ft.nd) (pi_list ha) (by rw [hN, hsc]; exact blkOk_by h1)
    (fun s H C cl fp => pg_of (cok := fun x => scope.names.lookup x == some .cell) (f.blk s H scope cl C fp).hN f.nd (f.blk s H scope cl C fp).hsc (fun x hx => hx) (f.calm hr) h2)
    (fun s H C cl fp => sIf (bs := bs) .nil (f.blk s H scope cl C fp) hT (Nat.zero_le _))
    (fun s H C cl fp => pe_tup (pa_cons (sE a (f.blk s H scope cl C fp) h5) (pa_cons ((f.blk s H scope cl C fp).var3 h6) pa_nil (star_cons (by rfl))) (star_cons (chk_noStar h5)))) (nofold (by rfl)))) fun E σ H q => ?_
  obtain ⟨B0, A0, F, env, r, p⟩ := q
  unfold evS at p
  obtain ⟨tt, ht, p⟩ := p.ok odD_exc
  have ht := odD_ok ht
  obtain ⟨ds, hds, p2⟩ := p.ok asL_exc
  clear p
  have hds := asL_ok hds
  subst hds
  obtain ⟨y0, hy, p3⟩ := p2.ok nox_exc
  have hy := nox_eq hy
  obtain ⟨c, hc, p4⟩ := p3.ok scalR_exc
  clear p2 p3
  by_cases hs : sortOk ds = true ∧ i ≠ j ∧ j < env.length ∧ ds.length ≤ lim
  case neg =>
    rw [if_neg hs] at p4
    exact p4.elim
  rw [if_pos hs] at p4
  obtain ⟨hs, nij, hj, hz⟩ := hs
  obtain ⟨hsc, hcy⟩ := scalR_ok hc
  obtain ⟨v, fp, hv, o, na⟩ := r.ra.ods ht
  simp only [Own] at o
  obtain ⟨pa, ws, fq, rfl, rfl, k1, k2, k3, k4⟩ := o
  obtain ⟨fr, f1, f2⟩ := ownL_sort (X := X) (ks := ds) k4 k4.len rfl
  have lS := f1.len
  have lz : (sortV ds ds).length ≤ lim := by
    have : (sortV ds ds).length = ds.length := by
      unfold sortV
      rw [List.length_map, List.length_mergeSort, List.length_zip, Nat.min_self]
    omega
  refine ⟨_, hv, ?_⟩
  refine ⟨pa, ws, ds, rfl, k3, k4.is fun _ _ => rfl, hs, fun q nq => ?_⟩
  have nfr : ∀ b ∈ fr, A0 b = none := fun b hb => na b (List.mem_cons_of_mem _ ((f2 b).mp hb))
  clear k4 f2
  generalize sortV ws ds = S at f1 lS
  generalize sortV ds ds = sds at f1 lS lz p4
  refine ⟨q, rfl, ⟨S, (LL.of (K := X.K) upd_same).seq⟩, fun Dl hD => ?_⟩
  have e01 : Ext F H F (upd H q (.lst S)) := Ext.new0 r.rel.sub nq
  have hD0 : H Dl = none := e01.h.free hD
  have e02 : Ext F H F (upd (upd H q (.lst S)) Dl (.lst [])) := e01.trans (Ext.new0 e01.s hD)
  have nqD : q ≠ Dl := fun z => by rw [← z, upd_same] at hD; cases hD
  refine ⟨fun k m H2 => m = S.length - k ∧ k ≤ S.length ∧ ∃ F2 acc fq1 fr1, Ext F H F2 H2 ∧ F2 Dl = none ∧ H2 Dl = some (.lst acc) ∧ H2 q = some (.lst S) ∧ OwnL X.K F2 H2 ((sds.take k).map fun d => .tuple [c, d]) acc fq1 ∧ OwnL X.K F2 H2 (sds.drop k) (S.drop k) fr1 ∧ (∀ b ∈ fq1, b ∉ fr1) ∧ Dl ∉ fq1 ∧ Dl ∉ fr1 ∧ (∀ b ∈ fq1, A0 b = none) ∧ ∀ b ∈ fr1, A0 b = none,
    ⟨S.length, rfl, Nat.zero_le _, F, [], [], fr, e02, r.rel.sub.free hD0, upd_same, by rw [upd_ne nqD]; exact upd_same, by rw [List.take_zero, List.map_nil]; simp only [OwnL]; exact ⟨trivial, trivial⟩, by rw [List.drop_zero, List.drop_zero]; exact own_ext_L f1 e02, (fun b z => by cases z), (fun z => by cases z), (fun z => (f1.at Dl z).2 hD0), (fun b z => by cases z), nfr⟩, ?_⟩
  rintro k m H2 ⟨rfl, hk, F2, acc, fq1, fr1, e, d1, d2, d3, o1, o2, dj, n1, n2, a1, a2⟩
  by_cases hlt : k < S.length
  · refine .inr ⟨⟨S, S[k], (LL.of (K := X.K) d3).seq, List.getElem?_eq_getElem hlt⟩, _, fun H' z => ⟨S.length - (k + 1), by omega, z⟩, fun w H3 yy => ?_⟩
    obtain ⟨rfl, hx⟩ := yy
    have hx := hx S (LL.of (K := X.K) d3).seq
    have hkd : k < sds.length := by omega
    rw [List.drop_eq_getElem_cons hlt, List.drop_eq_getElem_cons hkd] at o2
    rw [List.getElem?_eq_getElem hlt] at hx
    have hx := Option.some.inj hx
    rw [hx] at o2
    simp only [OwnL] at o2
    obtain ⟨w0, wr, fd, fr2, ew, rfl, dj2, od, or⟩ := o2
    obtain ⟨rfl, rfl⟩ := List.cons.inj ew
    have rel := ((r.ra.any (i := j) (v := some w)).rel).ext e
    show wipe ((wipe σ [j]).set j (some w)) [j] = wipe σ [j] ∧ _
    refine ⟨by simp [wipe, List.set_set], F2, env.set j .no, by simpa [wipe, List.set_set] using rel, ?_⟩
    show Aft _ _ _ (evTA G .nil (env.set j .no)) _
    unfold evTA
    intro F4 H4 e4
    refine (if_pos rfl).mpr ?_
    refine ⟨F4, env.set j .no, by simpa [wipe, List.set_set] using rel.ext e4, ?_⟩
    rw [hy]
    intro F5 H5 e5 va rva
    refine ⟨w, ?_, (by show 2 ≤ sizeLine; rw [sizeLine_eq]; decide), fun T nT => ?_⟩
    · have := r.ra.len
      show ((wipe σ [j]).set j (some w))[j]? = some (some w)
      simp only [wipe, List.set_set]
      exact List.getElem?_set_self (by omega)
    have e05 := (e.trans e4).trans e5
    have e45 := e4.trans e5
    have isa := rva.is e5.s
    have g5 : F5 Dl = none := e45.gone d1 (by rw [d2]; intro z; cases z)
    have h5 : H5 Dl = some (.lst acc) := e45.h _ _ d2
    have hq5 : H5 q = some (.lst S) := e45.h _ _ d3
    have nTD : Dl ≠ T := fun z => by rw [z, nT] at h5; cases h5
    have nTq : q ≠ T := fun z => by rw [z, nT] at hq5; cases hq5
    have o1' := own_ext_L o1 e45
    have od' := own_ext od e45
    have or' := own_ext_L or e45
    have ku : ∀ b, F5 b = none → H5 b ≠ none → b ≠ Dl → F5 b = none ∧ upd (upd H5 T (.tup [va, w])) Dl (.lst (acc ++ [.ref T])) b = H5 b := fun b q1 q2 q3 => ⟨q1, by rw [upd_ne q3, upd_ne fun z => q2 (by rw [z]; exact nT)]⟩
    have ll := lim_lt
    have la : acc.length = k := by
      rw [o1.len, List.length_map, List.length_take]
      omega
    refine ⟨acc, by rw [upd_ne nTD]; exact h5, by omega, rfl, by omega, F5, acc ++ [.ref T], fq1 ++ (T :: fd), fr2, ((e05.trans (Ext.new0 e5.s nT)).mut hD0 g5), g5, upd_same, by rw [upd_ne nqD, upd_ne nTq]; exact hq5, ?_, ?_, ?_, ?_, ?_, ?_, ?_⟩
    · rw [List.take_succ, List.getElem?_eq_getElem hkd, List.map_append]
      refine OwnL.app (.one ?_) (o1'.keep fun b hb => ku b (o1'.at b hb).1 (o1'.at b hb).2 fun z => n1 (by rw [← z]; exact hb)) fun b hb z => ?_
      · have o2 := od'.keep fun b hb => ku b (od'.at b hb).1 (od'.at b hb).2 fun z => n2 (by rw [← z]; exact List.mem_append_left _ hb)
        simp only [Own]
        refine ⟨T, [va, w], fd, rfl, rfl, fun z => (od'.at T z).2 nT, e5.s.free nT, by rw [upd_ne (fun z => nTD z.symm)]; exact upd_same, ?_⟩
        simp only [OwnL]
        refine ⟨va, [w], [], fd, rfl, rfl, (fun a z => by cases z), own_scal (by rw [hcy]; exact isa) (by rw [hcy]; exact hsc), w, [], fd, [], rfl, by simp, (fun a _ z => by cases z), o2, rfl, rfl⟩
      · rcases List.mem_cons.mp z with rfl | z
        · exact (o1'.at b hb).2 nT
        · exact dj b hb (List.mem_append_left _ z)
    · exact or'.keep fun b hb => ku b (or'.at b hb).1 (or'.at b hb).2 fun z => n2 (by rw [← z]; exact List.mem_append_right _ hb)
    · intro b hb z
      rcases List.mem_append.mp hb with hb | hb
      · exact dj b hb (List.mem_append_right _ z)
      · rcases List.mem_cons.mp hb with rfl | hb
        · exact (or'.at b z).2 nT
        · exact dj2 b hb z
    · intro z
      rcases List.mem_append.mp z with z | z
      · exact n1 z
      · rcases List.mem_cons.mp z with z | z
        · exact nTD z
        · exact n2 (List.mem_append_left _ z)
    · exact fun z => n2 (List.mem_append_right _ z)
    · intro b hb
      rcases List.mem_append.mp hb with hb | hb
      · exact a1 b hb
      · rcases List.mem_cons.mp hb with rfl | hb
        · exact r.ext.h.free (e05.h.free nT)
        · exact a2 b (List.mem_append_left _ hb)
    · exact fun b hb => a2 b (List.mem_append_right _ hb)
  · have ek : k = S.length := by omega
    subst ek
    refine .inl ⟨⟨S, (LL.of (K := X.K) d3).seq, Nat.le_refl _⟩, p4 (.ref Dl) F2 H2 (r.ext.trans e) ⟨Dl :: fq1, fun b hb => ?_, ?_⟩⟩
    · rcases List.mem_cons.mp hb with rfl | hb
      · exact r.ext.h.free hD0
      · exact a1 b hb
    · rw [lS, List.take_length] at o1
      simp only [Own]
      exact ⟨Dl, acc, fq1, rfl, rfl, n1, d1, d2, o1⟩
end
theorem itemsS_ok {d : D} {ds : List D} (h : itemsR d = .ok ds) : items d = some ds := by
  unfold itemsR at h
  split at h
  · next h' => cases h; exact h'
  · cases h
theorem itemsS_exc {d : D} : ∀ c, itemsR d ≠ .exc c := fun c h => by
  unfold itemsR at h
  split at h <;> cases h
/-- an own tree's item taken out; the rest is given up -/
theorem RelA.movX {K : PySem.W.Frag} {A F H : Hp} {σ : L2.St} {env : Env} (r : RelA K A F H σ env) {i j : Nat} {d c : D} {v w : V} (h : env[j]? = some (.od d)) (hv : σ[j]? = some (some v)) (n : i ≠ j) (hw : ∀ fp, Own K F H d v fp → ∃ f, Own K F H c w f ∧ ∀ a ∈ f, a ∈ fp) : RelA K A F H (σ.set i (some w)) ((env.set j .no).set i (.od c)) := by
  have hj := lt_of_get h
  by_cases hi : i < env.length
  case neg =>
    rw [List.set_eq_of_length_le (by rw [← r.len]; omega), List.set_eq_of_length_le (by rw [List.length_set]; omega)]
    have := r.any (i := j) (v := some v)
    rwa [set_get_same hv] at this
  exact r.change hi j r.sub (Same.refl F) fun fps h1 h2 h3 => by
    obtain ⟨w', h4, h5⟩ := h1 j _ h
    rw [hv] at h4
    cases h4
    obtain ⟨f, o, k⟩ := hw _ h5
    exact ⟨f, ⟨w, rfl, o⟩, fun a ha => (h3 j hj a (k a ha)).1, fun l n1 n2 hl a ha => ⟨fun z => h2 l j n2 hl hj a ha (k a z), (h3 l hl a ha).2.1, rfl⟩⟩
section
variable {cref : Str → Value} {n : Nat} {G : Gam} {bs cs N : List Str} {X : Cx} {W : Wd} {sc : Scope}
theorem sMovX (wn : Nat) {i j : Nat} {e : Ex} {st : Stmt} (ft : SFit X W cref n G bs cs N sc) (h : kMovX N bs sc i j e st = true) : PS X st (tS X.K W G wn (.movX i j e)) := by
  unfold kMovX at h
  split at h
  case h_2 => cases h
  simp only [Bool.and_eq_true] at h
  obtain ⟨⟨⟨h1, h2⟩, h3⟩, h4⟩ := h
  obtain ⟨a, b, c⟩ := st_of ft.hN ft.hsc (fun x _ => ft.fn x) h1
  have hN : X.N.Nodup := by rw [ft.hN]; exact ft.nd
  refine ps_imp (ps_set hN a b (pe_ix ix_seq (vr_ok ft h2) (sE e ft.toFit h4) (plainIx_of h3)) rfl c) fun E σ H q => ?_
  obtain ⟨B0, A0, F, env, r, p⟩ := q
  unfold evS at p
  obtain ⟨d, hd, p⟩ := p.ok odD_exc
  have hd := odD_ok hd
  obtain ⟨v, fp, hv, o, na⟩ := r.ra.ods hd
  refine ⟨v, hv, r.aftE p fun x F1 H1 v1 e1 rv1 s1 p => ?_⟩
  obtain ⟨k, hk, p⟩ := p.isInt
  have iv1 := rv1.is e1.s
  rw [hk] at iv1
  cases is_int iv1
  obtain ⟨ds, hds, p⟩ := p.ok itemsS_exc
  have hds := itemsS_ok hds
  obtain ⟨⟨m, y⟩, hm, p⟩ := p.ok placed_exc
  obtain ⟨m1, m2⟩ := placed_ok hm
  by_cases hij : i ≠ j
  · rw [if_pos hij] at p
    have o1 := own_ext o e1
    obtain ⟨pa, vs, w, f, rfl, g1, g2, g3, g4, g5, _⟩ := o1.part hds m2
    have ea : atI vs k = some w := by
      unfold atI
      rw [g3, m1]
      exact g2
    refine atI_ok g1 ea ?_
    refine p _ F1 H1 ⟨s1.ra.movX hd hv hij fun fp' o' => ?_, s1.ext⟩
    obtain ⟨pa', vs', w', f', q0, q1, q2, q3, q4, q5, _⟩ := o'.part hds m2
    cases q0
    have : w' = w := by
      have ev : vs' = vs := by
        rcases g1 with g1 | g1 <;> rcases q1 with q1 | q1 <;> rw [g1] at q1 <;> cases q1 <;> rfl
      rw [ev] at q2
      have q2 : vs[m]? = some w' := q2
      have g2 : vs[m]? = some w := g2
      rw [g2] at q2
      exact (Option.some.inj q2).symm
    subst this
    exact ⟨f', q4, q5⟩
  · rw [if_neg hij] at p
    exact p.elim
end
end PV

/-! PvTree4: statements about a list within an own tree: for row in x[i]: row[k].append(c); x[i].append(a tree). -/
namespace PV
open PySem PySem.Spec PyProof.Rows L2
section
variable {K : PySem.W.Frag} {F H : Hp}
theorem Own.grow {d c : D} {v : V} {fp : List Addr} {es : List D} {j : Nat} (h : Own K F H d v fp) (hi : PV.items d = some es) (hj : es[j]? = some c) :
    ∃ p vs w f, v = .ref p ∧ (H p = some (.lst vs) ∨ H p = some (.tup vs)) ∧ vs[j]? = some w ∧ vs.length = es.length ∧ Own K F H c w f ∧ (∀ a ∈ f, a ∈ fp) ∧ p ∉ f ∧ p ∈ fp ∧
      ∀ (H' : Hp) (c' : D) (f' : List Addr), Own K F H' c' w f' → (∀ a ∈ f', a ∈ f ∨ a ∉ fp) → (∀ a, a ∈ fp → a ∉ f → H' a = H a) → ∃ fp', Own K F H' (putAt d j c') v fp' ∧ ∀ a ∈ fp', a ∈ fp ∨ a ∈ f' := by
  obtain ⟨p, vs, fq, rfl, rfl, h1, h2, h3, h4, h5⟩ := h.items hi
  obtain ⟨w, f, g1, g2, e1, rfl, e3, e4, e5⟩ := h4.sub hj
  have pf : p ∉ f := fun z => h1 (List.mem_append_left _ (List.mem_append_right _ z))
  refine ⟨p, vs, w, f, rfl, h3, e1, h4.len, e4, fun a ha => List.mem_cons_of_mem _ (List.mem_append_left _ (List.mem_append_right _ ha)), pf, List.mem_cons_self, fun H' c' f' o nf k => ?_⟩
  have n1 : ∀ a ∈ f', a ∉ g1 ∧ a ∉ g2 := fun a ha => by
    rcases nf a ha with z | z
    · exact e3 a z
    · exact ⟨fun y => z (List.mem_cons_of_mem _ (List.mem_append_left _ (List.mem_append_left _ y))), fun y => z (List.mem_cons_of_mem _ (List.mem_append_right _ y))⟩
  have np : p ∉ f' := fun z => by
    rcases nf p z with y | y
    · exact pf y
    · exact y List.mem_cons_self
  have t := e5 H' c' w f' o n1 fun a ha => k a (List.mem_cons_of_mem _ (ha.elim (fun z => List.mem_append_left _ (List.mem_append_left _ z)) fun z => List.mem_append_right _ z)) fun z => ha.elim (e3 a z).1 (e3 a z).2
  rw [set_eq_self e1] at t
  refine ⟨_, h5 H' j c' _ (k p List.mem_cons_self pf) (fun z => ?_) t, fun a ha => ?_⟩
  · rcases List.mem_append.mp z with z | z
    · rcases List.mem_append.mp z with z | z
      · exact h1 (List.mem_append_left _ (List.mem_append_left _ z))
      · exact np z
    · exact h1 (List.mem_append_right _ z)
  · rcases List.mem_cons.mp ha with rfl | ha
    · exact .inl List.mem_cons_self
    · rcases List.mem_append.mp ha with ha | ha
      · rcases List.mem_append.mp ha with ha | ha
        · exact .inl (List.mem_cons_of_mem _ (List.mem_append_left _ (List.mem_append_left _ ha)))
        · exact .inr ha
      · exact .inl (List.mem_cons_of_mem _ (List.mem_append_right _ ha))
theorem putAt_put {d x y : D} {j : Nat} : putAt (putAt d j x) j y = putAt d j y := by
  cases d <;> simp [putAt]
theorem items_put {d x : D} {j : Nat} {es : List D} (h : items d = some es) : items (putAt d j x) = some (es.set j x) := by
  cases d <;> simp [items] at h <;> subst h <;> rfl
theorem putAt_self {d x : D} {j : Nat} {es : List D} (h : items d = some es) (hx : es[j]? = some x) : putAt d j x = d := by
  cases d <;> simp [items] at h <;> subst h <;> simp only [putAt, set_eq_self hx]
end
section
variable {cref : Str → Value} {n : Nat} {G : Gam} {bs cs N : List Str} {X : Cx} {W : Wd} {sc : Scope}
theorem sAppXO (wn : Nat) {i : Nat} {k e : Ex} {st : Stmt} (ft : SFit X W cref n G bs cs N sc) (h : kAppX N bs sc i k e st = true) : PS X st (tS X.K W G wn (.appXO i k e)) := by
  unfold kAppX at h
  split at h
  case h_2 => cases h
  simp only [Bool.and_eq_true, decide_eq_true_eq] at h
  obtain ⟨⟨⟨⟨⟨rfl, h1⟩, h2⟩, h3⟩, h4⟩, h5⟩ := h
  have st := star_cons (es := []) (env := X.env) (chk_noStar h5)
  refine ps_imp (ps_expr (pe_bm PySem.F.plainAttrs_list PySem.F.slot_list_append PySem.F.type_list_append mt_append (pe_ix ix_seq (vr_ok ft h2) (sE k ft.toFit h4) (plainIx_of h3)) (pa_cons (sE e ft.toFit h5) pa_nil st) rfl (by rw [st]; rfl) (beq_iff_eq.mpr h1) st rfl) rfl) fun E σ H q => ?_
  obtain ⟨B0, A0, F, env, r, p⟩ := q
  unfold evS at p
  obtain ⟨d, hd, p⟩ := p.ok odD_exc
  have hd := odD_ok hd
  obtain ⟨v, fp, hv, o, na⟩ := r.ra.ods hd
  refine ⟨v, hv, r.aftE p fun x F1 H1 v1 e1 rv1 s1 p => ?_⟩
  obtain ⟨a, ha, p⟩ := p.isInt
  have iv1 := rv1.is e1.s
  rw [ha] at iv1
  cases is_int iv1
  have o1 := own_ext o e1
  obtain ⟨⟨j, ws⟩, hr, p⟩ := p.ok rowL_exc
  obtain ⟨es, hi, hp⟩ := rowL_ok hr
  obtain ⟨pa, vs, q, us, fq, rfl, g1, g2, g3, g4, g5, g6, g7, _⟩ := o1.row hi hp
  refine atI_ok g1 g2 ⟨.inl ⟨rfl, us, (LL.of (K := X.K) g3).seq⟩, s1.aftE p fun y F2 H2 v2 e2 rv2 s2 p => ?_⟩
  obtain ⟨c, hc, p⟩ := p.ok treeOf_exc
  obtain ⟨fc, nc, oc⟩ := treeOf_own rv2 e2.s hc
  by_cases hl : ws.length < lim
  · rw [if_pos hl] at p
    have g3' : H2 q = some (.lst us) := (e2.stay (by rw [g3]; intro z; cases z)).trans g3
    refine ⟨q, us, v2, rfl, rfl, g3', by rw [g4.len]; exact Nat.lt_trans hl lim_lt, ?_⟩
    have ee := e1.trans e2
    have o2 := own_ext o ee
    obtain ⟨pa', vs', w, f, t0, t1, t2, t3, t4, t5, t6, t7, t8⟩ := o2.grow hi (placed_ok hp).2
    cases t0
    have evs : vs' = vs := by
      rcases stay2 e2 g1 with g1 | g1 <;> rcases t1 with t1 | t1 <;> rw [g1] at t1 <;> cases t1 <;> rfl
    subst evs
    have ew : w = .ref q := by
      have g2' : atI vs' a = some w := atI_of t3 hp t2
      rw [g2] at g2'
      exact (Option.some.inj g2').symm
    subst ew
    simp only [Own] at t4
    obtain ⟨q', us', fr, q0, rfl, y1, y2, y3, y4⟩ := t4
    cases q0
    rw [g3'] at y3
    cases y3
    have ac : q ∉ fc := fun z => by
      have := nc q z
      rw [g3] at this
      cases this
    have qa : q ∈ fp := t5 q List.mem_cons_self
    have ex := s2.ext.mut (o := .lst (us ++ [v2])) (na q qa) y2
    have oN : Own X.K F2 (upd H2 q (.lst (us ++ [v2]))) (.list (ws ++ [c])) (.ref q) (q :: (fr ++ fc)) := by
      simp only [Own]
      refine ⟨q, _, fr ++ fc, rfl, rfl, fun z => ?_, y2, upd_same, ?_⟩
      · rcases List.mem_append.mp z with z | z
        · exact y1 z
        · exact ac z
      · refine OwnL.app (.one (oc.keep fun b hb => ⟨(oc.at b hb).1, upd_ne fun z => ac (by rw [← z]; exact hb)⟩)) (y4.keep fun b hb => ⟨(y4.at b hb).1, upd_ne fun z => y1 (by rw [← z]; exact hb)⟩) fun b hb z => ?_
        exact (o1.at b (t5 b (List.mem_cons_of_mem _ hb))).2 (nc b z)
    obtain ⟨fp', z1, z2⟩ := t8 _ _ _ oN (fun b hb => by
      rcases List.mem_cons.mp hb with rfl | hb
      · exact .inl List.mem_cons_self
      · rcases List.mem_append.mp hb with hb | hb
        · exact .inl (List.mem_cons_of_mem _ hb)
        · exact .inr fun z => (o1.at b z).2 (nc b hb)) fun b _ hn => upd_ne fun z => hn (by rw [z]; exact List.mem_cons_self)
    refine p _ _ _ ⟨r.ra.treeE ee hd hv ex.s fun fi oi => ?_, ex⟩
    rw [own_fp oi o]
    refine ⟨fp', z1, fun b hb => ?_, fun b hb hn => (upd_ne fun z => hb (by rw [z]; exact qa)).trans (ee.stay hn)⟩
    rcases z2 b hb with y | y
    · exact .inl y
    · rcases List.mem_cons.mp y with rfl | y
      · exact .inl qa
      · rcases List.mem_append.mp y with y | y
        · exact .inl (t5 b (List.mem_cons_of_mem _ y))
        · have hH : H b = none := by
            cases q : H b with
            | none => rfl
            | some u =>
              have := e1.stay (p := b) (by rw [q]; intro z; cases z)
              rw [nc b y, q] at this
              cases this
          exact .inr ⟨hH, r.ext.h.free hH⟩
  · rw [if_neg hl] at p
    exact p.elim
theorem sLopX (wn : Nat) {i j : Nat} {kk : Ex} {k : Int} {c : Const} {st : Stmt} (ft : SFit X W cref n G bs cs N sc) (h : kLopX N bs sc i j kk k c st = true) : PS X st (tS X.K W G wn (.lopX i j kk k c)) := by
  unfold kLopX at h
  split at h
  case h_2 => cases h
  simp only [Bool.and_eq_true, decide_eq_true_eq] at h
  obtain ⟨⟨⟨⟨⟨⟨⟨⟨⟨⟨hr, rfl⟩, h1⟩, h2⟩, h8⟩, h9⟩, h3⟩, h4⟩, h5⟩, h6⟩, h7⟩ := h
  obtain ⟨na, nb, nc⟩ := st_of ft.hN ft.hsc (fun x _ => ft.fn x) h3
  have hN : X.N.Nodup := by rw [ft.hN]; exact ft.nd
  have st := star_cons (es := []) (env := X.env) (chk_noStar h7)
  refine ps_imp (ps_for ft.pass (ft.calm hr) (pi_list (pe_ix ix_seq (vr_ok ft h2) (sE kk ft.toFit h9) (plainIx_of h8))) (pg_name hN na nb nc) (pss_one (ps_expr (pe_bm PySem.F.plainAttrs_list PySem.F.slot_list_append PySem.F.type_list_append mt_append (pe_ix ix_seq (vr_ok ft h4) (sE (.cst (.int k)) ft.toFit h6) (plainIx_of h5)) (pa_cons (sE (.cst c) ft.toFit h7) pa_nil st) rfl (by rw [st]; rfl) (beq_iff_eq.mpr h1) st rfl) rfl))) fun E σ H q => ?_
  obtain ⟨B0, A0, F, env, r, p⟩ := q
  unfold evS at p
  obtain ⟨t, ht, p⟩ := p.ok odD_exc
  have ht := odD_ok ht
  obtain ⟨v, fp, hv, o0, na0⟩ := r.ra.ods ht
  refine ⟨v, hv, r.aftE p fun x F1 H1 v1 e1 rv1 r p => ?_⟩
  obtain ⟨a0, ha0, p⟩ := p.isInt
  have iv1 := rv1.is e1.s
  rw [ha0] at iv1
  cases is_int iv1
  have o := own_ext o0 e1
  obtain ⟨⟨jn, ds⟩, hrw, p⟩ := p.ok rowL_exc
  obtain ⟨es0, hi0, hp0⟩ := rowL_ok hrw
  have hc0 := (placed_ok hp0).2
  have hc0 : es0[jn]? = some (.list ds) := hc0
  cases hc : constD c with
  | none => rw [hc] at p; exact p.elim
  | some cd =>
    rw [hc] at p
    by_cases hij : i ≠ j ∧ j < env.length
    case neg =>
      have p : Post X.K B0 A0 W E (if i ≠ j ∧ j < env.length then Out.of env (eachR (rowA k cd) ds) fun es => .nx ((env.set j .no).set i (.od (putAt t jn (.list es)))) else .stuck) := p
      rw [if_neg hij] at p
      exact p.elim
    have p : Post X.K B0 A0 W E (if i ≠ j ∧ j < env.length then Out.of env (eachR (rowA k cd) ds) fun es => .nx ((env.set j .no).set i (.od (putAt t jn (.list es)))) else .stuck) := p
    rw [if_pos hij] at p
    obtain ⟨nij, jl⟩ := hij
    obtain ⟨fin, hfin, p⟩ := p.ok (eachR_exc fun d => rowA_exc)
    have il := lt_of_get ht
    obtain ⟨pt, vt, a, xs, fq, rfl, g1, g2, g3, g4, g5, g6, g7, _⟩ := o.row hi0 hp0
    refine atI_ok g1 g2 ⟨a, rfl, ⟨xs, (LL.of g3).seq⟩, ?_⟩
    have s0 := r.drop j
    have e0 : (env.set j .no).set i (.od (putAt t jn (.list ds))) = env.set j .no := by
      rw [putAt_self hi0 hc0]
      exact set_eq_self (by rw [List.getElem?_set_ne (Ne.symm nij)]; exact ht)
    have iP : ∀ zs : List D, items (putAt t jn (.list zs)) = some (es0.set jn (.list zs)) := fun zs => items_put hi0
    have jlt : jn < es0.length := (List.getElem?_eq_some_iff.mp hc0).1
    have gP : ∀ zs : List D, (es0.set jn (.list zs))[jn]? = some (.list zs) := fun zs => List.getElem?_set_self jlt
    refine for_list (fun n σ' H' => ∃ F' es rest, n ≤ ds.length ∧ es.length = n ∧ eachR (rowA k cd) (ds.drop n) = .ok rest ∧ es ++ rest = fin ∧ SRel X.K B0 A0 F' H' σ' ((env.set j .no).set i (.od (putAt t jn (.list (es ++ ds.drop n))))) ∧ σ'[i]? = some (some (.ref pt)) ∧ (H' pt = some (.lst vt) ∨ H' pt = some (.tup vt)) ∧ H' a = some (.lst xs))
      ⟨F1, [], fin, Nat.zero_le _, rfl, hfin, rfl, by rw [List.drop_zero, List.nil_append, e0]; exact s0, hv, g1, g3⟩ (fun n σ' H' _ ⟨F', es, rest, _, _, _, _, _, _, _, z⟩ => (LL.of z).seq) (fun m x σ1 H1 hx ⟨F1, es, rest, hm, hes, hre, hfi, s1, hv1, hpt1, ha1⟩ => ?_) (fun σ1 H1 ⟨F1, es, rest, hm, hes, hre, hfi, s1, hv1, hpt1, ha1⟩ => ?_)
    · have hm2 : m < ds.length := by rw [← g4.len]; exact (List.getElem?_eq_some_iff.mp hx).1
      rw [List.drop_eq_getElem_cons hm2] at hre
      obtain ⟨d1, re2, hd1, hre2, rfl⟩ := eachR_cons hre
      obtain ⟨⟨jj, ws⟩, hr1, hl, rfl⟩ := rowA_ok hd1
      obtain ⟨es1, hi1, hp1⟩ := rowL_ok hr1
      have lens : ((env.set j .no).set i (.od (putAt t jn (.list (es ++ ds.drop m))))).length = env.length := by rw [List.length_set, List.length_set]
      have hE : ((env.set j .no).set i (.od (putAt t jn (.list (es ++ ds.drop m)))))[i]? = some (.od (putAt t jn (.list (es ++ ds.drop m)))) := List.getElem?_set_self (by rw [List.length_set]; exact il)
      have s2 : SRel X.K B0 A0 F1 H1 (σ1.set j (some x)) ((env.set j .no).set i (.od (putAt t jn (.list (es ++ ds.drop m))))) := by
        have := s1.any (i := j) (v := some x)
        rwa [set_eq_self (x := Slot.no) (by rw [List.getElem?_set_ne nij, List.getElem?_set_self jl])] at this
      have hvi : (σ1.set j (some x))[i]? = some (some (.ref pt)) := by rw [List.getElem?_set_ne (Ne.symm nij)]; exact hv1
      have hvj : (σ1.set j (some x))[j]? = some (some x) := List.getElem?_set_self (by rw [← s1.rel.len, lens]; exact jl)
      obtain ⟨v2, fp, hv2, o, na⟩ := s2.ra.ods hE
      rw [hvi] at hv2
      cases hv2
      -- the list within
      have down : ∀ {F H : Hp}, Own X.K F H (putAt t jn (.list (es ++ ds.drop m))) (.ref pt) fp → (H pt = some (.lst vt) ∨ H pt = some (.tup vt)) → H a = some (.lst xs) →
          ∃ f, Own X.K F H (.list (es ++ ds.drop m)) (.ref a) f ∧ (∀ b ∈ f, b ∈ fp) ∧ pt ∉ f ∧ ∀ (H' : Hp) (c' : D), Own X.K F H' c' (.ref a) f → (∀ b, b ∈ fp → b ∉ f → H' b = H b) → Own X.K F H' (putAt (putAt t jn (.list (es ++ ds.drop m))) jn c') (.ref pt) fp := fun {F H} o hpt ha => by
        obtain ⟨p1, vs1, w, f, q1, q2, q3, q4, q5, q6, q7, q8, rb⟩ := o.part (j := jn) (iP _) (gP _)
        cases q1
        have : vs1 = vt := by rcases hpt with hpt | hpt <;> rcases q2 with q2 | q2 <;> rw [hpt] at q2 <;> cases q2 <;> rfl
        subst this
        have ew : w = .ref a := by
          have h1 : vs1[jn]? = some (.ref a) := by
            have := g2
            unfold atI at this
            have l0 : vs1.length = es0.length := by rw [q4, List.length_set]
            rw [l0, (placed_ok hp0).1] at this
            exact this
          rw [h1] at q3
          exact (Option.some.inj q3).symm
        subst ew
        exact ⟨f, q5, q6, q7, rb⟩
      obtain ⟨f0, ol, sb0, nf0, rb0⟩ := down o hpt1 ha1
      obtain ⟨p1, vs1, w, f, q1, q2, q3, q4, q5, q6, q7, q8, rb⟩ := ol.part (j := m) rfl (by rw [app_get hes]; exact List.getElem?_eq_getElem hm2)
      cases q1
      rw [ha1] at q2
      have : vs1 = xs := by rcases q2 with z | z <;> cases z; rfl
      subst this
      rw [hx] at q3
      cases q3
      obtain ⟨pa, vs, q, us, fr, rfl, y1, y2, y3, y4, y5, y6, y7, y8⟩ := q5.row hi1 hp1
      refine ⟨_, hvj, F1, _, s2.rel, ?_⟩
      have ek : ∀ e : Env, ev G (.cst (.int k)) e = .ok (.sh, .int k) := fun e => by unfold ev; rfl
      have ec : ∀ e : Env, ev G (.cst c) e = .ok (.sh, cd) := fun e => by unfold ev; rw [hc]
      rw [ek]
      refine fun F2 H2 e2 v2 rv2 => ?_
      cases is_int (K := X.K) (H := F2) rv2
      refine atI_ok (stay2 e2 y1) y2 ⟨.inl ⟨rfl, us, (LL.of (K := X.K) (e2.h _ _ y3)).seq⟩, ?_⟩
      have s3 := s2.next e2
      refine ⟨F2, _, s3.rel, ?_⟩
      rw [ec]
      refine fun F3 H3 e3 v3 rv3 => ?_
      have s4 := s3.next e3
      have e4 := e2.trans e3
      have y3' := e4.h _ _ y3
      refine ⟨q, us, v3, rfl, rfl, y3', by rw [y4.len]; exact Nat.lt_trans hl lim_lt, ?_⟩
      have sc : scal cd = true := by
        unfold constD at hc
        split at hc <;> cases hc <;> rfl
      have oc := own_app (q := q) (own_ext_L y4 e4) y5 (G := F3) (c := cd) (w := v3) rv3 sc
      obtain ⟨f02, ol2, sb2, nf2, rb02⟩ := down (own_ext o e4) (stay2 e4 hpt1) (e4.h _ _ ha1)
      have ef0 := own_fp ol2 (own_ext ol e4)
      subst ef0
      obtain ⟨p2, vs2, w2, f2, z1, z2, z3, z4, z5, z6, z7, z8, rb2⟩ := ol2.part (j := m) rfl (by rw [app_get hes]; exact List.getElem?_eq_getElem hm2)
      cases z1
      rw [e4.h _ _ ha1] at z2
      have : vs2 = vs1 := by rcases z2 with z | z <;> cases z; rfl
      subst this
      rw [hx] at z3
      cases z3
      have ef := own_fp z5 (own_ext q5 e4)
      subst ef
      obtain ⟨_, fr2, t1, t2, t3, t4, t5⟩ := z5.row_at hi1 hp1 rfl (stay2 e4 y1) y2 y3'
      have er := ownL_fp t1 (own_ext_L y4 e4)
      subst er
      have oc2 := rb2 _ _ (t5 _ _ oc) fun b _ hb => upd_ne fun z => hb (by rw [z]; exact t3)
      have s5 := s4.deep (u := .lst (us ++ [v3])) hE hvi (own_ext o e4) na rb02 sb2 (z6 q t3) t4 oc2
      refine ⟨F3, es ++ [putAt ds[m] jj (.list (ws ++ [cd]))], re2, hm2, by rw [List.length_append, hes]; rfl, hre2, by rw [List.append_assoc]; exact hfi, ?_, hvi, ?_, ?_⟩
      · rw [← app_set hes hm2]
        rw [List.set_set, putAt_put] at s5
        exact s5
      · rw [upd_ne fun z => nf2 (by rw [z]; exact z6 q t3)]
        exact stay2 e4 hpt1
      · rw [upd_ne fun z => z7 (by rw [z]; exact t3)]
        exact e4.h _ _ ha1
    · have hm2 : xs.length = ds.length := g4.len
      rw [hm2, List.drop_length] at hre s1
      cases hre
      rw [List.append_nil] at hfi s1
      subst hfi
      exact p _ _ _ s1
end
end PV

/-! PvStm: statements. -/
namespace PV
open PySem PySem.Spec PyProof.Rows L2
section
variable {cref : Str → Value} {n : Nat} {G : Gam} {bs cs N : List Str}
mutual
theorem sS (wn : Nat) : ∀ (x : Sx) {X : Cx} {W : Wd} {sc : Scope} {st : Stmt}, SFit X W cref n G bs cs N sc → chkS N bs cs sc x st = true → PS X st (tS X.K W G wn x)
  | .asg fz i e, X, W, sc, st, ft, h => by
    cases st with
    | Assign ts v pos =>
      match ts, h with
      | [tg], h =>
        cases tg with
        | Name x px =>
          simp only [chkS, Bool.and_eq_true] at h
          obtain ⟨⟨h1, hti⟩, h2⟩ := h
          have h := And.intro h1 h2
          obtain ⟨a, b, c⟩ := st_of ft.hN ft.hsc (fun x _ => ft.fn x) h.1
          have hN : X.N.Nodup := by rw [ft.hN]; exact ft.nd
          by_cases hl : ∃ a b c d, v = .ListComp a b c d
          · obtain ⟨a1, a2, a3, a4, rfl⟩ := hl
            rcases swaps_lc (a := a1) (b := a2) (c := a3) (d := a4) (p := px) (x := x) (n := pos.line) (env := X.env) with z | ⟨z, y⟩
            · exact ps_imp (ps_set hN a b (sE e ft.toFit h.2) z c) fun E σ H q => asg_read q
            · cases e with
              | cpr own tg src c e => exact ps_imp (sLc ft h.2 a y z) fun E σ H q => asg_read q
              | trI e => cases hti
              | _ => simp [chkE, frzE, isLC] at h
          · exact ps_imp (ps_set hN a b (sE e ft.toFit h.2) (swaps_name h.2 fun a b c d z => hl ⟨a, b, c, d, z⟩) c) fun E σ H q => asg_read q
        | _ => simp [chkS] at h
      | [], h => simp [chkS] at h
      | a :: _ :: _, h => cases a <;> first | (cases h; done) | (rename_i u _ _; cases u <;> cases h)
    | _ => simp [chkS] at h
  | .asgT fz is e, X, W, sc, st, ft, h => by
    cases st with
    | Assign ts v pos =>
      match ts, h with
      | [tg], h =>
        cases tg with
        | Tuple es k px =>
          simp only [chkS, Bool.and_eq_true, Bool.not_eq_true', decide_eq_true_eq] at h
          obtain ⟨⟨⟨hr, h1⟩, h2⟩, h3⟩ := h
          have h : (chkTg.go N sc (fun _ => true) is es = true ∧ isTupE v = false) ∧ chkE N bs e sc v = true := ⟨⟨h1, h2⟩, h3⟩
          refine ps_imp (ps_asg (sE e ft.toFit h.2) (pg_of (tg := .tp is) (cok := fun _ => true) ft.hN ft.nd ft.hsc (fun x _ => ft.fn x) (ft.calm hr) (by simpa only [chkTg] using h.1.1)) (swaps_tup (a := es) (k := k) (p := px) (n := pos.line) (env := X.env)) (stores_tup h.1.2)) fun E σ H q => ?_
          obtain ⟨B0, A0, F, env, r, p⟩ := q
          unfold evS at p
          obtain ⟨F0, r0⟩ := r.frz (fz := fz)
          refine r0.aftE p fun x F' H' v e rv s p => ?_
          cases hb : bindT (.tp is) ((nt x.1 x.2).dm, x.2) (frz fz env) with
          | none => rw [hb] at p; exact p.elim
          | some e2 =>
            rw [hb] at p
            have hd : (nt x.1 x.2).dm = .sh := by
              cases hz : (nt x.1 x.2).dm <;> first | rfl | (rw [hz] at hb; cases x.2 <;> cases hb)
            obtain ⟨F2, x2, _, i2⟩ := res_dm2 e (rv.nt e.s) hd
            exact (r0.next x2).bind i2 hb fun σ2 r2 => p _ _ _ r2
        | _ => simp [chkS] at h
      | [], h => simp [chkS] at h
      | a :: _ :: _, h => cases a <;> first | (cases h; done) | (rename_i u _ _; cases u <;> cases h)
    | _ => simp [chkS] at h
  | .aug i o e, X, W, sc, st, ft, h => by
    cases st with
    | AugAssign tg op v pos =>
      cases tg with
      | Name x px =>
        simp only [chkS, Bool.and_eq_true, decide_eq_true_eq] at h
        obtain ⟨⟨⟨h0, rfl⟩, h1⟩, h2⟩ := h
        obtain ⟨a, b, c⟩ := st_of ft.hN ft.hsc (fun x _ => ft.fn x) h1
        have hN : X.N.Nodup := by rw [ft.hN]; exact ft.nd
        have rd : ∀ (f : Int → Int → Int), (∀ i j r, augB o (.int i) (.int j) = .ok r → r = .int (f i j)) → ∀ E σ H, tS X.K W G wn (.aug i o e) E σ H → tAug i (tE X.K W G e) (ipI f) E σ H := fun f hf E σ H q => by
          obtain ⟨B0, A0, F, env, r, p⟩ := q
          unfold evS at p
          obtain ⟨d, hd, p⟩ := p.ok shD_exc
          obtain ⟨w, hw, iw⟩ := r.rel.shs (shD_ok hd)
          refine ⟨w, hw, r.aftE p fun x F' H' v e rv s p => ?_⟩
          obtain ⟨z, hz, p⟩ := p.ok augB_exc
          obtain ⟨m, k, rfl, hk, _⟩ := augB_ok hz
          have iv := rv.is e.s
          rw [hk] at iv hz
          have hz' := hf m k z hz
          subst hz'
          exact ⟨m, k, is_int iw, is_int iv, p _ _ _ (s.set int_is)⟩
        cases o <;> first | (cases h0; done) | skip
        · exact ps_imp (ps_aug hN a b (sE e ft.toFit h2) ip_add c) (rd _ fun i j r z => by cases z; rfl)
        · exact ps_imp (ps_aug hN a b (sE e ft.toFit h2) ip_sub c) (rd _ fun i j r z => by cases z; rfl)
      | _ => simp [chkS] at h
    | _ => simp [chkS] at h
  | .augX i o kx e, X, W, sc, st, ft, h => by
    cases st with
    | AugAssign tg op v pos =>
      cases tg with
      | Subscript ob sx px =>
        cases ob with
        | Name x px2 =>
          simp only [chkS, Bool.and_eq_true, decide_eq_true_eq] at h
          obtain ⟨⟨⟨⟨⟨⟨⟨h0, rfl⟩, h1⟩, h2⟩, h3⟩, h4⟩, h5⟩, h6⟩ := h
          have pv : PE X (.Name x px2) (tVar i) := ft.nm h1 h2 h3
          have ha : ∀ ov iv new, augStore sx ov iv new = (do holding [new, ov, iv] (setItem ov iv new); release [new, ov, iv] []; pure .next) := by
            cases sx <;> first | (intros; rfl) | cases h4
          have rd : ∀ (f : Int → Int → Int), (∀ i j r, augB o (.int i) (.int j) = .ok r → r = .int (f i j)) → ∀ E σ H, tS X.K W G wn (.augX i o kx e) E σ H → tAugS (tVar i) (tE X.K W G kx) (tE X.K W G e) rGetL (ipI f) rSetL E σ H := fun f hf E σ H q => by
            obtain ⟨B0, A0, F, env, r, p⟩ := q
            unfold evS at p
            obtain ⟨ds, hd, p⟩ := p.ok ownL_exc
            have hd := ownL_ok hd
            obtain ⟨pa, hpa, rt⟩ := r.rel.own hd
            refine ⟨_, hpa, r.aftE p fun x1 F1 H1 v1 e1 rv1 s1 p => ?_⟩
            obtain ⟨k, hk, p⟩ := p.isInt
            obtain ⟨jd, hj, p⟩ := p.ok placed_exc
            obtain ⟨hj1, hj2⟩ := placed_ok hj
            have iv1 := rv1.is e1.s
            rw [hk] at iv1
            obtain ⟨f1, vs, hvs, hL⟩ := rt.mono e1
            obtain ⟨w, hw, iw⟩ := hL.get hj2
            refine ⟨pa, vs, k, jd.1, w, rfl, is_int iv1, hvs, by rw [hL.len]; exact hj1, hw, s1.aftE p fun x2 F2 H2 v2 e2 rv2 s2 p => ?_⟩
            obtain ⟨z, hz, p⟩ := p.ok augB_exc
            obtain ⟨m, k2, hm, hk2, _⟩ := augB_ok hz
            have iv2 := rv2.is e2.s
            rw [hk2] at iv2
            rw [hm] at iw
            rw [hm, hk2] at hz
            have hz' := hf m k2 z hz
            subst hz'
            have rt2 := (rt.mono e1).mono e2
            obtain ⟨f2, vs2, hvs2, hL2⟩ := id rt2
            refine ⟨m, k2, is_int iw, is_int iv2, pa, vs2, k, jd.1, rfl, is_int iv1, hvs2, by rw [hL2.len]; exact hj1, ?_⟩
            exact p _ _ _ (s2.write hd hpa rt2 (hL2.set jd.1 int_is))
          cases o <;> first | (cases h0; done) | skip
          · exact ps_imp (ps_augS pv (sE kx ft.toFit h5) get_listO (sE e ft.toFit h6) ip_add set_list ha) (rd _ fun i j r z => by cases z; rfl)
          · exact ps_imp (ps_augS pv (sE kx ft.toFit h5) get_listO (sE e ft.toFit h6) ip_sub set_list ha) (rd _ fun i j r z => by cases z; rfl)
        | _ => simp [chkS] at h
      | _ => simp [chkS] at h
    | _ => simp [chkS] at h
  | .setX fz i kx e, X, W, sc, st, ft, h => by
    cases st with
    | Assign ts v pos =>
      match ts, h with
      | [tg], h =>
        cases tg with
        | Subscript ob sx px =>
          cases ob with
          | Name x px2 =>
            simp only [chkS, Bool.and_eq_true, decide_eq_true_eq] at h
            obtain ⟨⟨⟨⟨⟨h1, h2⟩, h3⟩, h4⟩, h5⟩, h6⟩ := h
            have pv : PE X (.Name x px2) (tVar i) := ft.nm h1 h2 h3
            have pg : PG X (.Subscript (.Name x px2) sx px) (gSub (tVar i) (tE X.K W G kx) rSetL) := by
              refine pg_sub pv (sE kx ft.toFit h5) set_list ?_
              cases sx <;> first | (intro _; rfl) | cases h4
            refine ps_imp (ps_asg (sE e ft.toFit h6) pg (swaps_two (a := .Name x px2) (b := sx) (p := px) (n := pos.line) (env := X.env)) stores_sub) fun E σ H q => ?_
            obtain ⟨B0, A0, F, env, r, p⟩ := q
            unfold evS at p
            obtain ⟨F0, r0⟩ := r.frz (fz := fz)
            generalize frz fz env = env at p r0
            refine r0.aftE p fun y F1 H1 v1 e1 rv1 s1 p => ?_
            obtain ⟨d, hd, p⟩ := p.ok shOnly_exc
            obtain ⟨F2, s2, i2, _⟩ := shOnly_use r0 e1 rv1 hd
            obtain ⟨ds, hds, p⟩ := p.ok ownL_exc
            have hds := ownL_ok hds
            obtain ⟨pa, hpa, rt⟩ := s2.rel.own hds
            refine ⟨_, hpa, s2.aftE p fun x3 F3 H3 v3 e3 rv3 s3 p => ?_⟩
            obtain ⟨k, hk, p⟩ := p.isInt
            obtain ⟨jd, hj, p⟩ := p.ok placed_exc
            obtain ⟨hj1, hj2⟩ := placed_ok hj
            have iv3 := rv3.is e3.s
            rw [hk] at iv3
            have rt2 := rt.mono e3
            obtain ⟨f2, vs2, hvs2, hL2⟩ := id rt2
            refine ⟨pa, vs2, k, jd.1, rfl, is_int iv3, hvs2, by rw [hL2.len]; exact hj1, ?_⟩
            exact p _ _ _ (s3.write hds hpa rt2 (hL2.set jd.1 (i2.mono e3.f)))
          | _ => simp [chkS] at h
        | _ => simp [chkS] at h
      | [], h => simp [chkS] at h
      | a :: _ :: _, h => cases a <;> first | (cases h; done) | (rename_i u _ _; cases u <;> cases h)
    | _ => simp [chkS] at h
  | .setD fz i kx e, X, W, sc, st, ft, h => by
    cases st with
    | Assign ts v pos =>
      match ts, h with
      | [tg], h =>
        cases tg with
        | Subscript ob sx px =>
          cases ob with
          | Name x px2 =>
            simp only [chkS, Bool.and_eq_true, decide_eq_true_eq] at h
            obtain ⟨⟨⟨⟨⟨h1, h2⟩, h3⟩, h4⟩, h5⟩, h6⟩ := h
            have pv : PE X (.Name x px2) (tVar i) := ft.nm h1 h2 h3
            have hu : X.A.units + 1 < cLine := by
              have := ft.un
              omega
            have pg : PG X (.Subscript (.Name x px2) sx px) (gSub (tVar i) (tE X.K W G kx) rSetD) := by
              refine pg_sub pv (sE kx ft.toFit h5) (set_dict hu) ?_
              cases sx <;> first | (intro _; rfl) | cases h4
            refine ps_imp (ps_asg (sE e ft.toFit h6) pg (swaps_two (a := .Name x px2) (b := sx) (p := px) (n := pos.line) (env := X.env)) stores_sub) fun E σ H q => ?_
            obtain ⟨B0, A0, F, env, r, p⟩ := q
            unfold evS at p
            obtain ⟨F0, r0⟩ := r.frz (fz := fz)
            generalize frz fz env = env at p r0
            refine r0.aftE p fun y F1 H1 v1 e1 rv1 s1 p => ?_
            obtain ⟨d, hd, p⟩ := p.ok shOnly_exc
            obtain ⟨F2, s2, i2, _⟩ := shOnly_use r0 e1 rv1 hd
            obtain ⟨ds, hds, p⟩ := p.ok ownD_exc
            have hds := ownD_ok hds
            obtain ⟨pa, hpa, rt⟩ := s2.rel.own hds
            refine ⟨_, hpa, s2.aftE p fun x3 F3 H3 v3 e3 rv3 s3 p => ?_⟩
            cases hk : dkey x3.2 with
            | none => rw [hk] at p; exact p.elim
            | some kk =>
              rw [hk] at p
              have p : Post X.K B0 A0 W E (if ds.length < lim then .nx (env.set i (.ow (.dict (dPutK ds kk d)))) else .stuck) := p
              by_cases hl : ds.length < lim
              · rw [if_pos hl] at p
                have rt2 := rt.mono e3
                obtain ⟨f2, es2, hes2, hK2⟩ := id rt2
                refine ⟨pa, _, rfl, ?_, p _ _ _ (s3.writeD hds hpa rt2 (isK_put hK2 (i2.mono e3.f)))⟩
                rw [key_is (rv3.is e3.s) hk]
                exact DPut.k hes2 (by rw [isK_len hK2]; exact Nat.lt_trans hl lim_lt)
              · rw [if_neg hl] at p
                exact p.elim
          | _ => simp [chkS] at h
        | _ => simp [chkS] at h
      | [], h => simp [chkS] at h
      | a :: _ :: _, h => cases a <;> first | (cases h; done) | (rename_i u _ _; cases u <;> cases h)
    | _ => simp [chkS] at h
  | .app fz i e, X, W, sc, st, ft, h => by
    cases st with
    | Expr v pos =>
      cases v with
      | Call fn args kws cpos =>
        cases fn with
        | Attribute ob m ap =>
          cases ob with
          | Name x px =>
            match args, kws, h with
            | [y], [], h =>
              simp only [chkS, Bool.and_eq_true, decide_eq_true_eq] at h
              obtain ⟨⟨⟨⟨⟨rfl, h1⟩, h2⟩, h3⟩, h4⟩, h5⟩ := h
              have st := star_cons (es := []) (env := X.env) (chk_noStar h5)
              have pv : PE X (.Name x px) (tVar i) := ft.nm h2 h3 h4
              have pe := pe_bm (apos := ap) (cpos := cpos) PySem.F.plainAttrs_list PySem.F.slot_list_append PySem.F.type_list_append mt_append pv (pa_cons (sE e ft.toFit h5) pa_nil st) rfl (by rw [st]; rfl) (beq_iff_eq.mpr h1) st rfl
              refine ps_imp (ps_expr pe rfl) fun E σ H q => ?_
              obtain ⟨B0, A0, F, env, r, p⟩ := q
              unfold evS at p
              obtain ⟨F0, r0⟩ := r.frz (fz := fz)
              generalize frz fz env = env at p r0
              obtain ⟨ds, hds, p⟩ := p.ok ownL_exc
              have hds := ownL_ok hds
              obtain ⟨pa, hpa, rt⟩ := r0.rel.own hds
              refine ⟨_, hpa, .inl ⟨rfl, ?_⟩, r0.aftE p fun y F1 H1 v1 e1 rv1 s1 p => ?_⟩
              · obtain ⟨_, vs, hvs, _⟩ := rt
                exact ⟨vs, (LL.of (K := X.K) hvs).seq⟩
              · obtain ⟨d, hd, p⟩ := p.ok shOnly_exc
                obtain ⟨F2, s2, i2, _⟩ := shOnly_use r0 e1 rv1 hd
                obtain ⟨pa', hpa', rt2⟩ := s2.rel.own hds
                rw [hpa] at hpa'
                cases hpa'
                obtain ⟨f2, vs2, hvs2, hL2⟩ := id rt2
                by_cases hl : ds.length < lim
                · rw [if_pos hl] at p
                  refine ⟨pa, vs2, v1, rfl, rfl, hvs2, by rw [hL2.len]; exact Nat.lt_trans hl lim_lt, ?_⟩
                  exact p _ _ _ (s2.write hds hpa rt2 (hL2.app (.one i2)))
                · rw [if_neg hl] at p
                  exact p.elim
            | [], _, h => simp [chkS] at h
            | [_], _ :: _, h => simp [chkS] at h
            | _ :: _ :: _, _, h => simp [chkS] at h
          | _ => simp [chkS] at h
        | _ => simp [chkS] at h
      | _ => simp [chkS] at h
    | _ => simp [chkS] at h
  | .exp e, X, W, sc, st, ft, h => by
    cases st with
    | Expr v pos =>
      simp only [chkS, Bool.and_eq_true] at h
      refine ps_imp (ps_expr (sE e ft.toFit h.2) (by cases v <;> first | rfl | cases h.1)) fun E σ H q => ?_
      obtain ⟨B0, A0, F, env, r, p⟩ := q
      unfold evS at p
      exact r.aftE p fun x F' H' v e rv s p => p _ _ _ s
    | _ => simp [chkS] at h
  | .ifs c a b, X, W, sc, st, ft, h => by
    cases st with
    | If t x y pos =>
      simp only [chkS, Bool.and_eq_true] at h
      refine ps_imp (ps_if (sT c ft.toFit h.1.1) (sSs wn a ft h.1.2) (sSs wn b ft h.2)) fun E σ H q => ?_
      obtain ⟨B0, A0, F, env, r, p⟩ := q
      unfold evS at p
      refine ⟨F, env, r.rel, (r.aft p).imp fun t F1 H1 _ e1 ⟨s, p⟩ => ?_⟩
      cases t with
      | true => exact iteT ⟨B0, A0, F1, env, s, p⟩
      | false => exact iteF ⟨B0, A0, F1, env, s, p⟩
    | _ => simp [chkS] at h
  | .whl c a, X, W, sc, st, ft, h => by
    cases st with
    | While t x els pos =>
      cases els with
      | nil =>
        simp only [chkS, Bool.and_eq_true] at h
        exact ps_imp (ps_while ft.pass (sT c ft.toFit h.1) (sSs wn a ft h.2)) fun E σ H q => while_read q
      | cons _ _ => simp [chkS] at h
    | _ => simp [chkS] at h
  | .lop fz tg src a, X, W, sc, st, ft, h => by
    cases st with
    | For t it x els pos =>
      cases els with
      | nil =>
        simp only [chkS, Bool.and_eq_true, decide_eq_true_eq] at h
        obtain ⟨⟨⟨hr, h1⟩, h2⟩, h3⟩ := h
        have h : (chkTg N sc (fun _ => true) tg t = true ∧ chkSrc N bs src sc it t = true) ∧ chkSs N bs cs sc a x = true := ⟨⟨h1, h2⟩, h3⟩
        exact ps_imp (ps_for ft.pass (ft.calm hr) (sSrc src ft.toFit h.1.2) (pg_of (cok := fun _ => true) ft.hN ft.nd ft.hsc (fun x _ => ft.fn x) (ft.calm hr) h.1.1) (sSs wn a ft h.2) (nofold (src_noSet h.1.2))) fun E σ H q => for_read q
      | cons _ _ => simp [chkS] at h
    | _ => simp [chkS] at h
  | .ret fz e, X, W, sc, st, ft, h => by
    cases st with
    | Return v pos =>
      cases v with
      | some v =>
        simp only [chkS] at h
        refine ps_imp (ps_ret (sE e ft.toFit h)) fun E σ H q => ?_
        obtain ⟨B0, A0, F, env, r, p⟩ := q
        unfold evS at p
        obtain ⟨F0, r0⟩ := r.frz (fz := fz)
        refine r0.aftE p fun x F' H' v e rv s p => ?_
        have rv := rv.nt e.s
        split at p
        · rename_i hz
          rw [hz] at rv
          exact p v F' H' s.ext rv
        · rename_i hz
          rw [hz] at rv
          exact p v F' H' s.ext (rv.back r0.ext.h)
        · rename_i hz
          rw [hz] at rv
          exact p v F' H' s.ext (rv.back r0.ext.h)
        · exact p.elim
      | none => simp [chkS] at h
    | _ => simp [chkS] at h
  | .rtv i, X, W, sc, st, ft, h => by
    cases st with
    | Return v pos =>
      cases v with
      | some v =>
        cases v with
        | Name x px =>
          simp only [chkS] at h
          refine ps_imp (ps_ret (ft.var h)) fun E σ H q => ?_
          obtain ⟨B0, A0, F, env, r, p⟩ := q
          unfold evS at p
          split at p
          · rename_i d hd
            obtain ⟨pa, hpa, rt⟩ := r.rel.own hd
            exact ⟨_, hpa, p _ F H r.ext ⟨pa, rfl, r.ra.ownA hd hpa, rt⟩⟩
          · rename_i d hd
            obtain ⟨v, hv, iv⟩ := r.rel.shs hd
            exact ⟨_, hv, p _ F H r.ext iv⟩
          · rename_i d hd
            obtain ⟨v, fp, hv, o, n⟩ := r.ra.ods hd
            exact ⟨_, hv, p _ F H r.ext ⟨fp, n, o⟩⟩
          · exact p.elim
        | _ => simp [chkS] at h
      | none => simp [chkS] at h
    | _ => simp [chkS] at h
  | .rtn, X, W, sc, st, ft, h => by
    cases st with
    | Return v pos =>
      cases v with
      | some v => simp [chkS] at h
      | none =>
        refine ps_imp ps_retN fun E σ H q => ?_
        obtain ⟨B0, A0, F, env, r, p⟩ := q
        unfold evS at p
        exact p .non F H r.ext (show Is X.K F .none .non by simp only [Is])
    | _ => simp [chkS] at h
  | .brk, X, W, sc, st, ft, h => by
    cases st with
    | Break pos => exact ps_imp ps_break fun E σ H ⟨B0, A0, F, env, r, p⟩ => (show Post X.K B0 A0 W E (.brk env) by unfold evS at p; exact p) _ _ _ r
    | _ => simp [chkS] at h
  | .cnt, X, W, sc, st, ft, h => by
    cases st with
    | Continue pos => exact ps_imp ps_continue fun E σ H ⟨B0, A0, F, env, r, p⟩ => (show Post X.K B0 A0 W E (.cnt env) by unfold evS at p; exact p) _ _ _ r
    | _ => simp [chkS] at h
  | .pas, X, W, sc, st, ft, h => by
    cases st with
    | Pass pos => exact ps_imp ps_pass fun E σ H ⟨B0, A0, F, env, r, p⟩ => (show Post X.K B0 A0 W E (.nx env) by unfold evS at p; exact p) _ _ _ r
    | _ => simp [chkS] at h
  | .rai c, X, W, sc, st, ft, h => by
    cases st with
    | Raise e cause pos =>
      cases cause with
      | none =>
        cases e with
        | some e =>
          have h0 : (decide (("range" : Str) ∈ bs) && chkR sc cs c e) = true := h
          clear h
          rw [Bool.and_eq_true] at h0
          obtain ⟨hr0, h⟩ := h0
          have hr := of_decide_eq_true hr0
          clear hr0
          cases e with
          | Call fn args kws pos =>
            cases fn with
            | Name x px =>
              match args, kws, h with
              | [y], [], h =>
                cases y with
                | Constant cc k p2 =>
                  cases cc with
                  | str m =>
                    simp only [chkS, chkR, Bool.and_eq_true, decide_eq_true_eq] at h
                    obtain ⟨⟨⟨rfl, h1⟩, h2⟩, h3⟩ := h
                    obtain ⟨C, hC⟩ := ft.gc.exs x h3
                    refine ps_imp (ps_raise (ft.calm hr) ft.tk (pmk_own PySem.F.excBase_ValueError hC.ex hC.mg hC.kp (raises_own hC.sb hC.ty) (ft.gl h1) (nm_of h2).1)) fun E σ H q => ?_
                    obtain ⟨B0, A0, F, env, r, p⟩ := q
                    unfold evS at p
                    exact ⟨rfl, x, hC.cr.symm, p _ _ _ r⟩
                  | _ => simp [chkS, chkR] at h
                | _ => simp [chkS, chkR] at h
              | [], _, h => simp [chkS, chkR] at h
              | [y], _ :: _, h => cases y <;> first | (cases h; done) | (rename_i cc _ _; cases cc <;> cases h)
              | y :: _ :: _, k, h => cases y <;> first | (cases h; done) | (rename_i cc _ _; cases cc <;> cases h)
            | _ => simp [chkS, chkR] at h
          | _ => simp [chkS, chkR] at h
        | none => cases h
      | some _ => cases e <;> cases h
    | _ => simp [chkS, chkR] at h
  | .asgO fz i e, X, W, sc, st, ft, h => sAsgO wn ft (by simpa only [chkS] using h)
  | .appO fz i e, X, W, sc, st, ft, h => sAppO wn ft (by simpa only [chkS] using h)
  | .rtp a i, X, W, sc, st, ft, h => sRtp wn ft (by simpa only [chkS] using h)
  | .appP i a j, X, W, sc, st, ft, h => sAppP wn ft (by simpa only [chkS] using h)
  | .mov i j, X, W, sc, st, ft, h => sMov wn ft (by simpa only [chkS] using h)
  | .movX i j e, X, W, sc, st, ft, h => sMovX wn ft (by simpa only [chkS] using h)
  | .appXO i k e, X, W, sc, st, ft, h => sAppXO wn ft (by simpa only [chkS] using h)
  | .lopX i j kk k c, X, W, sc, st, ft, h => sLopX wn ft (by simpa only [chkS] using h)
  | .setXX i k l e, X, W, sc, st, ft, h => sSetXX wn ft (by simpa only [chkS] using h)
  | .appX i k e, X, W, sc, st, ft, h => sAppX wn ft (by simpa only [chkS] using h)
  | .lopA i j k c, X, W, sc, st, ft, h => sLopA wn ft (by simpa only [chkS] using h)
  | .lopS i j k l e, X, W, sc, st, ft, h => sLopS wn ft (by simpa only [chkS] using h)
  | .ins fz i k e, X, W, sc, st, ft, h => sIns wn ft (by simpa only [chkS] using h)
  | .sda i k e, X, W, sc, st, ft, h => sSda wn ft (by simpa only [chkS] using h)
  | .appT i j, X, W, sc, st, ft, h => sAppT wn ft (by simpa only [chkS] using h)
  | .lopP fz i j e x c, X, W, sc, st, ft, h => sLopP wn ft (by simpa only [chkS] using h)
  | .chg i l e, X, W, sc, st, ft, h => sChg wn ft (by simpa only [chkS] using h)
  | .tryA i ks hs b, X, W, sc, st, ft, h => by
    cases st with
    | Try body hds els fin pos =>
      match body, els, fin, h with
      | [x], [], [], h =>
        simp only [chkS, Bool.and_eq_true, decide_eq_true_eq] at h
        obtain ⟨⟨⟨⟨h1, h2⟩, h3⟩, h4⟩, h5⟩ := h
        exact sTry wn ft h1 (fun c hc => of_decide_eq_true (List.all_eq_true.mp h2 c hc)) h3 h4 fun W' pn xe tk po => sS wn b { toFit := { gc := ft.gc, hN := ft.hN, nd := ft.nd, hsc := ft.hsc, calm := ft.calm, un := ft.un, rm := ft.rm, rp := ft.rp, gd := ft.gd, tk := tk }, fn := ft.fn, pass := po, stk := ft.stk, frm := ft.frm } h5
      | [], _, _, h => simp [chkS] at h
      | _ :: _ :: _, _, _, h => simp [chkS] at h
      | [_], _ :: _, _, h => simp [chkS] at h
      | [_], [], _ :: _, h => simp [chkS] at h
    | _ => simp [chkS] at h
  | .tryK y ks v b, X, W, sc, st, ft, h => by
    unfold chkS at h
    split at h
    all_goals (try contradiction)
    rename_i heq
    cases heq
    simp only [Bool.and_eq_true, decide_eq_true_eq] at h
    obtain ⟨⟨⟨⟨⟨⟨⟨h1, h2⟩, rfl⟩, h3⟩, h4⟩, h5⟩, rfl⟩, h6⟩ := h
    exact sTryK wn ft h1 (fun c hc => of_decide_eq_true (List.all_eq_true.mp h2 c hc)) h3 h4 h5 fun W' pn xe tk po => sS wn b { toFit := { gc := ft.gc, hN := ft.hN, nd := ft.nd, hsc := ft.hsc, calm := ft.calm, un := ft.un, rm := ft.rm, rp := ft.rp, gd := ft.gd, tk := tk }, fn := ft.fn, pass := po, stk := ft.stk, frm := ft.frm } h6
  | .rts f i, X, W, sc, st, ft, h => sRts wn ft (by simpa only [chkS] using h)
  | .rtc x j i a, X, W, sc, st, ft, h => sRtc wn ft (by simpa only [chkS] using h)
  | .apc e c, X, W, sc, st, ft, h => sApc wn ft (by simpa only [chkS] using h)
  | .alS i j c pl k q e, X, W, sc, st, ft, h => by
    simp only [chkS] at h
    cases h
termination_by x => sizeOf x
theorem sSs (wn : Nat) : ∀ (x : List Sx) {X : Cx} {W : Wd} {sc : Scope} {st : List Stmt}, SFit X W cref n G bs cs N sc → chkSs N bs cs sc x st = true → PSs X st (tSs X.K W G wn x)
  | [], X, W, sc, st, ft, h => by
    cases st with
    | nil => exact pss_imp pss_nil fun E σ H ⟨B0, A0, F, env, r, p⟩ => (show Post X.K B0 A0 W E (.nx env) by unfold evSs at p; exact p) _ _ _ r
    | cons _ _ => simp [chkSs] at h
  | s :: l, X, W, sc, st, ft, h => by
    cases st with
    | nil =>
      unfold chkSs at h
      split at h <;> cases h
    | cons a b =>
      unfold chkSs at h
      cases ha : alOf s with
      | some z =>
        obtain ⟨i, j, c, pl, k, q, e⟩ := z
        have hs := alOf_eq ha
        subst hs
        rw [ha] at h
        match b, h with
        | x2 :: x3 :: x4 :: xs, h =>
          simp only [Bool.and_eq_true] at h
          exact sAlS wn ft h.1 (sSs wn l ft h.2)
        | [], h => cases h
        | [_], h => cases h
        | [_, _], h => cases h
      | none =>
        rw [ha] at h
        simp only [Bool.and_eq_true] at h
        refine pss_imp (pss_cons (sS wn s ft h.1) (sSs wn l ft h.2)) fun E σ H ⟨B0, A0, F, env, r, p⟩ => ?_
        unfold evSs at p
        exact ⟨B0, A0, F, env, r, p.seq⟩
termination_by x => sizeOf x
end
end
end PV

/-! PvDef: a def keeps the promise that the reckoning of its body gives; the law's end. -/
namespace PV
open PySem PySem.Spec PyProof.Rows L2

section
variable {P : Program} {w : World} {K : PySem.W.Frag} {mg : Str → Option Value} {base : Heap} {cref : Str → Value} {G : Gam} {bs cs : List Str}
theorem FnG.mono {j k : Nat} {f : Addr} {fd : FuncData} {ps : List Str} {sp : Sp} (F : FnG P w K mg base j f fd ps sp) (h : j ≤ k) : FnG P w K mg base k f fd ps sp :=
  ⟨F.len, fun A outer s H args us vs Q E hr hg he hb hv hs => F.run A outer s H args us vs Q E (hr.mono h) hg he hb hv hs⟩
theorem GC.mono {j k : Nat} (g : GC P w K mg base cref j G bs cs) (h : j ≤ k) : GC P w K mg base cref k G bs cs :=
  ⟨g.blt, fun x e hn hx => by
    obtain ⟨f, fd, ps, h1, h2, h3, h4, h5⟩ := g.fns x e hn hx
    exact ⟨f, fd, ps, h1, h2, h3, h4.mono h, h5⟩, fun x k e hx => by
    obtain ⟨f, fd, ps, m, h1, h2, h3, h4, h5, h6⟩ := g.kwf x k e hx
    exact ⟨f, fd, ps, m, h1, h2, h3, h4.mono h, h5, h6⟩, g.exs, fun e hx => by
    obtain ⟨f, fd, h1, h2, h3, h4⟩ := g.chg e hx
    exact ⟨f, fd, h1, h2, h3, h4.mono h⟩, g.err, g.con, fun x e hx => by
    obtain ⟨f, fd, ps, dus, dvs, dds, g0, h1, h2, h3, h4, h5, h6, h7⟩ := g.dfl x e hx
    exact ⟨f, fd, ps, dus, dvs, dds, g0, h1, h2, h3, h4, h5, h6.mono h, h7⟩⟩
def Gam.none : Gam := fun _ => Option.none
def Gam.add (G : Gam) (x : Str) (g : List D → R TD) : Gam := fun y => if y = x then some g else G y
theorem GC.nil (h1 : ∀ x ∈ bs, mg x = none) (h2 : ∀ c ∈ cs, ∃ C, ExcC K mg cref c C) (h3 : ("!try" : Str) ∈ bs → ∀ c ∈ cs, ErrF K mg cref cs c) : GC P w K mg base cref 0 Gam.none bs cs := ⟨h1, fun x g _ h => (by cases h), fun x k g h => (by cases h), h2, fun g h => (by cases h), h3, fun x g h => (by cases h), fun x g h => (by cases h)⟩
theorem evDef_len {W sz k : Nat} {b : List Sx} (ds : List D) (h : evDef G W sz k b ds ≠ .stuck) : ds.length = k := by
  by_cases c : ds.length = k
  · exact c
  · unfold evDef at h
    rw [if_pos c] at h
    exact absurd rfl h
theorem GC.add {k : Nat} {x : Str} {g : List D → R TD} {f : Addr} {fd : FuncData} {ps : List Str} (gc : GC P w K mg base cref k G bs cs) (h1 : mg x = some (.ref f)) (h2 : PySem.W.keepIn K (.ref f) = true) (h3 : Binds K fd ps [])
    (h4 : FnG P w K mg base k f fd ps (spD K cref ps.length g)) (h5 : ∀ ds, g ds ≠ .stuck → ds.length = ps.length) (hx : bang x = false := by decide +kernel) : GC P w K mg base cref k (G.add x g) bs cs := by
  refine ⟨gc.blt, fun y e hn he => ?_, fun y z e he => gc.kwf y z e (by unfold Gam.add at he; rwa [if_neg (fun q => by rw [← q, bang_kwn] at hx; cases hx)] at he), gc.exs, fun e he => gc.chg e (by unfold Gam.add at he; rwa [if_neg (fun z => by rw [← z] at hx; exact absurd hx (by decide +kernel))] at he), gc.err,
    fun y e he => gc.con y e (by unfold Gam.add at he; rwa [if_neg (fun z => by rw [← z, bang_cgn] at hx; cases hx)] at he), fun y e he => gc.dfl y e (by unfold Gam.add at he; rwa [if_neg (fun z => by rw [← z, bang_dfn] at hx; cases hx)] at he)⟩
  unfold Gam.add at he
  by_cases c : y = x
  · subst c
    rw [if_pos rfl] at he
    cases he
    exact ⟨f, fd, ps, h1, h2, h3, h4, h5⟩
  · rw [if_neg c] at he
    exact gc.fns y e hn he
theorem ne_chg (x k : Str) : kwn x k ≠ "!changed" := fun h => by
  have := congrArg (fun s : Str => s.cps.toList) h
  have e : (("!changed" : Str).cps.toList) = [33, 99, 104, 97, 110, 103, 101, 100] := by decide +kernel
  have this : (kwn x k).cps.toList = (("!changed" : Str).cps.toList) := this
  rw [e] at this
  have t2 : 33 :: x.cps.size :: (x.cps.toList ++ k.cps.toList) = [33, 99, 104, 97, 110, 103, 101, 100] := by simpa [kwn] using this
  obtain ⟨h1, h2⟩ := List.cons.inj (List.cons.inj t2).2
  have h3 := congrArg List.length h2
  rw [List.length_append, Array.length_toList, h1] at h3
  simp at h3
  omega
theorem GC.addChg {k : Nat} {f : Addr} {fd : FuncData} (gc : GC P w K mg base cref k G bs cs) (h1 : mg "changed" = some (.ref f)) (h2 : PySem.W.keepIn K (.ref f) = true) (h3 : Binds K fd ["counts", "place", "change"] [])
    (h4 : FnG P w K mg base k f fd ["counts", "place", "change"] spCh) : GC P w K mg base cref k (G.add "!changed" fun _ => .stuck) bs cs :=
  ⟨gc.blt, fun y e hn he => gc.fns y e hn (by unfold Gam.add at he; rwa [if_neg (fun z => by rw [z] at hn; exact absurd hn (by decide +kernel))] at he), fun y z e he => gc.kwf y z e (by unfold Gam.add at he; rwa [if_neg (ne_chg y z)] at he), gc.exs, fun _ _ => ⟨f, fd, h1, h2, h3, h4⟩, gc.err, fun y e he => gc.con y e (by unfold Gam.add at he; rwa [if_neg cgn_chg] at he), fun y e he => gc.dfl y e (by unfold Gam.add at he; rwa [if_neg dfn_chg] at he)⟩
theorem kbn_of {x qual : Str} {st : Stmt} {f : Addr} {fd : FuncData} {ps : List Str} {m : Nat} {k : Str} (F : L2.Fun K x qual st f fd)
    (h : ∀ (kV doc pm : Value) (an : Option Addr) (cdv ct : Value) (us ws : List Value), us.length = m → ws.length = 1 → bindArgs (PySem.W.fnOf x qual (defArgs st) (defBody st) (defScope st) .none kV doc pm an cdv ct) ⟨us, [k].zip ws⟩ = pure (ps.zip (us ++ ws))) :
    KBn K fd ps m [k] (fun us ws => us ++ ws) (fun vs zs => vs ++ zs) := by
  obtain ⟨oc, od, kV, doc, pm, an, cdv, ct, osl, rfl, lk, hcd⟩ := F.ex
  exact ⟨fun s us ws _ h1 h2 => .of_eq (h kV doc pm an cdv ct us ws h1 h2), fun r z => r.append z⟩
/-- a def whose last parameter is given by its name -/
theorem GC.addK {lv m : Nat} {x k : Str} {g : List D → R TD} {f : Addr} {fd : FuncData} {ps : List Str} (gc : GC P w K mg base cref lv G bs cs) (h1 : mg x = some (.ref f)) (h2 : PySem.W.keepIn K (.ref f) = true) (h3 : KBn K fd ps m [k] (fun us ws => us ++ ws) (fun vs zs => vs ++ zs))
    (h4 : FnG P w K mg base lv f fd ps (spD K cref ps.length g)) (h5 : ∀ ds, g ds ≠ .stuck → ds.length = ps.length) (h6 : m + 1 = ps.length) : GC P w K mg base cref lv (G.add (kwn x k) g) bs cs := by
  refine ⟨gc.blt, fun y e hn he => gc.fns y e hn (by unfold Gam.add at he; rwa [if_neg (fun z => by rw [z, bang_kwn] at hn; cases hn)] at he), fun y z e he => ?_, gc.exs, fun e he => gc.chg e (by unfold Gam.add at he; rwa [if_neg (fun z => ne_chg x k z.symm)] at he), gc.err, fun y e he => gc.con y e (by unfold Gam.add at he; rwa [if_neg cgn_kwn] at he), fun y e he => gc.dfl y e (by unfold Gam.add at he; rwa [if_neg dfn_kwn] at he)⟩
  unfold Gam.add at he
  by_cases c : kwn y z = kwn x k
  · obtain ⟨rfl, rfl⟩ := kwn_inj c
    rw [if_pos rfl] at he
    cases he
    exact ⟨f, fd, ps, m, h1, h2, h3, h4, h5, h6⟩
  · rw [if_neg c] at he
    exact gc.kwf y z e he
/-- a constant of the module -/
theorem GC.addC {lv : Nat} {x : Str} {d : D} {u : Value} {v : V} (gc : GC P w K mg base cref lv G bs cs) (h1 : mg x = some u) (h2 : RelV v u) (h3 : ∀ H, Is K H d v) : GC P w K mg base cref lv (G.add (cgn x) fun _ => .ok (.sh, d)) bs cs := by
  refine ⟨gc.blt, fun y e hn he => gc.fns y e hn (by unfold Gam.add at he; rwa [if_neg (fun z => by rw [z, bang_cgn] at hn; cases hn)] at he), fun y z e he => gc.kwf y z e (by unfold Gam.add at he; rwa [if_neg (fun q => cgn_kwn q.symm)] at he), gc.exs, fun e he => gc.chg e (by unfold Gam.add at he; rwa [if_neg (fun z => cgn_chg z.symm)] at he), gc.err, fun y e he => ?_, fun y e he => gc.dfl y e (by unfold Gam.add at he; rwa [if_neg (fun z => cgn_dfn z.symm)] at he)⟩
  unfold Gam.add at he
  by_cases c : cgn y = cgn x
  · rw [if_pos c] at he
    cases he
    rw [cgn_inj c]
    exact ⟨d, u, v, rfl, h1, h2, h3⟩
  · rw [if_neg c] at he
    exact gc.con y e he
/-- a def that may be called without its last parameter, which has a default -/
theorem GC.addD {lv : Nat} {x : Str} {g : List D → R TD} {f : Addr} {fd : FuncData} {ps : List Str} {dus : List Value} {dvs : List V} {dds : List D} (gc : GC P w K mg base cref lv G bs cs) (h1 : mg x = some (.ref f)) (h2 : PySem.W.keepIn K (.ref f) = true) (h3 : Binds K fd ps dus) (h3b : Vals dvs dus) (h3c : ∀ H, IsL K H dds dvs)
    (h4 : FnG P w K mg base lv f fd ps (spD K cref ps.length g)) (h5 : ∀ ds, g ds ≠ .stuck → ds.length = ps.length) : GC P w K mg base cref lv (G.add (dfn x) fun ds => g (ds ++ dds)) bs cs := by
  refine ⟨gc.blt, fun y e hn he => gc.fns y e hn (by unfold Gam.add at he; rwa [if_neg (fun z => by rw [z, bang_dfn] at hn; cases hn)] at he), fun y z e he => gc.kwf y z e (by unfold Gam.add at he; rwa [if_neg (fun q => dfn_kwn q.symm)] at he), gc.exs, fun e he => gc.chg e (by unfold Gam.add at he; rwa [if_neg (fun z => dfn_chg z.symm)] at he), gc.err, fun y e he => gc.con y e (by unfold Gam.add at he; rwa [if_neg cgn_dfn] at he), fun y e he => ?_⟩
  unfold Gam.add at he
  by_cases c : dfn y = dfn x
  · rw [if_pos c] at he
    cases he
    rw [dfn_inj c]
    exact ⟨f, fd, ps, dus, dvs, dds, g, h1, h2, h3, h3b, h3c, h4, fun _ => rfl, h5⟩
  · rw [if_neg c] at he
    exact gc.dfl y e he
theorem rel_start {F H : Hp} {N : List Str} {vs : List V} {ds : List D} {sz : Nat} (s : Same F H) (h : IsL K F ds vs) (hs : N.length = sz) : SRel K F H F H (L2.start N vs) (ds.map Slot.sh ++ List.replicate (sz - ds.length) Slot.no) := by
  have hl := h.len
  have sl : ∀ (i : Nat) (o : Slot), (ds.map Slot.sh ++ List.replicate (sz - ds.length) Slot.no)[i]? = some o → o = .no ∨ ∃ d, o = .sh d ∧ ds[i]? = some d := fun i o e => by
    by_cases c : i < ds.length
    · rw [List.getElem?_append_left (by simpa using c), List.getElem?_map, List.getElem?_eq_getElem c] at e
      cases e
      exact .inr ⟨_, rfl, List.getElem?_eq_getElem c⟩
    · rw [List.getElem?_append_right (by simpa using c), List.getElem?_replicate] at e
      split at e
      · cases e
        exact .inl rfl
      · cases e
  have no : ∀ (i : Nat) (d : D), (ds.map Slot.sh ++ List.replicate (sz - ds.length) Slot.no)[i]? ≠ some (.ow d) := fun i d e => by
    rcases sl i _ e with z | ⟨_, z, _⟩ <;> cases z
  refine ⟨⟨s, ?_, fun _ => [], fun i o e => ?_, (fun i j _ _ _ a z => by cases z), fun i _ a z => by cases z⟩, Ext.refl s⟩
  · unfold L2.start
    rw [List.length_append, List.length_append, List.length_map, List.length_map, List.length_replicate, List.length_replicate, hs, hl]
  · rcases sl i o e with rfl | ⟨d, rfl, hd⟩
    · rfl
    · obtain ⟨v, hv, iv⟩ := h.get hd
      refine ⟨rfl, v, ?_, iv⟩
      have hi : i < vs.length := (List.getElem?_eq_some_iff.mp hv).1
      unfold L2.start
      rw [List.getElem?_append_left (by simpa using hi), List.getElem?_map, hv]
      rfl
/-- a def by the rules of its body -/
theorem def_run {k : Nat} {f : Addr} {x qual : Str} {st : Stmt} {fd : FuncData} {N ps : List Str} {sp : Sp} (F : L2.Fun K x qual st f fd) (S : FnScope N ps (defScope st)) (gc : GC P w K mg base cref k G bs cs) (hsp0 : ∀ vs H Q E, sp vs H Q E → vs.length = ps.length)
    (go : ∀ (X : Cx) (E : XK), SFit X (fun c _ H => E (cref c) none H) cref k G bs cs N (defScope st) → X.K = K → ∃ t : TS, PSs X (defBody st) t ∧ ∀ vs H Q, sp vs H Q E → t { nx := fun _ H' => Q .non H', rt := Q } (L2.start N vs) H) : FnG P w K mg base (k + 1) f fd ps sp := by
  obtain ⟨oc, od, kV, doc, pm, an, cdv, ct, osl, rfl, lk, hcd⟩ := F.ex
  refine ⟨hsp0, fun A outer s H args us vs Q E hr hg env hb r hsp => ?_⟩
  have keepB := fun b o e => (env.bs b o e).1
  have KX := env.mod.kin.keeps keepB
  have noL := env.mod.nolimit.keeps keepB
  refine codeAny_call_function hr.depth (KX _ _ lk) rfl S.co S.gen rfl (PySem.W.codeRec_of KX hcd) (hb _ _ _ _ ?_)
  have kinds : ∀ y ∈ ps.zip us, (defScope st).names.lookup y.1 = some .local ∨ ((defScope st).names.lookup y.1 = some .cell ∧ ((cellsFrom (s.heap.objs.size + 1) (defScope st).names []).lookup y.1).isSome = true) := by
    intro y hy
    obtain ⟨n, v⟩ := y
    exact (S.par n (List.of_mem_zip hy).1).imp id fun q => ⟨q, PySem.W.cellsFrom_some _ _ _ (.inl q)⟩
  refine wpAny_newFunctionEnv_cells S.kind kinds fun ev1 he s1 fresh => ?_
  subst he
  refine ⟨noL.keeps fresh.toInCall.keep, codeAny_func ?_⟩
  have hl := hsp0 _ _ _ _ hsp
  have I0 := inv_start (CX := L2.CX P w) (E := E) S hr.hd env hl r fresh
  generalize hX : cxOf (L2.CX P w) P w K mg base N qual (defScope st) f cdv A outer s H E = X at I0
  have fit : SFit X (fun c σ H => E (cref c) none H) cref k G bs cs N (defScope st) := by
    subst hX
    exact { gc := gc, hN := rfl, nd := S.nd, hsc := rfl, calm := fun _ => rfl, un := (by have := (hr.deeper (envOfC qual (defScope st) s.heap.objs.size f cdv)).un; show (A.deeper (envOfC qual (defScope st) s.heap.objs.size f cdv)).units + 65 < cLine; omega), rm := fun _ => room_s hr _, rp := fun _ => (by have := (hr.deeper (envOfC qual (defScope st) s.heap.objs.size f cdv)).un; show (A.deeper (envOfC qual (defScope st) s.heap.objs.size f cdv)).units + 190 < cLine; omega), gd := hg, fn := fun _ => rfl, pass := passes_of rfl, stk := rfl, frm := rfl,
            tk := (takes_of rfl rfl rfl rfl).imp fun c d σ H q => by obtain ⟨rfl, c, rfl, z⟩ := q; exact z }
  have hK : X.K = K := by subst hX; rfl
  obtain ⟨t, body, tk⟩ := go X E fit hK
  have want := tk vs H Q hsp
  have run := body.run [] s1 (L2.start N vs) H _ I0 want
  subst hX
  refine wpAny_mono run (fun fl s' hs => ?_) fun e s' hs => hs
  match fl, hs with
  | .ret u, hs =>
    obtain ⟨v, σ', H', J, rv, q⟩ := hs
    exact ⟨v, H', J.os, J.bare, J.base, J.hok, rv, q⟩
  | .next, hs =>
    obtain ⟨σ', H', J, q⟩ := hs
    exact ⟨V.non, H', J.os, J.bare, J.base, J.hok, rfl, q⟩
  | .brk, hs =>
    obtain ⟨_, _, _, q⟩ := hs
    exact q.elim
  | .cont, hs =>
    obtain ⟨_, _, _, q⟩ := hs
    exact q.elim
/-- THE RULE for a def -/
theorem def_ok {k wn : Nat} {f : Addr} {x qual : Str} {st : Stmt} {fd : FuncData} {N ps : List Str} {b : List Sx} (F : L2.Fun K x qual st f fd) (S : FnScope N ps (defScope st)) (gc : GC P w K mg base cref k G bs cs)
    (ch : chkSs N bs cs (defScope st) b (defBody st) = true) : FnG P w K mg base (k + 1) f fd ps (spD K cref ps.length (evDef G wn N.length ps.length b)) := by
  obtain ⟨oc, od, kV, doc, pm, an, cdv, ct, osl, rfl, lk, hcd⟩ := F.ex
  refine ⟨fun vs H Q E h => h.1, fun A outer s H args us vs Q E hr hg env hb r hsp => ?_⟩
  have keepB := fun b o e => (env.bs b o e).1
  have KX := env.mod.kin.keeps keepB
  have noL := env.mod.nolimit.keeps keepB
  refine codeAny_call_function hr.depth (KX _ _ lk) rfl S.co S.gen rfl (PySem.W.codeRec_of KX hcd) (hb _ _ _ _ ?_)
  have kinds : ∀ y ∈ ps.zip us, (defScope st).names.lookup y.1 = some .local ∨ ((defScope st).names.lookup y.1 = some .cell ∧ ((cellsFrom (s.heap.objs.size + 1) (defScope st).names []).lookup y.1).isSome = true) := by
    intro y hy
    obtain ⟨n, v⟩ := y
    exact (S.par n (List.of_mem_zip hy).1).imp id fun q => ⟨q, PySem.W.cellsFrom_some _ _ _ (.inl q)⟩
  refine wpAny_newFunctionEnv_cells S.kind kinds fun ev1 he s1 fresh => ?_
  subst he
  refine ⟨noL.keeps fresh.toInCall.keep, codeAny_func ?_⟩
  obtain ⟨hl, F0, ds, sm, is, hm⟩ := hsp
  have I0 := inv_start (CX := L2.CX P w) (E := E) S hr.hd env hl r fresh
  generalize hX : cxOf (L2.CX P w) P w K mg base N qual (defScope st) f cdv A outer s H E = X at I0
  have fit : SFit X (fun c σ H => E (cref c) none H) cref k G bs cs N (defScope st) := by
    subst hX
    exact { gc := gc, hN := rfl, nd := S.nd, hsc := rfl, calm := fun _ => rfl, un := (by have := (hr.deeper (envOfC qual (defScope st) s.heap.objs.size f cdv)).un; show (A.deeper (envOfC qual (defScope st) s.heap.objs.size f cdv)).units + 65 < cLine; omega), rm := fun _ => room_s hr _, rp := fun _ => (by have := (hr.deeper (envOfC qual (defScope st) s.heap.objs.size f cdv)).un; show (A.deeper (envOfC qual (defScope st) s.heap.objs.size f cdv)).units + 190 < cLine; omega), gd := hg, fn := fun _ => rfl, pass := passes_of rfl, stk := rfl, frm := rfl,
            tk := (takes_of rfl rfl rfl rfl).imp fun c d σ H q => by obtain ⟨rfl, c, rfl, z⟩ := q; exact z }
  have body := sSs wn b fit ch
  have hK : X.K = K := by subst hX; rfl
  have dl : ds.length = ps.length := is.len.symm.trans hl
  have want : tSs X.K (fun c σ H => E (cref c) none H) G wn b { nx := fun _ H' => Q .non H', rt := Q } (L2.start N vs) H := by
    rw [hK]
    refine ⟨F0, H, F0, _, rel_start sm is rfl, ?_⟩
    unfold evDef at hm
    rw [if_neg (fun z => z dl)] at hm
    cases ho : evSs G wn b (ds.map Slot.sh ++ List.replicate (N.length - ds.length) Slot.no) with
    | nx e =>
      rw [ho] at hm
      exact fun σ F' H' q => hm .non F' H' q.ext (show Is K F' .none .non by simp only [Is])
    | brk e => rw [ho] at hm; exact (show False from hm).elim
    | cnt e => rw [ho] at hm; exact (show False from hm).elim
    | exc c e =>
      rw [ho] at hm
      exact fun σ F' H' q => hm F' H' q.ext
    | stuck => rw [ho] at hm; exact hm
    | ret t d =>
      rw [ho] at hm
      cases t with
      | sh => exact fun v F' H' e q => hm v F' H' e q
      | ow => exact fun v F' H' e q => hm v F' H' e q
      | tr => exact fun v F' H' e q => hm v F' H' e q
      | pk => exact (show False from hm).elim
      | rt => exact (show False from hm).elim
  have run := body.run [] s1 (L2.start N vs) H _ I0 want
  subst hX
  refine wpAny_mono run (fun fl s' hs => ?_) fun e s' hs => hs
  match fl, hs with
  | .ret u, hs =>
    obtain ⟨v, σ', H', J, rv, q⟩ := hs
    exact ⟨v, H', J.os, J.bare, J.base, J.hok, rv, q⟩
  | .next, hs =>
    obtain ⟨σ', H', J, q⟩ := hs
    exact ⟨V.non, H', J.os, J.bare, J.base, J.hok, rfl, q⟩
  | .brk, hs =>
    obtain ⟨_, _, _, q⟩ := hs
    exact q.elim
  | .cont, hs =>
    obtain ⟨_, _, _, q⟩ := hs
    exact q.elim
theorem chg_ok {k : Nat} {f : Addr} {qual : Str} {st : Stmt} {fd : FuncData} (F : L2.Fun K "changed" qual st f fd) (S : FnScope ["counts", "place", "change"] ["counts", "place", "change"] (defScope st)) (gc : GC P w K mg base cref k G bs cs)
    (hv : (["counts", "place", "change"] : List Str).all (fun x => visB (defScope st) x) = true) (ht : isChg (defBody st) = true) : FnG P w K mg base (k + 1) f fd ["counts", "place", "change"] spCh := by
  refine def_run F S gc (fun vs H Q E ⟨p, xs, k, c, j, v, e, _⟩ => by rw [e]; rfl) fun X E ft hK => ?_
  simp only [List.all_cons, List.all_nil, Bool.and_true, Bool.and_eq_true] at hv
  generalize defBody st = body at ht
  unfold isChg at ht
  split at ht
  case h_2 => cases ht
  simp only [Bool.and_eq_true, decide_eq_true_eq] at ht
  obtain ⟨⟨⟨⟨rfl, rfl⟩, rfl⟩, rfl⟩, rfl⟩ := ht
  have p0 : ∀ {pos : Pos}, PE X (.Name "counts" pos) (tVar 0) := fun {pos} => ft.nm rfl hv.1 (by decide)
  have p1 : ∀ {pos : Pos}, PE X (.Name "place" pos) (tVar 1) := fun {pos} => ft.nm rfl hv.2.1 (by decide)
  have p2 : ∀ {pos : Pos}, PE X (.Name "change" pos) (tVar 2) := fun {pos} => ft.nm rfl hv.2.2 (by decide)
  refine ⟨_, pss_one (ps_if (pt_cmpR (op_cmp ft.un .isn) (pe_ix ix_seq p0 p1 (plainIx_of rfl)) pe_non rfl) (pss_one (ps_augS p0 p1 get_listO p2 ip_add set_list (fun _ _ _ => rfl))) pss_nil), fun vs H Q h => ?_⟩
  obtain ⟨p, xs, k2, c, j, v, rfl, hp, hj, hx, hq⟩ := h
  have s0 : (L2.start ["counts", "place", "change"] [V.ref p, .int k2, .int c])[0]? = some (some (.ref p)) := rfl
  have s1 : (L2.start ["counts", "place", "change"] [V.ref p, .int k2, .int c])[1]? = some (some (.int k2)) := rfl
  have s2 : (L2.start ["counts", "place", "change"] [V.ref p, .int k2, .int c])[2]? = some (some (.int c)) := rfl
  have at_ : atI xs k2 = some v := by
    unfold atI
    rw [hj]
    exact hx
  refine ⟨_, s0, _, s1, .inl ⟨p, xs, k2, v, rfl, rfl, (LL.of (K := X.K) hp).seq, at_, ?_⟩⟩
  rcases hq with ⟨rfl, q⟩ | ⟨m, rfl, q⟩
  · exact ⟨.none, .none, false, by simp only [Is], by simp only [Is], rfl, false, rfl, iteF q⟩
  · exact ⟨.int m, .none, true, by simp only [Is], by simp only [Is], rfl, true, rfl, iteT ⟨_, s0, _, s1, p, xs, k2, j, _, rfl, rfl, hp, hj, hx, _, s2, m, c, rfl, rfl, p, xs, k2, j, rfl, rfl, hp, hj, q⟩⟩
end

/-- a def that calls itself, at most so deep -/
def gRec (G : Gam) (x : Str) (W sz k : Nat) (b : List Sx) : Nat → List D → R TD
  | 0 => fun _ => .stuck
  | n + 1 => evDef (G.add x (gRec G x W sz k b n)) W sz k b
theorem gRec_len {G : Gam} {x : Str} {W sz k : Nat} {b : List Sx} : ∀ {n : Nat} (ds : List D), gRec G x W sz k b n ds ≠ .stuck → ds.length = k
  | 0, _, h => absurd rfl h
  | _ + 1, ds, h => evDef_len ds h
theorem rec_ok {P : Program} {w : World} {K : PySem.W.Frag} {mg : Str → Option Value} {base : Heap} {cref : Str → Value} {G : Gam} {bs cs : List Str} {j wn : Nat} {f : Addr} {x qual : Str} {st : Stmt} {fd : FuncData} {N ps : List Str} {b : List Sx}
    (F : L2.Fun K x qual st f fd) (S : FnScope N ps (defScope st)) (gc : GC P w K mg base cref j G bs cs) (ch : chkSs N bs cs (defScope st) b (defBody st) = true) (h1 : mg x = some (.ref f)) (h2 : PySem.W.keepIn K (.ref f) = true) (h3 : Binds K fd ps []) (hx : bang x = false := by decide +kernel) :
    ∀ n : Nat, FnG P w K mg base (j + n) f fd ps (spD K cref ps.length (gRec G x wn N.length ps.length b n))
  | 0 => ⟨fun vs H Q E h => h.1, fun A outer s H args us vs Q E _ _ _ _ _ hsp => by
      obtain ⟨_, _, _, _, _, z⟩ := hsp
      exact z.elim⟩
  | n + 1 => by
    have ih := rec_ok (wn := wn) F S gc ch h1 h2 h3 hx n
    exact def_ok F S ((gc.mono (Nat.le_add_right j n)).add h1 h2 h3 ih (fun ds h => gRec_len ds h) hx) ch
/-- defs that call each other, at most so deep -/
def gmG (G : Gam) (W : Nat) (ds : List (Str × Nat × Nat × List Sx)) : Nat → Gam
  | 0 => ds.foldl (fun H d => H.add d.1 fun _ => .stuck) G
  | n + 1 => ds.foldl (fun H d => H.add d.1 (evDef (gmG G W ds n) W d.2.1 d.2.2.1 d.2.2.2)) G
/-- what is known of one of them -/
structure MutD (P : Program) (w : World) (K : PySem.W.Frag) (mg : Str → Option Value) (base : Heap) (cref : Str → Value) (bs cs : List Str) (d : Str × Nat × Nat × List Sx) : Prop where
  ex : ∃ (f : Addr) (x qual : Str) (st : Stmt) (fd : FuncData) (N ps : List Str), L2.Fun K x qual st f fd ∧ FnScope N ps (defScope st) ∧ chkSs N bs cs (defScope st) d.2.2.2 (defBody st) = true ∧ mg d.1 = some (.ref f) ∧ PySem.W.keepIn K (.ref f) = true ∧ Binds K fd ps [] ∧ bang d.1 = false ∧ d.2.1 = N.length ∧ d.2.2.1 = ps.length
theorem mut_fold {P : Program} {w : World} {K : PySem.W.Frag} {mg : Str → Option Value} {base : Heap} {cref : Str → Value} {bs cs : List Str} {j : Nat} {g : Str × Nat × Nat × List Sx → List D → R TD} : ∀ (ds : List (Str × Nat × Nat × List Sx)) {G : Gam}, GC P w K mg base cref j G bs cs →
    (∀ d ∈ ds, ∃ (f : Addr) (fd : FuncData) (ps : List Str), mg d.1 = some (.ref f) ∧ PySem.W.keepIn K (.ref f) = true ∧ Binds K fd ps [] ∧ FnG P w K mg base j f fd ps (spD K cref ps.length (g d)) ∧ (∀ vs, g d vs ≠ .stuck → vs.length = ps.length) ∧ bang d.1 = false) →
    GC P w K mg base cref j (ds.foldl (fun H d => H.add d.1 (g d)) G) bs cs
  | [], G, gc, _ => gc
  | d :: ds, G, gc, h => by
    obtain ⟨f, fd, ps, h1, h2, h3, h4, h5, h6⟩ := h d List.mem_cons_self
    exact mut_fold ds (gc.add h1 h2 h3 h4 h5 h6) fun d hd => h d (List.mem_cons_of_mem _ hd)
theorem mut_ok {P : Program} {w : World} {K : PySem.W.Frag} {mg : Str → Option Value} {base : Heap} {cref : Str → Value} {G : Gam} {bs cs : List Str} {j wn : Nat} {ds : List (Str × Nat × Nat × List Sx)} (gc : GC P w K mg base cref j G bs cs) (h : ∀ d ∈ ds, MutD P w K mg base cref bs cs d) :
    ∀ n : Nat, GC P w K mg base cref (j + n) (gmG G wn ds n) bs cs
  | 0 => by
    refine mut_fold (g := fun _ _ => R.stuck) ds gc fun d hd => ?_
    obtain ⟨f, x, qual, st, fd, N, ps, h1, h2, h3, h4, h5, h6, h7, h8, h9⟩ := (h d hd).ex
    exact ⟨f, fd, ps, h4, h5, h6, ⟨fun vs H Q E h => h.1, fun A outer s H args us vs Q E _ _ _ _ _ hsp => by
      obtain ⟨_, _, _, _, _, z⟩ := hsp
      exact z.elim⟩, fun vs z => absurd rfl z, h7⟩
  | n + 1 => by
    have ih := mut_ok (wn := wn) gc h n
    refine mut_fold (g := fun d => evDef (gmG G wn ds n) wn d.2.1 d.2.2.1 d.2.2.2) ds (gc.mono (Nat.le_add_right j (n + 1))) fun d hd => ?_
    obtain ⟨f, x, qual, st, fd, N, ps, h1, h2, h3, h4, h5, h6, h7, h8, h9⟩ := (h d hd).ex
    have := def_ok (wn := wn) h1 h2 ih h3
    rw [← h8, ← h9] at this
    refine ⟨f, fd, ps, h4, h5, h6, by rw [← h9]; exact this, fun vs z => by rw [← h9]; exact evDef_len vs z, h7⟩
/-! ### the law's end -/
/-- the script stands in the heap, tracked under lock or as an object of the module: nothing else is tracked -/
def ScrH (K : PySem.W.Frag) (H : Hp) (h : Heap) (a : Addr) : Prop := (∀ b u, H b = some u → b = a ∧ K.lookup a = none ∧ ∃ o xs, u = .frz o (.lst xs) ∧ h.get? a = some o)
theorem law_run {P : Program} {w : World} {K : PySem.W.Frag} {mg mb : Str → Option Value} {k : Nat} {fa a : Addr} {fd : FuncData} {x : Str} {cref : Str → Value} {g : List D → R TD} {s₁ : Shared} {vs : List Value} {ns : List Int}
    (KX : K.In s₁.heap) (hns : s₁.heap.Ns mainGlobals mg) (hb : s₁.heap.Ns builtinsNs mb) (hbb : ∀ x : Str, x ≠ "__name__" → mb x = bootBuiltins x) (hlim : s₁.heap.NoLimit) (hg : s₁.gens = #[])
    (ha : s₁.heap.get? a = some { cls := .type "list", data := .seq vs.toArray }) (hi : IntsAre vs ns) (hl : ns.length ≤ sizeLine) (hr : Room k callerA)
    (F : ∀ base : Heap, K.In base → base.Ns mainGlobals mg → FnG P w K mg base k fa fd [x] (spD K cref 1 g)) (hbind : ∀ (s : Shared) (u : Value), BindsTo s fd ⟨[u], []⟩ [(x, u)])
    (hgv : g [.list (ns.map .int)] = .ok (.sh, .bool true)) :
    codeAny (model P w) callerA (.call (.ref fa) ⟨[.ref a], []⟩) (fun r s' => r = .ok (.ret (.bool true)) ∧ OldK s₁.heap s'.heap ∧ s'.os = s₁.os ∧ AllBare s'.gens) s₁ := by
  have rv := vals_ints hi
  have go : ∀ H : Hp, ScrH K H s₁.heap a → LL K H a (ns.map V.int) → HOk P w H s₁.heap →
      codeAny (model P w) callerA (.call (.ref fa) ⟨[.ref a], []⟩) (fun r s' => r = .ok (.ret (.bool true)) ∧ OldK s₁.heap s'.heap ∧ s'.os = s₁.os ∧ AllBare s'.gens) s₁ := by
    intro H hS hL hok
    have only : ∀ {b : Addr}, b ≠ a → H b = none := fun {b} n => by
      cases q : H b with
      | none => rfl
      | some u => exact absurd (hS b u q).1 n
    have under : ∀ {b : Addr} {m : Str → Option Value}, s₁.heap.Ns b m → (hidT s₁.heap H).Ns b m := fun {b m} n => by
      obtain ⟨o, es, ep, e, d, r⟩ := n
      refine ⟨o, es, ep, hidT_get e (only fun z => ?_), d, r⟩
      rw [z, ha] at e
      cases e
      cases d
    have KB : K.In (hidT s₁.heap H) := fun b o e => hidT_get (KX b o e) (by
      cases q : H b with
      | none => rfl
      | some u =>
        obtain ⟨z, n, _⟩ := hS b u q
        rw [z, n] at e
        cases e)
    obtain ⟨mc, l1, l2⟩ := hlim
    have start : Env0 P w K mg (hidT s₁.heap H) callerA [] s₁ H :=
      ⟨rfl, ⟨KB, under hns, ⟨mb, under hb, hbb⟩, ⟨mc, under l1, l2⟩⟩, fun b o e => of_hidT e, Nat.le_of_eq (hidT_size _ _), trivial, fun b hb => absurd (show b ∈ ([] : List Addr) from hb) List.not_mem_nil, hok, .of_eq hg⟩
    have want : spD K cref 1 g [.ref a] H (fun v _ => v = .bl true) fun _ _ _ => False := by
      refine ⟨rfl, H, [.list (ns.map .int)], Same.refl _, .cons ?_ .nil, ?_⟩
      · simp only [Is]
        exact ⟨a, _, rfl, hL, ints_isL ns⟩
      · rw [hgv]
        exact fun v F' H' _ q => is_bool (K := K) (H := F') q
    refine codeAny_mono ((F _ KB (under hns)).run callerA [] s₁ H ⟨[.ref a], []⟩ [.ref a] [.ref a] _ _ hr rfl start (hbind s₁ (.ref a)) (.cons rfl .nil) want) fun res s' q => ?_
    match res, q with
    | .error e, q =>
      obtain ⟨_, _, _, _, _, _, _, _, _, _, _, _, z⟩ := q
      exact z.elim
    | .ok .next, q => exact False.elim q
    | .ok .brk, q => exact False.elim q
    | .ok .cont, q => exact False.elim q
    | .ok (.ret u), q =>
      obtain ⟨v, H', os, bare, un, hok', r', hv⟩ := q
      have hv' : v = .bl true := hv
      subst hv'
      obtain rfl : u = Value.bool true := r'
      refine ⟨rfl, OldK.of_keep fun b o e => ?_, os, bare⟩
      cases q : H b with
      | none => exact un.keep b o e q (fun z => absurd (show b ∈ ([] : List Addr) from z) List.not_mem_nil) (by simp)
      | some u =>
        obtain ⟨z1, z2, ob, xs, rfl, z4⟩ := hS b u q
        subst z1
        rw [e] at z4
        cases z4
        exact (hok' b _ (un.frzs b o _ q)).1
  cases hk : K.lookup a with
  | some o =>
    have e := KX a o hk
    rw [ha] at e
    cases e
    exact go (fun _ => none) (fun b u z => by cases z) (.inr ⟨vs, 0, hk, rv, by rw [hi.length]; exact hl⟩) fun b u z => by cases (show (none : Option HO) = some u from z)
  | none =>
    refine go (upd (fun _ => none) a (.frz { cls := .type "list", data := .seq vs.toArray } (.lst (ns.map V.int)))) (fun b u z => ?_) (.inl (.inr ⟨_, upd_same⟩)) fun b u z => ?_
    · by_cases c : b = a
      · subst c
        rw [upd_same] at z
        cases z
        exact ⟨rfl, hk, _, _, rfl, ha⟩
      · rw [upd_ne c] at z
        cases z
    · by_cases c : b = a
      · subst c
        rw [upd_same] at z
        cases z
        exact ⟨ha, by rw [List.length_map]; exact hl, vs, _, rv, ha⟩
      · rw [upd_ne c] at z
        cases z
theorem walk_g {l : PySem.W.OpenLaw} {n k : Nat} {q : Program} {loose : List Str} {XP : (Str → Option Value) → Heap → Prop} {YP : World → Heap → Prop} {d : DefRec} {K : Params → PySem.W.Frag} {x : Str} {g : List D → R TD}
    (hn : l.most = some n) (hn2 : n ≤ sizeLine) (hdf : d.params.defaults = []) (hr : Room k callerA)
    (hY : ∀ (w : World) (h : Heap), YP w h → (K w.params).In h)
    (hgv : ∀ ns : List Int, ns.length ≤ n → g [.list (ns.map .int)] = .ok (.sh, .bool true))
    (F : ∀ (w : World) (mg : Str → Option Value) (fa : Addr) (h : Heap), (K w.params).In h → h.Ns mainGlobals mg → mg d.name = some (.ref fa) →
      ∃ (fd : FuncData) (cref : Str → Value), (∀ (s : Shared) (u : Value), BindsTo s fd ⟨[u], []⟩ [(x, u)]) ∧ ∀ base : Heap, (K w.params).In base → base.Ns mainGlobals mg → FnG l.prog w (K w.params) mg base k fa fd [x] (spD (K w.params) cref 1 g)) :
    PySem.W.WalkO q loose XP YP l.row.toRowW d [] (fun f vs => PySem.call f vs) := by
  refine Att.attach_call hn hdf fun w s₀ s₁ mg mb fa o pm cd doc a vs ns G Y ho hd hcd hmg hobj hints hlen hgens => ?_
  obtain ⟨fd, cref, hb, hF⟩ := F w mg fa _ (hY w _ Y) G.T.g hmg
  exact law_run (hY w _ Y) G.T.g G.T.b G.T.builtins G.T.nolimit hgens hobj hints (Nat.le_trans hlen hn2) hr hF hb (hgv ns hlen)
end PV

/-! PvSim: the reckoning by rewriting. -/
namespace PV
open PySem L2
abbrev il (xs : List Int) : D := .list (xs.map .int)
section
variable {α β : Type} {a : α} {f : α → R β} {env : Env} {k : α → Out} {c : Str} {t s : Tag} {d e : D} {i j : Int} {b : Bool} {xs ys : List D} {z : Str}
@[simp] theorem b_ok : (R.ok a).bind f = f a := rfl
@[simp] theorem b_exc : (R.exc c : R α).bind f = .exc c := rfl
@[simp] theorem o_ok : Out.of env (.ok a) k = k a := rfl
@[simp] theorem o_exc : Out.of env (.exc c : R α) k = .exc c env := rfl
@[simp] theorem t_nx {g : Env → Out} {e : Env} : (Out.nx e).then g = g e := rfl
@[simp] theorem t_ret {g : Env → Out} : (Out.ret t d).then g = .ret t d := rfl
@[simp] theorem t_cnt {g : Env → Out} {e : Env} : (Out.cnt e).then g = .cnt e := rfl
@[simp] theorem t_brk {g : Env → Out} {e : Env} : (Out.brk e).then g = .brk e := rfl
@[simp] theorem t_exc {g : Env → Out} {e : Env} : (Out.exc c e).then g = .exc c e := rfl
@[simp] theorem nt_sh : nt .sh d = .sh := by cases d <;> rfl
@[simp] theorem nt_int : nt t (.int i) = .sh := rfl
@[simp] theorem nt_bool : nt t (.bool b) = .sh := rfl
@[simp] theorem nt_str : nt t (.str z) = .sh := rfl
@[simp] theorem nt_none : nt t .none = .sh := rfl
@[simp] theorem nt_list : nt t (.list xs) = t := rfl
@[simp] theorem nt_tuple : nt t (.tuple xs) = t := rfl
@[simp] theorem put_sh {n : Nat} : put env n (.sh, d) = .nx (env.set n (.sh d)) := by cases d <;> rfl
@[simp] theorem put_ow {n : Nat} : put env n (.ow, .list xs) = .nx (env.set n (.ow (.list xs))) := rfl
@[simp] theorem put_int {n : Nat} : put env n (t, .int i) = .nx (env.set n (.sh (.int i))) := rfl
@[simp] theorem put_bool {n : Nat} : put env n (t, .bool b) = .nx (env.set n (.sh (.bool b))) := rfl
@[simp] theorem kid_sh : Tag.kid .sh = .sh := rfl
@[simp] theorem kid_rt : Tag.kid .rt = .sh := rfl
@[simp] theorem kid_ow : Tag.kid .ow = .sh := rfl
@[simp] theorem kid_pk : Tag.kid .pk = .pk := rfl
@[simp] theorem kid_tr : Tag.kid .tr = .pk := rfl
@[simp] theorem dm_tr : Tag.dm .tr = .sh := rfl
@[simp] theorem dm_sh : Tag.dm .sh = .sh := rfl
@[simp] theorem dm_ow : Tag.dm .ow = .sh := rfl
@[simp] theorem dm_rt : Tag.dm .rt = .pk := rfl
@[simp] theorem dm_pk : Tag.dm .pk = .pk := rfl
@[simp] theorem root_sh : Tag.root .sh = .ow := rfl
@[simp] theorem root_pk : Tag.root .pk = .pk := rfl
@[simp] theorem jn_sh : Tag.jn .sh .sh = .sh := rfl
@[simp] theorem jn_pk : Tag.jn .pk t = .pk := by cases t <;> rfl
@[simp] theorem jn_pk2 : Tag.jn t .pk = .pk := by cases t <;> rfl
@[simp] theorem jnl_nil : jnL [] = .sh := rfl
@[simp] theorem jnl_cons {x : TD} {l : List TD} : jnL (x :: l) = x.1.dm.jn (jnL l) := rfl
@[simp] theorem zt_sh : zt .sh .sh = .sh := rfl
@[simp] theorem zt_pk : zt .pk t = .pk := rfl
@[simp] theorem zt_rt1 : zt .rt .sh = .rt := rfl
@[simp] theorem zt_rt2 : zt .sh .rt = .rt := rfl
@[simp] theorem zt_rt3 : zt .rt .rt = .rt := rfl
@[simp] theorem truth_bool : truth (.bool b) = .ok b := rfl
@[simp] theorem truth_int : truth (.int i) = .ok (i != 0) := rfl
@[simp] theorem truth_list : truth (.list xs) = .ok (!xs.isEmpty) := rfl
@[simp] theorem truth_tuple : truth (.tuple xs) = .ok (!xs.isEmpty) := rfl
@[simp] theorem truth_none : truth .none = .ok false := rfl
@[simp] theorem isBool_bool : isBool (.bool b) = .ok b := rfl
@[simp] theorem isInt_int : isInt (.int i) = .ok i := rfl
@[simp] theorem add_int : evBin .add (s, .int i) (t, .int j) = .ok (.sh, .int (i + j)) := rfl
@[simp] theorem sub_int : evBin .sub (s, .int i) (t, .int j) = .ok (.sh, .int (i - j)) := rfl
@[simp] theorem neg_int : evNeg (.int i) = .ok (.sh, .int (-i)) := rfl
@[simp] theorem g_true {r' : R TD} : PV.guard true r' = r' := rfl
theorem mul_int (h : mulOk i j = true) : evBin .mul (s, .int i) (t, .int j) = .ok (.sh, .int (i * j)) := by
  show PV.guard (mulOk i j) _ = _
  rw [h]
  rfl
theorem mod_int (h : 0 < j) : evBin .mod (s, .int i) (t, .int j) = .ok (.sh, .int (i % j)) := by
  show PV.guard (decide (0 < j)) _ = _
  rw [decide_eq_true h]
  rfl
theorem fdv_int (h : 0 < j) (h2 : j < 1073741824) : evBin .fdv (s, .int i) (t, .int j) = .ok (.sh, .int (i / j)) := by
  show PV.guard (decide (0 < j) && decide (j < 1073741824)) _ = _
  rw [decide_eq_true h, decide_eq_true h2]
  rfl
theorem pow_int (h : powOk i j = true) : evBin .pow (s, .int i) (t, .int j) = .ok (.sh, .int (i ^ j.toNat)) := by
  show PV.guard (powOk i j) _ = _
  rw [h]
  rfl
theorem cat_list (h : xs.length + ys.length ≤ lim) : evBin .add (s, .list xs) (t, .list ys) = .ok ((s.kid.jn t.kid).root, .list (xs ++ ys)) := by
  show PV.guard (decide _) _ = _
  rw [decide_eq_true h]
  rfl
@[simp] theorem lt_int : evCmp .lt (.int i) (.int j) = .ok (decide (i < j)) := rfl
@[simp] theorem le_int : evCmp .le (.int i) (.int j) = .ok (decide (i ≤ j)) := rfl
@[simp] theorem gt_int : evCmp .gt (.int i) (.int j) = .ok (decide (j < i)) := rfl
@[simp] theorem ge_int : evCmp .ge (.int i) (.int j) = .ok (decide (j ≤ i)) := rfl
@[simp] theorem eq_int : evCmp .eq (.int i) (.int j) = .ok (decide (i = j)) := by
  show gB (both (.int i) (.int j)) (PyData.eqv (.int i) (.int j)) = _
  have : PyData.eqv (.int i) (.int j) = decide (i = j) := by
    unfold PyData.eqv
    first | rfl | (by_cases h : i = j <;> simp [h, PyData.num])
  rw [this]
  rfl
@[simp] theorem ne_int : evCmp .ne (.int i) (.int j) = .ok (decide (i ≠ j)) := by
  have h : evCmp .eq (.int i) (.int j) = _ := eq_int
  have h2 : PyData.eqv (.int i) (.int j) = decide (i = j) := (gB_ok (show gB (both (.int i) (.int j)) (PyData.eqv (.int i) (.int j)) = _ from h)).2
  show gB (both (.int i) (.int j)) (!PyData.eqv (.int i) (.int j)) = _
  rw [h2]
  by_cases c : i = j <;> simp [c] <;> rfl
@[simp] theorem is_none' : evCmp .is d .none = .ok (isNone d) := by cases d <;> rfl
@[simp] theorem isn_none : evCmp .isn d .none = .ok (!isNone d) := by cases d <;> rfl
@[simp] theorem is_bl {a b : Bool} : evCmp .is (.bool a) (.bool b) = .ok (decide (a = b)) := rfl
@[simp] theorem isn_bl {a b : Bool} : evCmp .isn (.bool a) (.bool b) = .ok (!decide (a = b)) := rfl
@[simp] theorem ixt0 : evIx (t, .tuple (d :: xs)) (.int 0) = .ok (nt t.kid d, d) := by
  simp [evIx, L2.atI, L2.ixN]
@[simp] theorem ixt1 {d1 : D} : evIx (t, .tuple (d1 :: d :: xs)) (.int 1) = .ok (nt t.kid d, d) := by
  have : (1 : Int) < (xs.length : Int) + 1 + 1 := by omega
  simp [evIx, L2.atI, L2.ixN, this]
@[simp] theorem ixt2 {d1 d2 : D} : evIx (t, .tuple (d1 :: d2 :: d :: xs)) (.int 2) = .ok (nt t.kid d, d) := by
  have : (2 : Int) < (xs.length : Int) + 1 + 1 + 1 := by omega
  simp [evIx, L2.atI, L2.ixN, this]
@[simp] theorem ixt3 {d1 d2 d3 : D} : evIx (t, .tuple (d1 :: d2 :: d3 :: d :: xs)) (.int 3) = .ok (nt t.kid d, d) := by
  have : (3 : Int) < (xs.length : Int) + 1 + 1 + 1 + 1 := by omega
  simp [evIx, L2.atI, L2.ixN, this]
theorem atI_at {γ : Type} {l : List γ} {i : Int} {n : Nat} {x : γ} (h : i = (n : Int)) (e : l[n]? = some x) : L2.atI l i = some x := by
  subst h
  have hn : n < l.length := (List.getElem?_eq_some_iff.mp e).1
  have h2 : ((n : Nat) : Int) < (l.length : Int) := by omega
  simp [L2.atI, L2.ixN, h2, e]
theorem ixl_at {n : Nat} (h : i = (n : Int)) (e : xs[n]? = some d) : evIx (t, .list xs) (.int i) = .ok (nt t.kid d, d) := by
  show (match L2.atI xs i with | some d => R.ok (nt t.kid d, d) | none => .stuck) = _
  rw [atI_at h e]
theorem placed_at {n : Nat} (h : i = (n : Int)) (e : xs[n]? = some d) : placed xs i = .ok (n, d) := by
  subst h
  have hn : n < xs.length := (List.getElem?_eq_some_iff.mp e).1
  have h2 : ((n : Nat) : Int) < (xs.length : Int) := by omega
  simp [placed, L2.ixN, h2, e]
/-- a list's item, by its place -/
def gi (l : List Int) (n : Nat) : Int := l.getD n 0
theorem gi_some {l : List Int} {n : Nat} (h : n < l.length) : l[n]? = some (gi l n) := by
  unfold gi
  rw [List.getD_eq_getElem?_getD, List.getElem?_eq_getElem h]
  rfl
theorem gi_bd {X : List Int} {n : Nat} {P : Int → Prop} (h : ∀ y ∈ X, P y) (h0 : P 0) : P (gi X n) := by
  unfold gi
  rw [List.getD_eq_getElem?_getD]
  cases q : X[n]? with
  | none => exact h0
  | some v => exact h v (List.mem_of_getElem? q)
theorem set_bd {X : List Int} {j : Nat} {v : Int} {P : Int → Prop} (h : ∀ y ∈ X, P y) (hv : P v) : ∀ y ∈ X.set j v, P y := fun y hy => by
  rcases List.mem_or_eq_of_mem_set hy with z | z
  · exact h y z
  · rw [z]; exact hv
/-- in a list of ints -/
theorem ixi {ns : List Int} (h : 0 ≤ i) (h2 : i < ns.length) : evIx (t, il ns) (.int i) = .ok (.sh, .int (gi ns i.toNat)) := by
  have hl : i.toNat < ns.length := by omega
  rw [ixl_at (n := i.toNat) (d := .int (gi ns i.toNat)) (by omega) (by rw [List.getElem?_map, gi_some hl]; rfl)]
  rfl
theorem placed_i {ns : List Int} (h : 0 ≤ i) (h2 : i < ns.length) : placed (ns.map .int) i = .ok (i.toNat, .int (gi ns i.toNat)) := by
  have hl : i.toNat < ns.length := by omega
  exact placed_at (by omega) (by rw [List.getElem?_map, gi_some hl]; rfl)
@[simp] theorem len_list : evBi .len [(t, .list xs)] = .ok (.sh, .int xs.length) := rfl
@[simp] theorem len_tuple : evBi .len [(t, .tuple xs)] = .ok (.sh, .int xs.length) := rfl
@[simp] theorem abs_int : evBi .abs [(t, .int i)] = .ok (.sh, .int (if i < 0 then -i else i)) := rfl
@[simp] theorem min_int : evBi .min [(t, .int i), (s, .int j)] = .ok (.sh, .int (if j < i then j else i)) := rfl
@[simp] theorem max_int : evBi .max [(t, .int i), (s, .int j)] = .ok (.sh, .int (if j > i then j else i)) := rfl
@[simp] theorem int_int : evBi .int [(t, .int i)] = .ok (.sh, .int i) := rfl
@[simp] theorem int_bool : evBi .int [(t, .bool b)] = .ok (.sh, .int (if b then 1 else 0)) := rfl
@[simp] theorem list_list : evBi .list [(t, .list xs)] = .ok (t.kid.root, .list xs) := rfl
@[simp] theorem list_tuple : evBi .list [(t, .tuple xs)] = .ok (t.kid.root, .list xs) := rfl
@[simp] theorem tuple_list : evBi .tuple [(t, .list xs)] = .ok (t.kid, .tuple xs) := rfl
theorem boolL_of {γ : Type} (p : γ → Bool) : ∀ l : List γ, boolL (l.map fun x => PyData.bool (p x)) = some (l.map p)
  | [] => rfl
  | x :: r => by
    show (boolL (r.map fun x => PyData.bool (p x))).map (p x :: ·) = _
    rw [boolL_of p r]
    rfl
theorem intL_of : ∀ l : List Int, intL (l.map PyData.int) = some l
  | [] => rfl
  | x :: r => by
    show (intL (r.map PyData.int)).map (x :: ·) = _
    rw [intL_of r]
    rfl
theorem all_map {γ : Type} (p : γ → Bool) (l : List γ) : evBi .all [(t, .list (l.map fun x => PyData.bool (p x)))] = .ok (.sh, .bool (l.all p)) := by
  show (match boolL (l.map fun x => PyData.bool (p x)) with | some bs => ok1 (.bool (bs.all id)) | none => .stuck) = _
  rw [boolL_of]
  simp [ok1, List.all_map]
theorem any_map {γ : Type} (p : γ → Bool) (l : List γ) : evBi .any [(t, .list (l.map fun x => PyData.bool (p x)))] = .ok (.sh, .bool (l.any p)) := by
  show (match boolL (l.map fun x => PyData.bool (p x)) with | some bs => ok1 (.bool (bs.any id)) | none => .stuck) = _
  rw [boolL_of]
  simp [ok1, List.any_map]
theorem sum_map (l : List Int) : evBi .sum [(t, il l)] = .ok (.sh, .int l.sum) := by
  show (match intL (l.map PyData.int) with | some ns => ok1 (.int ns.sum) | none => .stuck) = _
  rw [intL_of]
  rfl
@[simp] theorem isT_ib : isT .int (.bool b) = some true := rfl
@[simp] theorem isT_ii : isT .int (.int i) = some true := rfl
@[simp] theorem isT_bb : isT .bool (.bool b) = some true := rfl
@[simp] theorem isT_bi : isT .bool (.int i) = some false := rfl
@[simp] theorem shOnly_sh : shOnly (.sh, d) = .ok d := by cases d <;> rfl
@[simp] theorem shOnly_ow : shOnly (.ow, d) = .ok d := by cases d <;> rfl
@[simp] theorem shOnly_int : shOnly (t, .int i) = .ok (.int i) := rfl
@[simp] theorem shOnly_bool : shOnly (t, .bool b) = .ok (.bool b) := rfl
@[simp] theorem bt_nm {n : Nat} : bindT (.nm n) (.sh, d) env = some (env.set n (.sh d)) := rfl
@[simp] theorem bt_two {n m : Nat} : bindT (.tp [n, m]) (.sh, .tuple [d, e]) env = some ((env.set n (.sh d)).set m (.sh e)) := rfl
@[simp] theorem bt_three {n m l : Nat} {g : D} : bindT (.tp [n, m, l]) (.sh, .tuple [d, e, g]) env = some (((env.set n (.sh d)).set m (.sh e)).set l (.sh g)) := rfl
@[simp] theorem frz_nil : frz [] env = env := rfl
theorem frz_cons {n : Nat} {l : List Nat} : frz (n :: l) env = match env[n]? with | some (.ow d) => frz l (env.set n (.sh d)) | some (.od d) => frz l (env.set n (.sh d)) | _ => frz l env := rfl
@[simp] theorem cT_int {o : Tag} : callTag t o (.int i) = .sh := by cases t <;> cases o <;> rfl
@[simp] theorem cT_bool {o : Tag} : callTag t o (.bool b) = .sh := by cases t <;> cases o <;> rfl
@[simp] theorem cT_ow : callTag .sh .ow (.list xs) = .ow := rfl
@[simp] theorem cT_sh : callTag .sh .sh d = .sh := by cases d <;> rfl
@[simp] theorem cT_trl : callTag .sh .tr (.list xs) = .tr := rfl
@[simp] theorem cT_trt : callTag .sh .tr (.tuple xs) = .tr := rfl
@[simp] theorem cT_none {o : Tag} : callTag t o .none = .sh := by cases t <;> cases o <;> rfl
@[simp] theorem cT_pkt {o : Tag} : callTag .pk o (.tuple xs) = .pk := by cases o <;> rfl
@[simp] theorem cT_pkl {o : Tag} : callTag .pk o (.list xs) = .pk := by cases o <;> rfl
@[simp] theorem cst_int {n : Int} : constD (.int n) = some (.int n) := rfl
@[simp] theorem cst_bool : constD (.bool b) = some (.bool b) := rfl
@[simp] theorem cst_none : constD .none = some .none := rfl
@[simp] theorem cst_str : constD (.str z) = some (.str z) := rfl
@[simp] theorem nox_ok : nox (.ok a) = .ok a := rfl
theorem cpl_map {γ : Type} {f : D → R (Option D)} (w : γ → D) (h : γ → D) : ∀ l : List γ, (∀ x ∈ l, f (w x) = .ok (some (h x))) → cpl f (l.map w) = .ok (l.map h)
  | [], _ => rfl
  | x :: r, q => by
    rw [List.map_cons]
    unfold cpl
    rw [q x List.mem_cons_self, cpl_map w h r fun y hy => q y (List.mem_cons_of_mem _ hy)]
    rfl
theorem cpl_filter {γ : Type} {f : D → R (Option D)} (w : γ → D) (p : γ → Bool) (h : γ → D) : ∀ l : List γ, (∀ x ∈ l, f (w x) = .ok (if p x then some (h x) else none)) → cpl f (l.map w) = .ok ((l.filter p).map h)
  | [], _ => rfl
  | x :: r, q => by
    rw [List.map_cons]
    unfold cpl
    rw [q x List.mem_cons_self, cpl_filter w p h r fun y hy => q y (List.mem_cons_of_mem _ hy), List.filter_cons]
    cases p x <;> rfl
theorem zipD_map {γ δ : Type} (w : γ → D) (v : δ → D) : ∀ (l : List γ) (m : List δ), zipD (l.map w) (m.map v) = (l.zip m).map fun p => .tuple [w p.1, v p.2]
  | [], _ => by simp [zipD]
  | _ :: _, [] => by simp [zipD]
  | a :: r, b :: s => by
    show PyData.tuple [w a, v b] :: zipD (r.map w) (s.map v) = _
    rw [zipD_map w v r s]
    rfl
/-- a for by an invariant: no turn leaves the def -/
theorem lp_inv {f : D → Env → Out} {P : Nat → Env → Prop} : ∀ {l : List D} {n : Nat} {env : Env}, P n env → (∀ i d e, l[i]? = some d → P (n + i) e → ∃ e', (f d e = .nx e' ∨ f d e = .cnt e') ∧ P (n + i + 1) e') → ∃ e, lp f l env = .nx e ∧ P (n + l.length) e
  | [], n, env, h, _ => ⟨env, rfl, h⟩
  | d :: r, n, env, h, q => by
    obtain ⟨e', h1, h2⟩ := q 0 d env rfl h
    obtain ⟨e, h3, h4⟩ := lp_inv (l := r) (n := n + 1) h2 fun i d2 e2 hi he => by
      have := q (i + 1) d2 e2 (by simpa using hi) (by rw [show n + (i + 1) = n + 1 + i by omega]; exact he)
      rw [show n + (i + 1) + 1 = n + 1 + i + 1 by omega] at this
      exact this
    refine ⟨e, ?_, by rw [List.length_cons, show n + (r.length + 1) = n + 1 + r.length by omega]; exact h4⟩
    unfold lp
    rcases h1 with h1 | h1 <;> rw [h1] <;> exact h3
end
end PV
namespace PV
open PySem L2
/-! ### steps through a body -/
def Ret (Q : Tag → D → Prop) (X : Str → Prop) : Out → Prop
  | .ret .sh d => Q .sh d
  | .ret .ow d => Q .ow d
  | .ret .tr d => Q .tr d
  | .nx _ => Q .sh .none
  | .exc c _ => X c
  | _ => False
def NoX : Str → Prop := fun _ => False
def Turn (I : Env → Prop) (P : Out → Prop) : Out → Prop
  | .nx e => I e
  | .cnt e => I e
  | .brk e => P (.nx e)
  | .ret t d => P (.ret t d)
  | .exc c e => P (.exc c e)
  | .stuck => False
/-- a statement that goes on -/
def Goes (J : Env → Prop) : Out → Prop
  | .nx e => J e
  | _ => False
/-- what is wanted of an outcome (a wrapper: nothing is reckoned before it is asked) -/
structure Sat (P : Out → Prop) (o : Out) : Prop where
  go : P o
section
variable {G : Gam} {n : Nat} {P : Out → Prop} {env : Env} {r : List Sx} {s : Sx}
@[simp] theorem ok1_ok {d : D} : ok1 d = .ok (.sh, d) := rfl
theorem ss_nil : evSs G n [] env = .nx env := rfl
theorem ss_cons : evSs G n (s :: r) env = (evS G n s env).then fun e => evSs G n r e := rfl
theorem ss_app : ∀ {a : List Sx} {env : Env}, evSs G n (a ++ r) env = (evSs G n a env).then fun e => evSs G n r e
  | [], _ => rfl
  | x :: a, env => by
    rw [List.cons_append, ss_cons, ss_cons]
    cases evS G n x env <;> first | rfl | exact ss_app
@[simp] theorem then_ss {a : List Sx} : ((evSs G n a env).then fun e => evSs G n r e) = evSs G n (a ++ r) env := ss_app.symm
theorem def_ret {Q : Tag → D → Prop} {sz k : Nat} {b : List Sx} {ds : List D} (h : ds.length = k) (q' : Sat (Ret Q NoX) (evSs G n b (ds.map Slot.sh ++ List.replicate (sz - ds.length) Slot.no))) : ∃ o d, evDef G n sz k b ds = .ok (o, d) ∧ Q o d := by
  have q := q'.go
  unfold evDef
  rw [if_neg (fun z => z h)]
  cases ho : evSs G n b (ds.map Slot.sh ++ List.replicate (sz - ds.length) Slot.no) with
  | nx e => rw [ho] at q; exact ⟨_, _, rfl, q⟩
  | ret t d =>
    rw [ho] at q
    cases t with
    | sh => exact ⟨_, _, rfl, q⟩
    | ow => exact ⟨_, _, rfl, q⟩
    | tr => exact ⟨_, _, rfl, q⟩
    | pk => exact (show False from q).elim
    | rt => exact (show False from q).elim
  | brk e => rw [ho] at q; exact (show False from q).elim
  | cnt e => rw [ho] at q; exact (show False from q).elim
  | exc c e => rw [ho] at q; exact (show False from q).elim
  | stuck => rw [ho] at q; exact (show False from q).elim
theorem def_is {o : Tag} {d : D} {sz k : Nat} {b : List Sx} {ds : List D} (h : ds.length = k) (q : Sat (Ret (fun o' d' => o' = o ∧ d' = d) NoX) (evSs G n b (ds.map Slot.sh ++ List.replicate (sz - ds.length) Slot.no))) : evDef G n sz k b ds = .ok (o, d) := by
  obtain ⟨o', d', h1, rfl, rfl⟩ := def_ret h q
  exact h1
theorem s_step {J : Env → Prop} (h' : Sat (Goes J) (evS G n s env)) (k : ∀ e, J e → Sat P (evSs G n r e)) : Sat P (evSs G n (s :: r) env) := by
  have h := h'.go
  rw [ss_cons]
  cases ho : evS G n s env with
  | nx e => rw [ho] at h; exact k e h
  | _ => rw [ho] at h; exact (show False from h).elim
theorem lp_turn {f : D → Env → Out} {I : Nat → Env → Prop} : ∀ {l : List D} {m : Nat} {env : Env}, I m env → (∀ i d e, l[i]? = some d → I (m + i) e → Turn (I (m + i + 1)) P (f d e)) → (∀ e, I (m + l.length) e → P (.nx e)) → P (lp f l env)
  | [], m, env, h, _, k => k env h
  | d :: r, m, env, h, q, k => by
    have t := q 0 d env rfl h
    have go : ∀ e, I (m + 1) e → P (lp f r e) := fun e he => lp_turn (l := r) (m := m + 1) he (fun i d2 e2 hi h2 => by
      have := q (i + 1) d2 e2 (by simpa using hi) (by rw [show m + (i + 1) = m + 1 + i by omega]; exact h2)
      rw [show m + (i + 1) + 1 = m + 1 + i + 1 by omega] at this
      exact this) fun e2 h2 => k e2 (by rw [List.length_cons, show m + (r.length + 1) = m + 1 + r.length by omega]; exact h2)
    unfold lp
    cases ho : f d env with
    | nx e => rw [ho] at t; exact go e t
    | cnt e => rw [ho] at t; exact go e t
    | brk e => rw [ho] at t; exact t
    | ret u v => rw [ho] at t; exact t
    | exc c e => rw [ho] at t; exact t
    | stuck => rw [ho] at t; exact (show False from t).elim
theorem wh_turn {c : Env → R Bool} {f : Env → Out} {I : Nat → Env → Prop} : ∀ {n m : Nat} {env : Env}, I m env → m < n → (∀ m e, I m e → (c e = .ok false ∧ P (.nx e)) ∨ (c e = .ok true ∧ Turn (fun e2 => ∃ m2, m2 < m ∧ I m2 e2) P (f e))) → P (wh c f n env)
  | 0, _, _, _, hl, _ => absurd hl (by omega)
  | n + 1, m, env, h, hl, q => by
    unfold wh
    rcases q m env h with ⟨h1, h2⟩ | ⟨h1, t⟩
    · rw [h1]
      exact h2
    · rw [h1]
      show P (match f env with | .nx e => _ | .cnt e => _ | .brk e => _ | .ret t d => _ | .exc c e => _ | .stuck => _)
      have go : ∀ e, (∃ m2, m2 < m ∧ I m2 e) → P (wh c f n e) := fun e ⟨m2, a, b⟩ => wh_turn b (by omega) q
      cases ho : f env with
      | nx e => rw [ho] at t; exact go e t
      | cnt e => rw [ho] at t; exact go e t
      | brk e => rw [ho] at t; exact t
      | ret u v => rw [ho] at t; exact t
      | exc c e => rw [ho] at t; exact t
      | stuck => rw [ho] at t; exact (show False from t).elim
/-- a for, entered -/
theorem s_for {fz : List Nat} {tg : Tg} {src : Src} {b : List Sx} {ds : List D} {t : Tag} {e0 : Env} {I : Nat → Env → Prop} (hf : frz fz env = e0) (h : evSrc G src e0 = .ok (t, ds)) (ht : t.dm = .sh) (h0 : I 0 e0)
    (turn : ∀ i d e, ds[i]? = some d → I i e → ∃ e2, bindT tg (.sh, d) e = some e2 ∧ Sat (Turn (I (i + 1)) (fun o => Sat P (o.then fun e => evSs G n r e))) (evSs G n b e2)) (fin : ∀ e, I ds.length e → Sat P (evSs G n r e)) : Sat P (evSs G n (.lop fz tg src b :: r) env) := by
  rw [ss_cons]
  show Sat P (((Out.of (frz fz env) (evSrc G src (frz fz env)) _)).then _)
  rw [hf, h]
  show Sat P ((match t.dm with | .sh => _ | _ => _ : Out).then _)
  rw [ht]
  refine lp_turn (P := fun o => Sat P (o.then fun e => evSs G n r e)) (I := I) (m := 0) h0 (fun i d e hd he => ?_) (by simpa using fin)
  rw [Nat.zero_add] at he ⊢
  obtain ⟨e2, h1, h2⟩ := turn i d e hd he
  rw [h1]
  exact h2.go
theorem s_while {c : Te} {b : List Sx} {I : Nat → Env → Prop} {m : Nat} (h0 : I m env) (hm : m < n) (turn : ∀ m e, I m e → (evT G c e = .ok false ∧ Sat P (evSs G n r e)) ∨ (evT G c e = .ok true ∧ Sat (Turn (fun e2 => ∃ m2, m2 < m ∧ I m2 e2) (fun o => Sat P (o.then fun e => evSs G n r e))) (evSs G n b e))) :
    Sat P (evSs G n (.whl c b :: r) env) := by
  rw [ss_cons]
  exact wh_turn (P := fun o => Sat P (o.then fun e => evSs G n r e)) (I := I) h0 hm fun m e h => (turn m e h).imp id fun q => ⟨q.1, q.2.go⟩
theorem s_if {c : Te} {a b : List Sx} {t : Bool} (h : evT G c env = .ok t) (h1 : t = true → Sat P (evSs G n (a ++ r) env)) (h2 : t = false → Sat P (evSs G n (b ++ r) env)) : Sat P (evSs G n (.ifs c a b :: r) env) := by
  rw [ss_cons]
  show Sat P ((Out.of env (evT G c env) _).then _)
  rw [h]
  cases t with
  | true => show Sat P ((evSs G n a env).then _); rw [then_ss]; exact h1 rfl
  | false => show Sat P ((evSs G n b env).then _); rw [then_ss]; exact h2 rfl
/-- the same, where what follows is one -/
theorem s_if1 {c : Te} {a b : List Sx} {t : Bool} {J : Env → Prop} (h : evT G c env = .ok t) (h1 : t = true → Sat (Goes J) (evSs G n a env)) (h2 : t = false → Sat (Goes J) (evSs G n b env)) (k : ∀ e, J e → Sat P (evSs G n r e)) : Sat P (evSs G n (.ifs c a b :: r) env) := by
  refine s_step (J := J) ?_ k
  show Sat (Goes J) (Out.of env (evT G c env) _)
  rw [h]
  cases t with
  | true => exact h1 rfl
  | false => exact h2 rfl
@[simp] theorem sat_nil : Sat P (evSs G n [] env) ↔ Sat P (.nx env) := Iff.rfl
@[simp] theorem sat_rs {Q : Tag → D → Prop} {X : Str → Prop} {d : D} : Sat (Ret Q X) (.ret .sh d) ↔ Q .sh d := ⟨fun h => h.go, fun h => ⟨h⟩⟩
@[simp] theorem sat_ro {Q : Tag → D → Prop} {X : Str → Prop} {d : D} : Sat (Ret Q X) (.ret .ow d) ↔ Q .ow d := ⟨fun h => h.go, fun h => ⟨h⟩⟩
@[simp] theorem sat_rt {Q : Tag → D → Prop} {X : Str → Prop} {d : D} : Sat (Ret Q X) (.ret .tr d) ↔ Q .tr d := ⟨fun h => h.go, fun h => ⟨h⟩⟩
@[simp] theorem sat_rn {Q : Tag → D → Prop} {X : Str → Prop} {e : Env} : Sat (Ret Q X) (.nx e) ↔ Q .sh .none := ⟨fun h => h.go, fun h => ⟨h⟩⟩
@[simp] theorem sat_rx {Q : Tag → D → Prop} {X : Str → Prop} {e : Env} {c : Str} : Sat (Ret Q X) (.exc c e) ↔ X c := ⟨fun h => h.go, fun h => ⟨h⟩⟩
@[simp] theorem sat_gn {J : Env → Prop} {e : Env} : Sat (Goes J) (.nx e) ↔ J e := ⟨fun h => h.go, fun h => ⟨h⟩⟩
@[simp] theorem sat_tn {I : Env → Prop} {e : Env} : Sat (Turn I P) (.nx e) ↔ I e := ⟨fun h => h.go, fun h => ⟨h⟩⟩
@[simp] theorem sat_tc {I : Env → Prop} {e : Env} : Sat (Turn I P) (.cnt e) ↔ I e := ⟨fun h => h.go, fun h => ⟨h⟩⟩
@[simp] theorem sat_tb {I : Env → Prop} {e : Env} : Sat (Turn I P) (.brk e) ↔ P (.nx e) := ⟨fun h => h.go, fun h => ⟨h⟩⟩
@[simp] theorem sat_tr {I : Env → Prop} {t : Tag} {d : D} : Sat (Turn I P) (.ret t d) ↔ P (.ret t d) := ⟨fun h => h.go, fun h => ⟨h⟩⟩
@[simp] theorem sat_tx {I : Env → Prop} {c : Str} {e : Env} : Sat (Turn I P) (.exc c e) ↔ P (.exc c e) := ⟨fun h => h.go, fun h => ⟨h⟩⟩
theorem s_asg {fz : List Nat} {i : Nat} {e : Ex} {x : TD} {e0 e1 : Env} (hf : frz fz env = e0) (h : ev G e e0 = .ok x) (hp : put e0 i x = .nx e1) (k : Sat P (evSs G n r e1)) : Sat P (evSs G n (.asg fz i e :: r) env) := by
  rw [ss_cons]
  show Sat P ((Out.of (frz fz env) (ev G e (frz fz env)) _).then _)
  rw [hf, h]
  show Sat P ((put e0 i x).then _)
  rw [hp]
  exact k
theorem two64 : (2 : Int) ^ 64 = 18446744073709551616 := by decide +kernel
theorem mul_l {s t : Tag} {i j : Int} (h1 : -18446744073709551616 < i) (h2 : i < 18446744073709551616) : evBin .mul (s, .int i) (t, .int j) = .ok (.sh, .int (i * j)) := mul_int (by unfold mulOk; rw [two64, decide_eq_true h1, decide_eq_true h2]; simp)
theorem mul_r {s t : Tag} {i j : Int} (h1 : -18446744073709551616 < j) (h2 : j < 18446744073709551616) : evBin .mul (s, .int i) (t, .int j) = .ok (.sh, .int (i * j)) := mul_int (by unfold mulOk; rw [two64, decide_eq_true h1, decide_eq_true h2]; simp)
end
end PV
namespace PV
open PySem L2
section
variable {G : Gam} {env : Env} {n : Nat}
def cprItem (G : Gam) (tg : Tg) (c : Tes) (e : Ex) (env : Env) (t : Tag) (d : D) : R (Option D) := match bindT tg (nt t d, d) env with
  | none => .stuck
  | some env2 => (evTA G c env2).bind fun t => match t with | true => (ev G e env2).bind fun x => (shOnly x).bind fun d => .ok (some d) | false => .ok none
theorem e_filter {γ : Type} {own : List (Str × Nat)} {tg : Tg} {src : Src} {c : Tes} {e : Ex} {t : Tag} {l : List γ} {w h : γ → D} {p : γ → Bool} (hs : evSrc G src env = .ok (t, l.map w)) (hl : l.length ≤ lim)
    (hi : ∀ x ∈ l, cprItem G tg c e (wipeE env (own.map (·.2))) t.kid (w x) = .ok (if p x then some (h x) else none)) (he : isPr e = false := by rfl) : ev G (.cpr own tg src c e) env = .ok (.ow, .list ((l.filter p).map h)) := by
  unfold ev
  have hI : ∀ x, itm e x = shOnly x := fun x => by unfold itm; rw [he]; rfl
  have hT : cpTag e = .ow := by unfold cpTag; rw [he]; rfl
  simp only [hI, hT]
  rw [hs]
  show (nox (cpl (fun d => cprItem G tg c e (wipeE env (own.map (·.2))) t.kid d) (l.map w))).bind (fun r => PV.guard (decide ((l.map w).length ≤ lim)) (.ok (.ow, .list r))) = _
  rw [cpl_filter w p h l hi, List.length_map, decide_eq_true hl]
  rfl
theorem e_map {γ : Type} {own : List (Str × Nat)} {tg : Tg} {src : Src} {c : Tes} {e : Ex} {t : Tag} {l : List γ} {w h : γ → D} (hs : evSrc G src env = .ok (t, l.map w)) (hl : l.length ≤ lim)
    (hi : ∀ x ∈ l, cprItem G tg c e (wipeE env (own.map (·.2))) t.kid (w x) = .ok (some (h x))) (he : isPr e = false := by rfl) : ev G (.cpr own tg src c e) env = .ok (.ow, .list (l.map h)) := by
  have := e_filter (p := fun _ => true) hs hl (by simpa using hi) he
  rwa [List.filter_eq_self.mpr fun _ _ => rfl] at this
/-- a comprehension of trees -/
def cprItemT (G : Gam) (tg : Tg) (c : Tes) (e : Ex) (env : Env) (t : Tag) (d : D) : R (Option D) := match bindT tg (nt t d, d) env with
  | none => .stuck
  | some env2 => (evTA G c env2).bind fun t => match t with | true => (ev G e env2).bind fun x => (treeOf x).bind fun d => .ok (some d) | false => .ok none
theorem e_mapT {γ : Type} {own : List (Str × Nat)} {tg : Tg} {src : Src} {c : Tes} {e : Ex} {t : Tag} {l : List γ} {w h : γ → D} (hs : evSrc G src env = .ok (t, l.map w)) (hl : l.length ≤ lim)
    (hi : ∀ x ∈ l, cprItemT G tg c e (wipeE env (own.map (·.2))) t.kid (w x) = .ok (some (h x))) (he : isPr e = true := by rfl) : ev G (.cpr own tg src c e) env = .ok (.tr, .list (l.map h)) := by
  unfold ev
  have hI : ∀ x, itm e x = treeOf x := fun x => by unfold itm; rw [he]; rfl
  have hT : cpTag e = .tr := by unfold cpTag; rw [he]; rfl
  simp only [hI, hT]
  rw [hs]
  show (nox (cpl (fun d => cprItemT G tg c e (wipeE env (own.map (·.2))) t.kid d) (l.map w))).bind (fun r => PV.guard (decide ((l.map w).length ≤ lim)) (.ok (.tr, .list r))) = _
  have hi2 : ∀ x ∈ l, cprItemT G tg c e (wipeE env (own.map (·.2))) t.kid (w x) = .ok (if (fun _ : γ => true) x then some (h x) else none) := by simpa using hi
  rw [cpl_filter w (fun _ => true) h l hi2, List.length_map, decide_eq_true hl, List.filter_eq_self.mpr fun _ _ => rfl]
  rfl
@[simp] theorem at_0 {s : Slot} {r : List Slot} : (s :: r)[0]? = some s := rfl
@[simp] theorem at_s {s : Slot} {r : List Slot} {i : Nat} : (s :: r)[i + 1]? = r[i]? := rfl
@[simp] theorem x_var {i : Nat} : ev G (.var i) env = match env[i]? with | some (.sh d) => .ok (.sh, d) | some (.ow d) => .ok (.rt, d) | some (.od d) => .ok (nt .pk d, d) | _ => .stuck := rfl
@[simp] theorem x_cst {c : Const} : ev G (.cst c) env = match constD c with | some d => .ok (.sh, d) | none => .stuck := rfl
@[simp] theorem x_bin {o : Bop} {a b : Ex} : ev G (.bin o a b) env = (ev G a env).bind fun x => (ev G b env).bind fun y => evBin o x y := rfl
@[simp] theorem x_neg {a : Ex} : ev G (.neg a) env = (ev G a env).bind fun x => evNeg x.2 := rfl
@[simp] theorem x_cmp {o : Cop} {a b : Ex} : ev G (.cmp o a b) env = (ev G a env).bind fun x => (ev G b env).bind fun y => (evCmp o x.2 y.2).bind fun r => .ok (.sh, .bool r) := rfl
@[simp] theorem x_chn {o p : Cop} {a b c : Ex} : ev G (.chn o p a b c) env = (ev G a env).bind fun x => (ev G b env).bind fun y => (evCmp o x.2 y.2).bind fun r =>
      match r with
      | true => (ev G c env).bind fun z => (evCmp p y.2 z.2).bind fun r => .ok (.sh, .bool r)
      | false => .ok (.sh, .bool false) := rfl
@[simp] theorem x_lan {es : Exs} : ev G (.lan es) env = evAnd G es env := rfl
@[simp] theorem x_lor {es : Exs} : ev G (.lor es) env = evOr G es env := rfl
@[simp] theorem x_lno {a : Ex} : ev G (.lno a) env = (ev G a env).bind fun x => (isBool x.2).bind fun b => .ok (.sh, .bool (!b)) := rfl
@[simp] theorem x_ife {c : Te} {a b : Ex} : ev G (.ife c a b) env = (evT G c env).bind fun t => match t with | true => ev G a env | false => ev G b env := rfl
@[simp] theorem x_tup {es : Exs} : ev G (.tup es) env = (evs G es env).bind fun l => PV.guard (decide (l.length ≤ lim)) (.ok (jnL l, .tuple (l.map (·.2)))) := rfl
@[simp] theorem x_lst {es : Exs} : ev G (.lst es) env = (evs G es env).bind fun l => PV.guard (decide (l.length ≤ lim)) (.ok ((jnL l).root, .list (l.map (·.2)))) := rfl
@[simp] theorem x_ix {a b : Ex} : ev G (.ix a b) env = (ev G a env).bind fun x => (ev G b env).bind fun y => evIx x y.2 := rfl
@[simp] theorem x_sli {a : Ex} {l h : Pt} : ev G (.sli a l h) env = (ev G a env).bind fun x => (evP G l env).bind fun l => (evP G h env).bind fun h => evSl x l h := rfl
@[simp] theorem x_call {f : Str} {es : Exs} : ev G (.call f es) env = match G f with | none => .stuck | some g => (evs G es env).bind fun l => (g (l.map (·.2))).bind fun r => .ok (callTag (jnL l) r.1 r.2, r.2) := rfl
@[simp] theorem x_bi {b : Bi} {es : Exs} : ev G (.bi b es) env = (evs G es env).bind fun l => evBi b l := rfl
@[simp] theorem x_isi {a : Ex} {t : Ty} : ev G (.isi a t) env = (ev G a env).bind fun x => match isT t x.2 with | some b => .ok (.sh, .bool b) | none => .stuck := rfl
@[simp] theorem x_join {a b : Ex} : ev G (.join a b) env = (ev G a env).bind fun x => (isStr x.2).bind fun s => (ev G b env).bind fun y => evJoin s y.2 := rfl
@[simp] theorem isStr_str {z : Str} : isStr (.str z) = .ok z := rfl
@[simp] theorem x_no : evP G .no env = .ok none := rfl
@[simp] theorem x_at {e : Ex} : evP G (.at e) env = (ev G e env).bind fun x => (isInt x.2).bind fun i => .ok (some i) := rfl
@[simp] theorem x_nil : evs G .nil env = .ok [] := rfl
@[simp] theorem x_cons {e : Ex} {es : Exs} : evs G (.cons e es) env = (ev G e env).bind fun x => (evs G es env).bind fun l => .ok (x :: l) := rfl
@[simp] theorem x_and1 {e : Ex} : evAnd G (.cons e .nil) env = ev G e env := rfl
@[simp] theorem x_and2 {e f : Ex} {es : Exs} : evAnd G (.cons e (.cons f es)) env = (ev G e env).bind fun x => (isBool x.2).bind fun b => match b with | true => evAnd G (.cons f es) env | false => .ok (.sh, .bool false) := rfl
@[simp] theorem x_or1 {e : Ex} : evOr G (.cons e .nil) env = ev G e env := rfl
@[simp] theorem x_or2 {e f : Ex} {es : Exs} : evOr G (.cons e (.cons f es)) env = (ev G e env).bind fun x => (isBool x.2).bind fun b => match b with | false => evOr G (.cons f es) env | true => .ok (.sh, .bool true) := rfl
@[simp] theorem x_val {e : Ex} : evT G (.val e) env = (ev G e env).bind fun x => isBool x.2 := rfl
@[simp] theorem x_tru {e : Ex} : evT G (.tru e) env = (ev G e env).bind fun x => truth x.2 := rfl
@[simp] theorem x_tand {ts : Tes} : evT G (.and ts) env = evTA G ts env := rfl
@[simp] theorem x_tor {ts : Tes} : evT G (.or ts) env = evTO G ts env := rfl
@[simp] theorem x_tnot {a : Te} : evT G (.not a) env = (evT G a env).bind fun t => .ok (!t) := rfl
@[simp] theorem x_ta0 : evTA G .nil env = .ok true := rfl
@[simp] theorem x_ta {a : Te} {ts : Tes} : evTA G (.cons a ts) env = (evT G a env).bind fun t => match t with | true => evTA G ts env | false => .ok false := rfl
@[simp] theorem x_to0 : evTO G .nil env = .ok false := rfl
@[simp] theorem x_to {a : Te} {ts : Tes} : evTO G (.cons a ts) env = (evT G a env).bind fun t => match t with | true => .ok true | false => evTO G ts env := rfl
@[simp] theorem x_slst {e : Ex} : evSrc G (.lst e) env = (ev G e env).bind fun x => match x.2 with | .list ds => .ok (x.1, ds) | _ => .stuck := rfl
@[simp] theorem x_stup {e : Ex} : evSrc G (.tup e) env = (ev G e env).bind fun x => match x.2 with | .tuple ds => .ok (x.1, ds) | _ => .stuck := rfl
@[simp] theorem x_rg1 {a : Ex} : evSrc G (.rg1 a) env = (ev G a env).bind fun x => (isInt x.2).bind fun j => if small j then .ok (.sh, ranged 0 j) else .stuck := rfl
@[simp] theorem x_rg2 {a b : Ex} : evSrc G (.rg2 a b) env = (ev G a env).bind fun x => (ev G b env).bind fun y => (isInt x.2).bind fun i => (isInt y.2).bind fun j => if small i && small j then .ok (.sh, ranged i j) else .stuck := rfl
@[simp] theorem x_enu {e : Ex} : evSrc G (.enu e) env = (ev G e env).bind fun x => match x.2 with | .list ds => .ok (x.1, enumD 0 ds) | _ => .stuck := rfl
@[simp] theorem x_zip {a b : Ex} : evSrc G (.zip a b) env = (ev G a env).bind fun x => (ev G b env).bind fun y => match x.2, y.2 with | .list ds, .list es => .ok (zt x.1 y.1, zipD ds es) | _, _ => .stuck := rfl
@[simp] theorem x_rev {e : Ex} : evSrc G (.rev e) env = (ev G e env).bind fun x => match x.2 with | .list ds => .ok (x.1, ds.reverse) | _ => .stuck := rfl
@[simp] theorem y_asg {fz : List Nat} {i : Nat} {e : Ex} : evS G n (.asg fz i e) env = Out.of (frz fz env) (ev G e (frz fz env)) fun x => put (frz fz env) i x := rfl
@[simp] theorem y_ret {fz : List Nat} {e : Ex} : evS G n (.ret fz e) env = Out.of (frz fz env) (ev G e (frz fz env)) fun x => match nt x.1 x.2 with | .sh => .ret .sh x.2 | .ow => .ret .ow x.2 | .tr => .ret .tr x.2 | _ => .stuck := rfl
@[simp] theorem y_rtv {i : Nat} : evS G n (.rtv i) env = match env[i]? with | some (.ow d) => .ret .ow d | some (.sh d) => .ret .sh d | some (.od d) => .ret .tr d | _ => .stuck := rfl
@[simp] theorem y_aug {i : Nat} {o : Bop} {e : Ex} : evS G n (.aug i o e) env = Out.of env (shD env i) fun a => Out.of env (ev G e env) fun x => Out.of env (augB o a x.2) fun r => .nx (env.set i (.sh r)) := rfl
@[simp] theorem y_app {fz : List Nat} {i : Nat} {e : Ex} : evS G n (.app fz i e) env = Out.of (frz fz env) (ownL (frz fz env) i) fun ds => Out.of (frz fz env) (ev G e (frz fz env)) fun y => Out.of (frz fz env) (shOnly y) fun r =>
      if ds.length < lim then .nx ((frz fz env).set i (.ow (.list (ds ++ [r])))) else .stuck := rfl
@[simp] theorem y_setX {fz : List Nat} {i : Nat} {x e : Ex} : evS G n (.setX fz i x e) env = Out.of (frz fz env) (ev G e (frz fz env)) fun y => Out.of (frz fz env) (shOnly y) fun r => Out.of (frz fz env) (ownL (frz fz env) i) fun ds =>
      Out.of (frz fz env) (ev G x (frz fz env)) fun k => Out.of (frz fz env) (isInt k.2) fun k => Out.of (frz fz env) (placed ds k) fun p => .nx ((frz fz env).set i (.ow (.list (ds.set p.1 r)))) := rfl
@[simp] theorem y_augX {i : Nat} {o : Bop} {x e : Ex} : evS G n (.augX i o x e) env = Out.of env (ownL env i) fun ds => Out.of env (ev G x env) fun k => Out.of env (isInt k.2) fun k => Out.of env (placed ds k) fun p =>
      Out.of env (ev G e env) fun y => Out.of env (augB o p.2 y.2) fun r => .nx (env.set i (.ow (.list (ds.set p.1 r)))) := rfl
@[simp] theorem y_asgT {fz is : List Nat} {e : Ex} : evS G n (.asgT fz is e) env = Out.of (frz fz env) (ev G e (frz fz env)) fun x => match bindT (.tp is) ((nt x.1 x.2).dm, x.2) (frz fz env) with | some e2 => .nx e2 | none => .stuck := rfl
@[simp] theorem y_exp {e : Ex} : evS G n (.exp e) env = Out.of env (ev G e env) fun _ => .nx env := rfl
@[simp] theorem y_rtn : evS G n .rtn env = .ret .sh .none := rfl
@[simp] theorem y_brk : evS G n .brk env = .brk env := rfl
@[simp] theorem y_cnt : evS G n .cnt env = .cnt env := rfl
@[simp] theorem y_tryK {x : Str} {ks : List Str} {v : Bool} {b : Sx} : evS G n (.tryK x ks v b) env = (evS G n b env).caughtK x ks v := rfl
@[simp] theorem y_pas : evS G n .pas env = .nx env := rfl
@[simp] theorem y_rai {c : Str} : evS G n (.rai c) env = .exc c env := rfl
@[simp] theorem ownL_nil {ds : List D} {r : List Slot} : ownL (.ow (.list ds) :: r) 0 = .ok ds := rfl
@[simp] theorem ownL_cons {s : Slot} {r : List Slot} {i : Nat} : ownL (s :: r) (i + 1) = ownL r i := by simp [ownL]
@[simp] theorem shD_nil {d : D} {r : List Slot} : shD (.sh d :: r) 0 = .ok d := rfl
@[simp] theorem shD_cons {s : Slot} {r : List Slot} {i : Nat} : shD (s :: r) (i + 1) = shD r i := by simp [shD]
@[simp] theorem aug_add {i j : Int} : augB .add (.int i) (.int j) = .ok (.int (i + j)) := rfl
@[simp] theorem aug_sub {i j : Int} : augB .sub (.int i) (.int j) = .ok (.int (i - j)) := rfl
@[simp] theorem small_nat {k : Int} (h1 : -4000000000000000000 ≤ k) (h2 : k ≤ 4000000000000000000) : small k = true := by
  unfold small
  rw [decide_eq_true (by omega), decide_eq_true (by omega)]
  rfl
/-- over a range -/
theorem e_rng {own : List (Str × Nat)} {tg : Tg} {c : Tes} {e a : Ex} {j : Int} {u : Tag} {h : Nat → D} (hs : ev G a env = .ok (u, .int j)) (h0 : -4000000000000000000 ≤ j) (hl : j ≤ 16000000)
    (hi : ∀ x : Nat, (x : Int) < j → cprItem G tg c e (wipeE env (own.map (·.2))) .sh (.int x) = .ok (some (h x))) (he : isPr e = false := by rfl) : ev G (.cpr own tg (.rg1 a) c e) env = .ok (.ow, .list ((List.range j.toNat).map h)) := by
  refine e_map (t := .sh) (w := fun x : Nat => .int x) ?_ (by rw [List.length_range]; show j.toNat ≤ 16000000; omega) (fun x hx => hi x (by have := List.mem_range.mp hx; omega)) he
  rw [x_rg1, hs]
  simp [small_nat h0 (by omega), ranged]
theorem il_snoc {xs : List Int} {y : Int} : PyData.list (xs.map .int ++ [.int y]) = il (xs ++ [y]) := by simp [il]
theorem il_set {xs : List Int} {j : Nat} {y : Int} : PyData.list ((xs.map .int).set j (.int y)) = il (xs.set j y) := by
  simp [il, List.map_set]
theorem il_rng {n : Nat} {f : Nat → Int} : PyData.list ((List.range n).map fun x => .int (f x)) = il ((List.range n).map f) := by simp [il]
theorem abs_rng (n : Nat) (f : Nat → Int) (P : Int → Prop) (h : ∀ x, P (f x)) : ∃ X : List Int, (List.range n).map f = X ∧ X.length = n ∧ ∀ y ∈ X, P y :=
  ⟨_, rfl, by simp, fun y hy => by obtain ⟨x, _, rfl⟩ := List.mem_map.mp hy; exact h x⟩
@[simp] theorem lim0 : (0 ≤ lim) = True := by simp [lim]
@[simp] theorem lim1 : (1 ≤ lim) = True := by simp [lim]
@[simp] theorem lim2 : (2 ≤ lim) = True := by simp [lim]
@[simp] theorem lim3 : (3 ≤ lim) = True := by simp [lim]
@[simp] theorem lim4 : (4 ≤ lim) = True := by simp [lim]
@[simp] theorem lim5 : (5 ≤ lim) = True := by simp [lim]
@[simp] theorem lim6 : (6 ≤ lim) = True := by simp [lim]
@[simp] theorem lim7 : (7 ≤ lim) = True := by simp [lim]
@[simp] theorem le_lim {n : Nat} (h : n ≤ 16000000) : (n ≤ lim) = True := eq_true h
@[simp] theorem add_self {x : Str} {g : List D → R TD} : G.add x g x = some g := if_pos rfl
theorem add_ne {x y : Str} {g : List D → R TD} (h : y ≠ x) : G.add x g y = G y := if_neg h
@[simp] theorem x_dnew : ev G .dnew env = .ok (.ow, .dict []) := rfl
@[simp] theorem x_dix {a b : Ex} : ev G (.dix a b) env = (ev G a env).bind fun x => (ev G b env).bind fun y => evDix x y.2 := rfl
@[simp] theorem x_dcpy {a : Ex} : ev G (.dcpy a) env = (ev G a env).bind fun x => evDcp x := rfl
@[simp] theorem dcp_ok {t : Tag} {kvs : List (D × D)} : evDcp (t, .dict kvs) = .ok (t.kid.root, .dict kvs) := rfl
@[simp] theorem put_owd {i : Nat} {kvs : List (D × D)} : put env i (.ow, .dict kvs) = .nx (env.set i (.ow (.dict kvs))) := rfl
@[simp] theorem nt_dict {t : Tag} {kvs : List (D × D)} : nt t (.dict kvs) = t := rfl
@[simp] theorem y_setD {fz : List Nat} {i : Nat} {x e : Ex} : evS G n (.setD fz i x e) env = Out.of (frz fz env) (ev G e (frz fz env)) fun y => Out.of (frz fz env) (shOnly y) fun r => Out.of (frz fz env) (ownD (frz fz env) i) fun ds =>
      Out.of (frz fz env) (ev G x (frz fz env)) fun k => match dkey k.2 with
        | some kk => if ds.length < lim then .nx ((frz fz env).set i (.ow (.dict (dPutK ds kk r)))) else .stuck
        | none => .stuck := rfl
@[simp] theorem ownD_nil {ds : List (D × D)} {r : List Slot} : ownD (.ow (.dict ds) :: r) 0 = .ok ds := rfl
@[simp] theorem ownD_cons {s : Slot} {r : List Slot} {i : Nat} : ownD (s :: r) (i + 1) = ownD r i := by simp [ownD]
@[simp] theorem dkey_str {z : Str} : dkey (.str z) = some (Sum.inr z) := rfl
/-! ### trees -/
@[simp] theorem x_prT {es : Exs} : ev G (.prT es) env = (evs G es env).bind fun l => prD l := rfl
@[simp] theorem x_callK {f k : Str} {es : Exs} {v : Ex} {g : List D → R TD} (hg : G (kwn f k) = some g) : ev G (.callK f k es v) env = (evs G es env).bind fun l => (ev G v env).bind fun y => (g ((l ++ [y]).map (·.2))).bind fun r => .ok (callTag (jnL (l ++ [y])) r.1 r.2, r.2) := by
  show (match G (kwn f k) with | none => R.stuck | some g => _) = _
  rw [hg]
@[simp] theorem x_srk {a : Ex} {f : Str} {g : List D → R TD} (hg : G f = some g) : ev G (.srk f a) env = (ev G a env).bind fun x => evSrk G f x := by
  show (match G f with | none => R.stuck | some _ => _) = _
  rw [hg]
@[simp] theorem x_tmp {i : Nat} {a : Ex} : ev G (.tmp i a) env = (ev G a (frzI i env)).bind fun x => if scal x.2 = true then .ok (.sh, x.2) else .stuck := rfl
@[simp] theorem x_fst {es : Exs} : ev G (.fst es) env = (evFs G es Str.empty env).bind fun z => ok1 (.str z) := rfl
@[simp] theorem fs_nil {acc : Str} : evFs G .nil acc env = .ok acc := rfl
@[simp] theorem fs_cons {e : Ex} {es : Exs} {acc : Str} : evFs G (.cons e es) acc env = (nox (ev G e env)).bind fun x => match fmtD x.2 with | some y => if (acc ++ y).length ≤ lim then evFs G es (acc ++ y) env else .stuck | none => .stuck := rfl
@[simp] theorem str_str {t : Tag} {z : Str} : evBi .str [(t, .str z)] = .ok (.sh, .str z) := rfl
@[simp] theorem x_frz {a : Ex} : ev G (.frz a) env = (ev G a env).bind fun x => match (nt x.1 x.2).dm with | .sh => .ok (.sh, x.2) | _ => .stuck := rfl
@[simp] theorem put_tr {n : Nat} {xs : List D} : put env n (.tr, .list xs) = .nx (env.set n (.od (.list xs))) := rfl
@[simp] theorem put_trt {n : Nat} {xs : List D} : put env n (.tr, .tuple xs) = .nx (env.set n (.od (.tuple xs))) := rfl
@[simp] theorem nt_trl {xs : List D} : nt .tr (.list xs) = .tr := rfl
@[simp] theorem nt_trt {xs : List D} : nt .tr (.tuple xs) = .tr := rfl
@[simp] theorem sD_int : scalD (t, .int i) = .ok (.int i) := rfl
@[simp] theorem sD_none : scalD (t, .none) = .ok .none := rfl
@[simp] theorem tO_tr : treeOf (.tr, d) = .ok d := rfl
@[simp] theorem tO_ints {ns : List Int} : treeOf (.ow, .list (ns.map .int)) = .ok (.list (ns.map .int)) := by
  show (if (ns.map PyData.int).all scal = true then _ else _) = _
  exact if_pos (by rw [List.all_eq_true]; intro x hx; obtain ⟨y, _, rfl⟩ := List.mem_map.mp hx; rfl)
@[simp] theorem tO_nil : treeOf (.ow, .list []) = .ok (.list []) := rfl
@[simp] theorem prD_two {x y : TD} : prD [x, y] = (scalD x).bind fun d => (treeOf y).bind fun e => .ok (.tr, .tuple [d, e]) := rfl
theorem od_at {n : Nat} (h : env[n]? = some (.od d)) : odD env n = .ok d := by unfold odD; rw [h]
@[simp] theorem odD_nil {r : List Slot} : odD (.od d :: r) 0 = .ok d := rfl
@[simp] theorem odD_cons {s : Slot} {r : List Slot} {i : Nat} : odD (s :: r) (i + 1) = odD r i := by simp [odD]
@[simp] theorem ownT_nil {r : List Slot} : ownT (.od d :: r) 0 = .ok d := rfl
@[simp] theorem ownT_cons {s : Slot} {r : List Slot} {i : Nat} : ownT (s :: r) (i + 1) = ownT r i := by simp [ownT]
@[simp] theorem ownT_il {r : List Slot} {ns : List Int} : ownT (.ow (il ns) :: r) 0 = .ok (il ns) :=
  if_pos (by rw [List.all_eq_true]; intro x hx; obtain ⟨y, _, rfl⟩ := List.mem_map.mp hx; rfl)
@[simp] theorem tO_il {ns : List Int} : treeOf (.ow, il ns) = .ok (il ns) := tO_ints
@[simp] theorem asL_l : asL (.list xs) = .ok xs := rfl
@[simp] theorem y_asgO {fz : List Nat} {i : Nat} {e : Ex} : evS G n (.asgO fz i e) env = Out.of (frz fz env) (ev G e (frz fz env)) fun x => Out.of (frz fz env) (treeOf x) fun d => .nx ((frz fz env).set i (.od d)) := rfl
@[simp] theorem y_appO {fz : List Nat} {i : Nat} {e : Ex} : evS G n (.appO fz i e) env = Out.of (frz fz env) (odD (frz fz env) i) fun t => Out.of (frz fz env) (asL t) fun ds => Out.of (frz fz env) (ev G e (frz fz env)) fun y => Out.of (frz fz env) (treeOf y) fun r =>
      if ds.length < lim then .nx ((frz fz env).set i (.od (.list (ds ++ [r])))) else .stuck := rfl
@[simp] theorem y_rtp {a : Ex} {i : Nat} : evS G n (.rtp a i) env = Out.of env (ev G a env) fun x => Out.of env (scalD x) fun c => Out.of env (ownT env i) fun d => .ret .tr (.tuple [c, d]) := rfl
@[simp] theorem y_appP {i j : Nat} {a : Ex} : evS G n (.appP i a j) env = Out.of env (odD env i) fun t => Out.of env (asL t) fun ds => Out.of env (ev G a env) fun x => Out.of env (scalD x) fun c => Out.of env (ownT env j) fun d =>
      if i ≠ j ∧ ds.length < lim then .nx ((env.set j .no).set i (.od (.list (ds ++ [.tuple [c, d]])))) else .stuck := rfl
@[simp] theorem y_mov {i j : Nat} : evS G n (.mov i j) env = Out.of env (odD env j) fun d => if i ≠ j then .nx ((env.set j .no).set i (.od d)) else .stuck := rfl
@[simp] theorem y_movX {i j : Nat} {e : Ex} : evS G n (.movX i j e) env = Out.of env (odD env j) fun t => Out.of env (ev G e env) fun a => Out.of env (isInt a.2) fun a => Out.of env (itemsR t) fun ds => Out.of env (placed ds a) fun p => if i ≠ j then .nx ((env.set j .no).set i (.od p.2)) else .stuck := rfl
@[simp] theorem y_appXO {i : Nat} {k e : Ex} : evS G n (.appXO i k e) env = Out.of env (odD env i) fun d => Out.of env (ev G k env) fun a => Out.of env (isInt a.2) fun a => Out.of env (rowL a d) fun p => Out.of env (ev G e env) fun y => Out.of env (treeOf y) fun c =>
      if p.2.length < lim then .nx (env.set i (.od (putAt d p.1 (.list (p.2 ++ [c]))))) else .stuck := rfl
@[simp] theorem y_lopX {i j : Nat} {kk : Ex} {k : Int} {c : Const} : evS G n (.lopX i j kk k c) env = Out.of env (odD env i) fun t => Out.of env (ev G kk env) fun a => Out.of env (isInt a.2) fun a => Out.of env (rowL a t) fun p => match constD c with
      | some c => if i ≠ j ∧ j < env.length then Out.of env (eachR (rowA k c) p.2) fun es => .nx ((env.set j .no).set i (.od (putAt t p.1 (.list es)))) else .stuck
      | none => .stuck := rfl
@[simp] theorem y_setXX {i : Nat} {k x e : Ex} : evS G n (.setXX i k x e) env = Out.of env (ev G e env) fun y => Out.of env (scalD y) fun c => Out.of env (odD env i) fun d => Out.of env (ev G k env) fun a => Out.of env (isInt a.2) fun a => Out.of env (rowL a d) fun p =>
      Out.of env (ev G x env) fun b => Out.of env (isInt b.2) fun b => Out.of env (rowS p b c d) fun d2 => .nx (env.set i (.od d2)) := rfl
@[simp] theorem y_appX {i : Nat} {k e : Ex} : evS G n (.appX i k e) env = Out.of env (odD env i) fun d => Out.of env (ev G k env) fun a => Out.of env (isInt a.2) fun a => Out.of env (rowL a d) fun p => Out.of env (ev G e env) fun y => Out.of env (scalD y) fun c =>
      if p.2.length < lim then .nx (env.set i (.od (putAt d p.1 (.list (p.2 ++ [c]))))) else .stuck := rfl
@[simp] theorem y_lopA {i j : Nat} {k : Int} {c : Const} : evS G n (.lopA i j k c) env = Out.of env (odD env i) fun t => Out.of env (asL t) fun ds => match constD c with
      | some c => if i ≠ j ∧ j < env.length then Out.of env (eachR (rowA k c) ds) fun es => .nx ((env.set j .no).set i (.od (.list es))) else .stuck
      | none => .stuck := rfl
@[simp] theorem y_lopS {i j : Nat} {k : Int} {x e : Ex} : evS G n (.lopS i j k x e) env = Out.of env (odD env i) fun t => Out.of env (asL t) fun ds => if i ≠ j ∧ j < env.length then
      Out.of env (nox (eachR (fun d => (ev G e ((env.set i .no).set j (.od d))).bind fun y => (scalD y).bind fun c => (rowL k d).bind fun p => (ev G x ((env.set i .no).set j (.od d))).bind fun b => (isInt b.2).bind fun b => rowS p b c d) ds)) fun es =>
        .nx ((env.set j .no).set i (.od (.list es))) else .stuck := rfl
@[simp] theorem x_glo {x : Str} {g : List D → R TD} (hg : G (cgn x) = some g) : ev G (.glo x) env = g [] := by
  unfold ev
  rw [hg]
@[simp] theorem x_callD {f : Str} {es : Exs} {g : List D → R TD} (hg : G (dfn f) = some g) : ev G (.callD f es) env = (evs G es env).bind fun l => (g (l.map (·.2))).bind fun r => .ok (callTag (jnL l) r.1 r.2, r.2) := by
  unfold ev
  rw [hg]
@[simp] theorem x_srd {a : Ex} : ev G (.srd a) env = (ev G a env).bind fun x => evSrd x := rfl
@[simp] theorem x_lrv {a : Ex} : ev G (.lrv a) env = (ev G a env).bind fun x => evRev x := rfl
@[simp] theorem x_trI {a : Ex} : ev G (.trI a) env = (ev G a env).bind fun x => (treeOf x).bind fun d => .ok (.tr, d) := rfl
@[simp] theorem x_lsT {a : Ex} : ev G (.lsT a) env = (ev G a env).bind fun x => (treeOf x).bind fun d => .ok (.tr, .list [d]) := rfl
@[simp] theorem x_rgd {a b : Ex} : evSrc G (.rgd a b) env = (ev G a env).bind fun x => (ev G b env).bind fun y => (isInt x.2).bind fun i => (isInt y.2).bind fun j => if small i && small j then .ok (.sh, rangedD i j) else .stuck := rfl
@[simp] theorem tO_dnew : treeOf (.ow, .dict []) = .ok (.dict []) := rfl
@[simp] theorem asD_d {kvs : List (D × D)} : asD (.dict kvs) = .ok kvs := rfl
@[simp] theorem dkey_int {i : Int} : dkey (.int i) = some (Sum.inl i) := rfl
@[simp] theorem y_sda {i : Nat} {k e : Ex} : evS G n (.sda i k e) env = Out.of env (odD env i) fun d => Out.of env (asD d) fun kvs => Out.of env (ev G k env) fun a => match dkey a.2 with
      | none => .stuck
      | some kk => Out.of env (sdRow kvs kk) fun ws => Out.of env (nox (ev G e (env.set i .no))) fun y => Out.of env (scalD y) fun c =>
        if kvs.length < lim ∧ ws.length < lim then .nx (env.set i (.od (.dict (dPutK kvs kk (.list (ws ++ [c])))))) else .stuck := rfl
@[simp] theorem y_rtc {x : Str} {j i : Nat} {a : Ex} : evS G n (.rtc x j i a) env = Out.of env (odD env i) fun t => Out.of env (asL t) fun ds => Out.of env (nox (ev G a (env.set j .no))) fun y => Out.of env (scalD y) fun c =>
      if sortOk ds = true ∧ i ≠ j ∧ j < env.length ∧ ds.length ≤ lim then .ret .tr (.list ((sortV ds ds).map fun d => .tuple [c, d])) else .stuck := rfl
theorem y_rts {f : Str} {i : Nat} : evS G n (.rts f i) env = match G f with
    | none => .stuck
    | some g => Out.of env (odD env i) fun t => Out.of env (asL t) fun ds => match keysOf g ds with
      | some ks => if sortOk ks = true then .ret .tr (.list (sortV ds ks)) else .stuck
      | none => .stuck := rfl
@[simp] theorem y_apc {e c : Ex} : evS G n (.apc e c) env = Out.of env (ev G e env) fun x => match x with
    | (.ow, .list ds) => Out.of env (nox (ev G c env)) fun y => Out.of env (scalD y) fun _ => if ds.length < lim then .nx env else .stuck
    | _ => .stuck := rfl
@[simp] theorem y_appT {i j : Nat} : evS G n (.appT i j) env = Out.of env (odD env i) fun t => Out.of env (asL t) fun ds => Out.of env (ownT env j) fun d => if i ≠ j ∧ ds.length < lim then .nx ((env.set j .no).set i (.od (.list (ds ++ [d])))) else .stuck := rfl
@[simp] theorem y_lopP {fz : List Nat} {i j : Nat} {e x : Ex} {c : Int} : evS G n (.lopP fz i j e x c) env = Out.of (frz fz env) (ev G e (frz fz env)) fun s => Out.of (frz fz env) (treeOf s) fun t => Out.of (frz fz env) (asL t) fun ds => Out.of (frz fz env) (odD (frz fz env) i) fun u => Out.of (frz fz env) (asL u) fun fs =>
      if i ≠ j ∧ j < (frz fz env).length ∧ fs.length + ds.length < lim then
        Out.of (frz fz env) (nox (eachR (fun d => (ev G x (((frz fz env).set i .no).set j .no)).bind fun b => (isInt b.2).bind fun b => bump b c d) ds)) fun es => .nx (((frz fz env).set j .no).set i (.od (.list (fs ++ es)))) else .stuck := rfl
@[simp] theorem y_ins {fz : List Nat} {i : Nat} {k e : Ex} : evS G n (.ins fz i k e) env = Out.of (frz fz env) (ownL (frz fz env) i) fun ds => Out.of (frz fz env) (ev G k (frz fz env)) fun a => Out.of (frz fz env) (isInt a.2) fun a => Out.of (frz fz env) (ev G e (frz fz env)) fun y => Out.of (frz fz env) (shOnly y) fun r =>
      if 0 ≤ a ∧ a ≤ 1000000 ∧ ds.length < lim then .nx ((frz fz env).set i (.ow (.list (ds.take a.toNat ++ [r] ++ ds.drop a.toNat)))) else .stuck := rfl
@[simp] theorem y_chg {i : Nat} {x e : Ex} {g : List D → R TD} (hg : G "!changed" = some g) : evS G n (.chg i x e) env = Out.of env (ownL env i) fun ds => Out.of env (ev G x env) fun a => Out.of env (isInt a.2) fun a => Out.of env (ev G e env) fun b => Out.of env (isInt b.2) fun b =>
      Out.of env (chgV ds a b) fun es => .nx (env.set i (.ow (.list es))) := by
  show (match G "!changed" with | none => Out.stuck | some _ => _) = _
  rw [hg]
theorem ownT_od {n : Nat} (h : env[n]? = some (.od d)) : ownT env n = .ok d := by unfold ownT; rw [h]
theorem ownT_ints {n : Nat} {ns : List Int} (h : env[n]? = some (.ow (.list (ns.map .int)))) : ownT env n = .ok (.list (ns.map .int)) := by
  unfold ownT
  rw [h]
  exact if_pos (by rw [List.all_eq_true]; intro x hx; obtain ⟨y, _, rfl⟩ := List.mem_map.mp hx; rfl)
theorem eachR_map {γ : Type} {f : D → R D} {w h : γ → D} : ∀ {l : List γ}, (∀ x ∈ l, f (w x) = .ok (h x)) → eachR f (l.map w) = .ok (l.map h)
  | [], _ => rfl
  | a :: r, k => by
    rw [List.map_cons, List.map_cons]
    unfold eachR
    rw [k a List.mem_cons_self, eachR_map fun x hx => k x (List.mem_cons_of_mem _ hx)]
    rfl
@[simp] theorem nox_k {α : Type} {a : α} : nox (.ok a) = .ok a := rfl
end
end PV

/-! PvRep: how long a repr is, of data without texts. -/
namespace PV
open PySem L2
mutual
def rep : D → Bool
  | .none => true
  | .bool _ => true
  | .int i => decide (i.natAbs.log2 < 1920)
  | .list xs => repAll xs
  | .tuple xs => repAll xs
  | _ => false
def repAll : List D → Bool
  | [] => true
  | x :: r => rep x && repAll r
end
mutual
def bnd : D → Nat
  | .list xs => bndAll xs + 2
  | .tuple xs => bndAll xs + 3
  | _ => 1921
def bndAll : List D → Nat
  | [] => 0
  | x :: r => bnd x + 2 + bndAll r
end
theorem textFrom_le : ∀ (ts : List Str) (k : Nat) (acc : Str), (textFrom k acc ts).length ≤ acc.length + piled ts
  | [], k, acc => Nat.le_add_right _ _
  | t :: r, k, acc => by
    have ih := textFrom_le r (k + 1) (acc ++ (if k > 0 then ", " else "" : String) ++ t)
    have e : (acc ++ (if k > 0 then ", " else "" : String) ++ t).length ≤ acc.length + 2 + t.length := by
      rw [strLen_append, strLen_append]
      split
      · exact Nat.le_of_eq rfl
      · have : ((("" : String) : Str)).length = 0 := rfl
        omega
    rw [piled_cons]
    show (textFrom (k + 1) _ r).length ≤ _
    omega
theorem listText_le (ts : List Str) : (listText ts).length ≤ piled ts + 2 := by
  have h := textFrom_le ts 0 "["
  unfold listText
  rw [strLen_append]
  have e1 : (("]" : String) : Str).length = 1 := rfl
  have e2 : (("[" : String) : Str).length = 1 := rfl
  omega
theorem tupleText_le (ts : List Str) : (tupleText ts).length ≤ piled ts + 3 := by
  unfold tupleText
  rw [strLen_append, strLen_append]
  have e1 : (("(" : String) : Str).length = 1 := rfl
  have e3 : ((if (ts.length == 1) = true then ",)" else ")" : String) : Str).length ≤ 2 := by
    split
    · exact Nat.le_of_eq rfl
    · exact Nat.le_succ_of_le (Nat.le_of_eq rfl)
  have e2 : (Str.join ", " ts).length ≤ piled ts := by
    cases ts with
    | nil => exact Nat.zero_le _
    | cons t r =>
      have := join_length_add (t :: r) (by simp)
      omega
  omega
mutual
theorem shown_le : ∀ d : D, rep d = true → (PyData.shown d).length ≤ bnd d ∧ d.showable = true ∧ d.canLay0 = true
  | .none, _ => by
    refine ⟨?_, by simp [PyData.showable], by simp [PyData.canLay0]⟩
    simp only [PyData.shown, bnd]
    exact (by decide : 4 ≤ 1921)
  | .bool b, _ => by
    refine ⟨?_, by simp [PyData.showable], by simp [PyData.canLay0]⟩
    simp only [PyData.shown, bnd]
    cases b
    · exact (by decide : 5 ≤ 1921)
    · exact (by decide : 4 ≤ 1921)
  | .int i, h => by
    have h' : i.natAbs.log2 < 1920 := by simpa [rep] using h
    refine ⟨?_, by simpa [PyData.showable] using h', by simp [PyData.canLay0]⟩
    simp only [PyData.shown, bnd]
    exact PyProof.Rows.int_text_len_1921 h'
  | .list xs, h => by
    obtain ⟨h1, h2, h3⟩ := shownAll_le xs (by simpa [rep] using h)
    refine ⟨?_, by simpa [PyData.showable] using h2, by simpa [PyData.canLay0] using h3⟩
    simp only [PyData.shown, bnd]
    exact Nat.le_trans (listText_le _) (by omega)
  | .tuple xs, h => by
    obtain ⟨h1, h2, h3⟩ := shownAll_le xs (by simpa [rep] using h)
    refine ⟨?_, by simpa [PyData.showable] using h2, by simpa [PyData.canLay0] using h3⟩
    simp only [PyData.shown, bnd]
    exact Nat.le_trans (tupleText_le _) (by omega)
  | .str _, h => by simp [rep] at h
  | .dict _, h => by simp [rep] at h
theorem shownAll_le : ∀ xs : List D, repAll xs = true → piled (PyData.shownAll xs) ≤ bndAll xs ∧ PyData.showableAll xs = true ∧ PyData.canLayAll0 xs = true
  | [], _ => ⟨by simp [PyData.shownAll, piled, bndAll], by simp [PyData.showableAll], by simp [PyData.canLayAll0]⟩
  | x :: r, h => by
    simp only [repAll, Bool.and_eq_true] at h
    obtain ⟨a1, a2, a3⟩ := shown_le x h.1
    obtain ⟨b1, b2, b3⟩ := shownAll_le r h.2
    refine ⟨?_, by simp [PyData.showableAll, a2, b2], by simp [PyData.canLayAll0, a3, b3]⟩
    rw [show PyData.shownAll (x :: r) = PyData.shown x :: PyData.shownAll r from by simp [PyData.shownAll], piled_cons]
    simp only [bndAll]
    omega
end
theorem reprOk_of {d : D} (h : rep d = true) (hb : bnd d ≤ 16000000) (hd : d.depth ≤ 60) : reprOk d = true := by
  obtain ⟨h1, h2, h3⟩ := shown_le d h
  unfold reprOk
  rw [h2, h3, decide_eq_true (Nat.le_trans h1 hb), decide_eq_true hd]
  rfl
theorem repr_list {t : Tag} {xs : List D} (h : reprOk (.list xs) = true) : evBi .repr [(t, .list xs)] = .ok (.sh, .str (PyData.shown (.list xs))) := by
  show PV.guard (reprOk (.list xs)) _ = _
  rw [h]
  rfl
theorem repr_tuple {t : Tag} {xs : List D} (h : reprOk (.tuple xs) = true) : evBi .repr [(t, .tuple xs)] = .ok (.sh, .str (PyData.shown (.tuple xs))) := by
  show PV.guard (reprOk (.tuple xs)) _ = _
  rw [h]
  rfl
theorem small_log {i : Int} (h1 : -1000000000000000000000000 < i) (h2 : i < 1000000000000000000000000) : i.natAbs.log2 < 1920 := by
  by_cases h0 : i.natAbs = 0
  · rw [h0]
    decide
  · have h3 : i.natAbs < 2 ^ 80 := by omega
    have h4 : i.natAbs.log2 < 80 := (Nat.log2_lt h0).mpr h3
    omega
theorem rep_ints : ∀ {xs : List Int}, (∀ x ∈ xs, -1000000000000000000000000 < x ∧ x < 1000000000000000000000000) → repAll (xs.map .int) = true
  | [], _ => by simp [repAll]
  | x :: r, h => by
    have hx := h x List.mem_cons_self
    have := rep_ints fun y hy => h y (List.mem_cons_of_mem _ hy)
    simp only [List.map_cons, repAll, rep, this, Bool.and_true]
    exact decide_eq_true (small_log hx.1 hx.2)
theorem bnd_ints : ∀ xs : List Int, bndAll (xs.map .int) = xs.length * 1923
  | [] => by simp [bndAll]
  | x :: r => by
    simp only [List.map_cons, bndAll, bnd, bnd_ints r, List.length_cons]
    omega
theorem depth_ints : ∀ xs : List Int, PyData.depthAll (xs.map .int) = 0
  | [] => by simp [PyData.depthAll]
  | x :: r => by simp [PyData.depthAll, PyData.depth, depth_ints r]
@[simp] theorem eq_strs {x y : Str} : evCmp .eq (.str x) (.str y) = .ok (decide (x = y)) := rfl
@[simp] theorem ne_strs {x y : Str} : evCmp .ne (.str x) (.str y) = .ok (!decide (x = y)) := rfl
@[simp] theorem ne_bool {x y : Bool} : evCmp .ne (.bool x) (.bool y) = .ok (x != y) := by
  cases x <;> cases y <;> rfl
@[simp] theorem eq_bool {x y : Bool} : evCmp .eq (.bool x) (.bool y) = .ok (x == y) := by
  cases x <;> cases y <;> rfl
end PV

/-! PvStr: short texts of plain signs. -/
namespace PV
open PySem L2
abbrev sl (xs : List Str) : D := .list (xs.map .str)
/-- a text of at most n signs -/
def Fine (n : Nat) (s : Str) : Prop := PyData.strOk s = true ∧ s.length ≤ n
theorem Fine.le {n m : Nat} {s : Str} (h : Fine n s) (l : n ≤ m) : Fine m s := ⟨h.1, Nat.le_trans h.2 l⟩
theorem Fine.add {n m : Nat} {a b : Str} (h : Fine n a) (k : Fine m b) : Fine (n + m) (a ++ b) := by
  refine ⟨?_, ?_⟩
  · show ((a.cps ++ b.cps).all (· < 0x110000)) = true
    have h1 : (a.cps.all (· < 0x110000)) = true := h.1
    have h2 : (b.cps.all (· < 0x110000)) = true := k.1
    rw [Array.all_append, h1, h2]
    rfl
  · show (a.cps ++ b.cps).size ≤ n + m
    have h1 : a.cps.size ≤ n := h.2
    have h2 : b.cps.size ≤ m := k.2
    rw [Array.size_append]
    omega
theorem Fine.of {n : Nat} (s : String) (h : s.length ≤ n) : Fine n (Str.ofString s) := by
  refine ⟨?_, ?_⟩
  · rw [Str.ofString_eq_toList]
    show ((s.toList.map Char.toNat).toArray.all (· < 0x110000)) = true
    rw [List.all_toArray, List.all_map, List.all_eq_true]
    intro c _
    have := c.valid
    show decide (c.toNat < 0x110000) = true
    rcases this with h | ⟨_, h⟩
    · exact decide_eq_true (Nat.lt_trans h (by decide))
    · exact decide_eq_true h
  · rw [ofString_length]
    exact h
/-- one sign -/
def chr (z : Str) (n : Nat) : Str := ⟨#[z.cps.getD n 0]⟩
theorem Fine.chr {m n : Nat} {z : Str} (h : Fine m z) : Fine 1 (chr z n) := by
  refine ⟨?_, Nat.le_refl _⟩
  show (#[z.cps.getD n 0].all (· < 0x110000)) = true
  have h1 : (z.cps.all (· < 0x110000)) = true := h.1
  rw [Array.all_eq_true] at h1
  have : z.cps.getD n 0 < 0x110000 := by
    rw [Array.getD_eq_getD_getElem?]
    by_cases c : n < z.cps.size
    · rw [Array.getElem?_eq_getElem c]
      simpa using h1 n c
    · rw [Array.getElem?_eq_none (by omega)]
      decide
  simpa using this
theorem ixs {t : Tag} {z : Str} {i : Int} (hl : z.length ≤ 16000000) (h : 0 ≤ i) (h2 : i < z.length) : evIx (t, .str z) (.int i) = .ok (.sh, .str (chr z i.toNat)) := by
  show PV.guard (decide (z.length ≤ lim)) (match L2.atI z.cps.toList i with | some c => ok1 (.str ⟨#[c]⟩) | none => .stuck) = _
  have hn : i.toNat < z.cps.size := by
    have : i < z.cps.size := h2
    omega
  rw [decide_eq_true (show z.length ≤ lim from hl), atI_at (n := i.toNat) (x := z.cps[i.toNat]) (by omega) (by rw [Array.getElem?_toList]; exact Array.getElem?_eq_getElem hn)]
  show R.ok (Tag.sh, PyData.str ⟨#[z.cps[i.toNat]]⟩) = _
  unfold chr
  rw [Array.getD_eq_getD_getElem?, Array.getElem?_eq_getElem hn]
  rfl
theorem cat_str {s t : Tag} {a b : Str} (h : a.length + b.length ≤ 16000000) : evBin .add (s, .str a) (t, .str b) = .ok (.sh, .str (a ++ b)) := by
  show PV.guard (decide (a.length + b.length ≤ lim)) _ = _
  rw [decide_eq_true (show a.length + b.length ≤ lim from h)]
  rfl
theorem Fine.cut {n : Nat} {z : Str} {lo hi : Option Int} (h : Fine n z) : Fine n (cutS z lo hi) := by
  have h1 : (z.cps.all (· < 0x110000)) = true := h.1
  have h2 : z.cps.size ≤ n := h.2
  unfold cutS
  generalize HT.sIx z.length 0 lo = a
  generalize HT.sIx z.length z.length hi - a = b
  refine ⟨?_, ?_⟩
  · show ((List.take b (List.drop a z.cps.toList)).toArray.all (· < 0x110000)) = true
    rw [List.all_toArray, List.all_eq_true]
    intro c hc
    rw [← Array.all_toList, List.all_eq_true] at h1
    exact h1 c (List.mem_of_mem_drop (List.mem_of_mem_take hc))
  · show ((List.take b (List.drop a z.cps.toList)).toArray).size ≤ n
    rw [List.size_toArray, List.length_take, List.length_drop, Array.length_toList]
    omega
theorem sl_str {t : Tag} {z : Str} {lo hi : Option Int} (h : z.length ≤ 16000000) : evSl (t, .str z) lo hi = .ok (.sh, .str (cutS z lo hi)) := by
  show PV.guard (decide (z.length ≤ lim)) _ = _
  rw [decide_eq_true (show z.length ≤ lim from h)]
  rfl
theorem strL_of : ∀ l : List Str, strL (l.map PyData.str) = some l
  | [] => rfl
  | x :: r => by
    show (strL (r.map PyData.str)).map (x :: ·) = _
    rw [strL_of r]
    rfl
/-- one-sign texts joined -/
theorem join_fine {ys : List Str} (h : ∀ y ∈ ys, Fine 1 y) (hl : ys.length ≤ 1000) : ∃ s, evJoin "" (sl ys) = .ok (.sh, .str s) ∧ Fine ys.length s := by
  have sum : (ys.map (·.length)).sum ≤ ys.length := by
    clear hl
    induction ys with
    | nil => exact Nat.le_refl _
    | cons y r ih =>
      have h1 := (h y List.mem_cons_self).2
      have h2 := ih fun z hz => h z (List.mem_cons_of_mem _ hz)
      rw [List.map_cons, List.sum_cons, List.length_cons]
      omega
  have e0 : (("" : String) : Str).length = 0 := rfl
  refine ⟨Txt.join "" ys, ?_, ?_⟩
  · show (match strL (ys.map PyData.str) with | some (ys : List Str) => PV.guard (decide ((ys.map (fun y : Str => y.length)).sum + ys.length * (("" : String) : Str).length ≤ lim)) (ok1 (.str (Txt.join "" ys))) | none => .stuck) = _
    rw [strL_of]
    show PV.guard (decide ((ys.map (fun y : Str => y.length)).sum + ys.length * (("" : String) : Str).length ≤ lim)) _ = _
    rw [e0, Nat.mul_zero, Nat.add_zero, decide_eq_true (show (ys.map (·.length)).sum ≤ lim by show _ ≤ 16000000; omega)]
    rfl
  · have ej : Txt.join "" ys = Str.join "" ys := StrLaws.glued_eq_join _ _
    refine ⟨?_, ?_⟩
    · rw [ej]
      clear hl sum ej
      induction ys with
      | nil => exact (by decide +kernel : PyData.strOk (Str.join "" []) = true)
      | cons y r ih =>
        cases r with
        | nil => exact (h y List.mem_cons_self).1
        | cons z s =>
          have := ih fun w hw => h w (List.mem_cons_of_mem _ hw)
          exact ((Fine.add (n := _) (m := _) (Fine.add (n := 1) (m := 0) (h y List.mem_cons_self) ⟨(by decide +kernel : PyData.strOk (Str.ofString "") = true), Nat.le_refl _⟩) (⟨this, Nat.le_refl _⟩ : Fine (Str.join "" (z :: s)).length _))).1
    · rw [ej]
      have := StrLaws.join_length_le "" ys
      rw [e0, Nat.mul_zero, Nat.add_zero] at this
      omega
theorem shaped_str {n : Nat} {s : Str} (h : Fine n s) : SeqAt.shaped (.str s) = true := by
  simp [SeqAt.shaped, PyData.canLay0, PyData.depth, h.1]
theorem depth_strs : ∀ xs : List Str, PyData.depthAll (xs.map .str) = 0
  | [] => by simp [PyData.depthAll]
  | x :: r => by simp [PyData.depthAll, PyData.depth, depth_strs r]
theorem lay_strs : ∀ {xs : List Str}, (∀ s ∈ xs, PyData.strOk s = true) → PyData.canLayAll0 (xs.map .str) = true
  | [], _ => by simp [PyData.canLayAll0]
  | x :: r, h => by simp [PyData.canLayAll0, PyData.canLay0, h x List.mem_cons_self, lay_strs fun y hy => h y (List.mem_cons_of_mem _ hy)]
theorem shaped_strs {xs : List Str} (h : ∀ s ∈ xs, PyData.strOk s = true) : SeqAt.shaped (sl xs) = true := by
  simp [SeqAt.shaped, PyData.canLay0, PyData.depth, depth_strs, lay_strs h]
theorem in_strs {n : Nat} {s : Str} {xs : List Str} (h : Fine n s) (hx : ∀ s ∈ xs, PyData.strOk s = true) : evCmp .inn (.str s) (sl xs) = .ok (xs.any fun t => decide (t = s)) := by
  show gB (both (.str s) (sl xs)) ((xs.map PyData.str).any fun z => PyData.eqv z (.str s)) = _
  unfold both
  rw [shaped_str h, shaped_strs hx, List.any_map]
  have : ((fun z => PyData.eqv z (.str s)) ∘ PyData.str) = fun t => decide (t = s) := by
    funext t
    show PyData.eqv (.str t) (.str s) = _
    unfold PyData.eqv
    first | rfl | (by_cases e : t = s <;> simp [e])
  rw [this]
  rfl
theorem str_int {t : Tag} {i : Int} (h1 : -1000000000000000000000000 < i) (h2 : i < 1000000000000000000000000) : ∃ s, evBi .str [(t, .int i)] = .ok (.sh, .str s) ∧ Fine 1921 s := by
  refine ⟨Str.ofString (toString i), ?_, ?_⟩
  · show PV.guard (decide (i.natAbs.log2 < 1920)) _ = _
    rw [decide_eq_true (small_log h1 h2)]
    rfl
  · refine Fine.of _ ?_
    have := PyProof.Rows.int_text_len_1921 (small_log h1 h2)
    rwa [ofString_length] at this
@[simp] theorem put_str {t : Tag} {env : Env} {n : Nat} {z : Str} : put env n (t, .str z) = .nx (env.set n (.sh (.str z))) := rfl
@[simp] theorem shOnly_str {t : Tag} {z : Str} : shOnly (t, .str z) = .ok (.str z) := rfl
theorem sl_snoc {xs : List Str} {y : Str} : PyData.list (xs.map .str ++ [.str y]) = sl (xs ++ [y]) := by simp [sl]
theorem rep_list {s : Tag} {xs : List D} {k : Int} (h0 : 0 ≤ k) (hk : k ≤ 16000000) (h : xs.length * k.toNat ≤ 16000000) : evBin .mul (.ow, .list xs) (s, .int k) = .ok (.ow, .list (List.replicate k.toNat xs).flatten) := by
  show PV.guard (isRt .ow && decide (0 ≤ k) && decide (k ≤ (lim : Int)) && decide (xs.length * k.toNat ≤ lim)) _ = _
  rw [decide_eq_true h0, decide_eq_true (show k ≤ (lim : Int) from hk), decide_eq_true (show xs.length * k.toNat ≤ lim from h)]
  rfl
@[simp] theorem bt_four {n m l j : Nat} {a b c d : D} {env : Env} : bindT (.tp [n, m, l, j]) (.sh, .tuple [a, b, c, d]) env = some ((((env.set n (.sh a)).set m (.sh b)).set l (.sh c)).set j (.sh d)) := rfl
@[simp] theorem bt_six {n m l j k o : Nat} {a b c d e f : D} {env : Env} : bindT (.tp [n, m, l, j, k, o]) (.sh, .tuple [a, b, c, d, e, f]) env = some ((((((env.set n (.sh a)).set m (.sh b)).set l (.sh c)).set j (.sh d)).set k (.sh e)).set o (.sh f)) := rfl
end PV
namespace PV
open PySem L2
def gs (l : List Str) (n : Nat) : Str := l.getD n ""
theorem gs_some {l : List Str} {n : Nat} (h : n < l.length) : l[n]? = some (gs l n) := by
  unfold gs
  rw [List.getD_eq_getElem?_getD, List.getElem?_eq_getElem h]
  rfl
theorem gs_mem {l : List Str} {n : Nat} (h : n < l.length) : gs l n ∈ l := List.mem_of_getElem? (gs_some h)
theorem ixz {t : Tag} {ns : List Str} {i : Int} (h : 0 ≤ i) (h2 : i < ns.length) : evIx (t, sl ns) (.int i) = .ok (.sh, .str (gs ns i.toNat)) := by
  have hl : i.toNat < ns.length := by omega
  rw [ixl_at (n := i.toNat) (d := .str (gs ns i.toNat)) (by omega) (by rw [List.getElem?_map, gs_some hl]; rfl), nt_str]
theorem sl_rng {n : Nat} {f : Nat → Str} : PyData.list ((List.range n).map fun x => .str (f x)) = sl ((List.range n).map f) := by simp [sl]
end PV

namespace K07
open PySem L2 PV
def bs : List Str := ["abs", "bool", "enumerate", "int", "isinstance", "len", "min", "range", "repr", "str", "sum", "tuple"]
def cs : List Str := []
def at_ (i : Nat) : Stmt := PySem.Challenge.pw_legion_k07_programs_written.main.body.getD i (.Pass ⟨0, 0, 0, 0⟩)
/-! ### bodies_of -/
abbrev s_bodies_of : Stmt := at_ 1
def N_bodies_of : List Str := ["statement"]
def p_bodies_of : List Str := ["statement"]
def b_bodies_of : List Sx := [.ifs (.val (.cmp .eq (.ix (.var 0) (.cst (.int 0))) (.cst (.str "if")))) [.ret [] (.lst (.cons (.ix (.var 0) (.cst (.int 2))) (.cons (.ix (.var 0) (.cst 
  (.int 3))) .nil)))] [], .ifs (.val (.cmp .eq (.ix (.var 0) (.cst (.int 0))) (.cst (.str "loop")))) [.ret [] (.lst (.cons (.ix (.var 0) (.cst (.int 2))) .nil))] [], .ifs (.val (.cmp 
  .eq (.ix (.var 0) (.cst (.int 0))) (.cst (.str "choose")))) [.ret [] (.ix (.var 0) (.cst (.int 1)))] [], .ret [] (.lst .nil)]
def g_bodies_of : List D → R TD := evDef Gam.none 10000 1 1 b_bodies_of
theorem h_bodies_of : chkSs N_bodies_of bs cs (defScope s_bodies_of) b_bodies_of (defBody s_bodies_of) = true := by decide +kernel
theorem c_bodies_of : FnScope N_bodies_of p_bodies_of (defScope s_bodies_of) := ⟨rfl, rfl, rfl, by decide +kernel, rfl, by decide +kernel, by decide +kernel⟩
def G_bodies_of : Gam := Gam.none.add "bodies_of" g_bodies_of
/-! ### written -/
abbrev s_written : Stmt := at_ 3
def N_written : List Str := ["item", "part"]
def p_written : List Str := ["item"]
def b_written : List Sx := [.ifs (.tru (.isi (.var 0) .tuple)) [.ret [] (.join (.cst (.str " ")) (.cpr [("part", 1)] (.nm 1) (.tup (.var 0)) .nil (.call "written" (.cons (.var 1) .nil))))] 
  [], .ifs (.val (.cmp .is (.var 0) (.cst (.bool true)))) [.ret [] (.cst (.str "true"))] [], .ifs (.val (.cmp .is (.var 0) (.cst (.bool false)))) [.ret [] (.cst (.str "false"))] [], 
  .ret [] (.bi .str (.cons (.var 0) .nil))]
def g_written : List D → R TD := gRec G_bodies_of "written" 10000 2 1 b_written 12
theorem h_written : chkSs N_written bs cs (defScope s_written) b_written (defBody s_written) = true := by decide +kernel
theorem c_written : FnScope N_written p_written (defScope s_written) := ⟨rfl, rfl, rfl, by decide +kernel, rfl, by decide +kernel, by decide +kernel⟩
def G_written : Gam := G_bodies_of.add "written" g_written
/-! ### line_of -/
abbrev s_line_of : Stmt := at_ 4
def N_line_of : List Str := ["statement", "part"]
def p_line_of : List Str := ["statement"]
def b_line_of : List Sx := [.ifs (.or (.cons (.val (.cmp .eq (.ix (.var 0) (.cst (.int 0))) (.cst (.str "if")))) (.cons (.val (.cmp .eq (.ix (.var 0) (.cst (.int 0))) (.cst (.str "loop")))) 
  .nil))) [.ret [] (.bin .add (.bin .add (.ix (.var 0) (.cst (.int 0))) (.cst (.str " "))) (.call "written" (.cons (.ix (.var 0) (.cst (.int 1))) .nil)))] [], .ifs (.val (.cmp .eq (.ix 
  (.var 0) (.cst (.int 0))) (.cst (.str "choose")))) [.ret [] (.cst (.str "choose"))] [], .ret [] (.join (.cst (.str " ")) (.cpr [("part", 1)] (.nm 1) (.tup (.var 0)) .nil (.call "written" 
  (.cons (.var 1) .nil))))]
def g_line_of : List D → R TD := evDef G_written 10000 2 1 b_line_of
theorem h_line_of : chkSs N_line_of bs cs (defScope s_line_of) b_line_of (defBody s_line_of) = true := by decide +kernel
theorem c_line_of : FnScope N_line_of p_line_of (defScope s_line_of) := ⟨rfl, rfl, rfl, by decide +kernel, rfl, by decide +kernel, by decide +kernel⟩
@[simp] theorem lk_line_of_written : G_written "written" = some g_written := rfl
def G_line_of : Gam := G_written.add "line_of" g_line_of
/-! ### format_body -/
abbrev s_format_body : Stmt := at_ 6
def N_format_body : List Str := ["body", "depth", "lines", "space", "statement", "between", "bodies", "at", "inner"]
def p_format_body : List Str := ["body", "depth"]
def b_format_body : List Sx := [.asg [] 2 (.lst .nil), .asg [] 3 (.bin .mul (.cst (.str "  ")) (.var 1)), .lop [0] (.nm 4) (.lst (.var 0)) [.app [4] 2 (.bin .add (.var 3) (.call "line_of" 
  (.cons (.var 4) .nil))), .asg [] 5 (.ife (.val (.cmp .eq (.ix (.var 4) (.cst (.int 0))) (.cst (.str "if")))) (.cst (.str "else")) (.cst (.str "or"))), .asg [4] 6 (.call "bodies_of" 
  (.cons (.var 4) .nil)), .lop [6] (.tp [7, 8]) (.enu (.var 6)) [.ifs (.val (.cmp .gt (.var 7) (.cst (.int 0)))) [.app [] 2 (.bin .add (.var 3) (.var 5))] [], .asg [8] 2 (.bin .add 
  (.var 2) (.call "format_body" (.cons (.var 8) (.cons (.bin .add (.var 1) (.cst (.int 1))) .nil))))], .ifs (.val (.cmp .gt (.bi .len (.cons (.var 6) .nil)) (.cst (.int 0)))) [.app 
  [] 2 (.bin .add (.var 3) (.cst (.str "end")))] []], .rtv 2]
def g_format_body : List D → R TD := gRec G_line_of "format_body" 10000 9 2 b_format_body 12
theorem h_format_body : chkSs N_format_body bs cs (defScope s_format_body) b_format_body (defBody s_format_body) = true := by decide +kernel
theorem c_format_body : FnScope N_format_body p_format_body (defScope s_format_body) := ⟨rfl, rfl, rfl, by decide +kernel, rfl, by decide +kernel, by decide +kernel⟩
@[simp] theorem lk_format_body_bodies_of : G_line_of "bodies_of" = some g_bodies_of := rfl
@[simp] theorem lk_format_body_line_of : G_line_of "line_of" = some g_line_of := rfl
def G_format_body : Gam := G_line_of.add "format_body" g_format_body
/-! ### format_variable -/
abbrev s_format_variable : Stmt := at_ 7
def N_format_variable : List Str := ["word", "variable", "part"]
def p_format_variable : List Str := ["word", "variable"]
def b_format_variable : List Sx := [.ret [] (.join (.cst (.str " ")) (.bin .add (.lst (.cons (.var 0) .nil)) (.cpr [("part", 2)] (.nm 2) (.tup (.var 1)) .nil (.bi .str (.cons (.var 
  2) .nil)))))]
def g_format_variable : List D → R TD := evDef G_format_body 10000 3 2 b_format_variable
theorem h_format_variable : chkSs N_format_variable bs cs (defScope s_format_variable) b_format_variable (defBody s_format_variable) = true := by decide +kernel
theorem c_format_variable : FnScope N_format_variable p_format_variable (defScope s_format_variable) := ⟨rfl, rfl, rfl, by decide +kernel, rfl, by decide +kernel, by decide +kernel⟩
def G_format_variable : Gam := G_format_body.add "format_variable" g_format_variable
/-! ### format_program -/
abbrev s_format_program : Stmt := at_ 8
def N_format_program : List Str := ["program", "shares", "locks", "bells", "kinds", "lines", "name", "count", "variables", "body", "share", "variable", "line"]
def p_format_program : List Str := ["program"]
def b_format_program : List Sx := [.asgT [0] [1, 2, 3, 4] (.var 0), .asg [] 5 (.cpr [("share", 10)] (.nm 10) (.lst (.var 1)) .nil (.call "format_variable" (.cons (.cst (.str "share")) 
  (.cons (.var 10) .nil)))), .asg [] 5 (.bin .add (.bin .add (.var 5) (.cpr [("name", 6)] (.nm 6) (.lst (.var 2)) .nil (.bin .add (.cst (.str "lock ")) (.var 6)))) (.cpr [("name", 6)] 
  (.nm 6) (.lst (.var 3)) .nil (.bin .add (.cst (.str "bell ")) (.var 6)))), .lop [4] (.tp [6, 7, 8, 9]) (.lst (.var 4)) [.app [] 5 (.bin .add (.fst (.cons (.cst (.str "kind ")) (.cons 
  (.var 6) (.cons (.cst (.str " ")) .nil)))) (.ife (.val (.cmp .is (.var 7) (.cst .none))) (.cst (.str "any")) (.bi .str (.cons (.var 7) .nil)))), .asg [] 5 (.bin .add (.var 5) (.cpr 
  [("variable", 11)] (.nm 11) (.lst (.var 8)) .nil (.bin .add (.cst (.str "  ")) (.call "format_variable" (.cons (.cst (.str "local")) (.cons (.var 11) .nil)))))), .asg [9] 5 (.bin 
  .add (.bin .add (.var 5) (.call "format_body" (.cons (.var 9) (.cons (.cst (.int 1)) .nil)))) (.lst (.cons (.cst (.str "end")) .nil)))], .ret [] (.join (.cst (.str "")) (.cpr [("line", 
  12)] (.nm 12) (.lst (.var 5)) .nil (.bin .add (.var 12) (.cst (.str "\n")))))]
def g_format_program : List D → R TD := evDef G_format_variable 10000 13 1 b_format_program
theorem h_format_program : chkSs N_format_program bs cs (defScope s_format_program) b_format_program (defBody s_format_program) = true := by decide +kernel
theorem c_format_program : FnScope N_format_program p_format_program (defScope s_format_program) := ⟨rfl, rfl, rfl, by decide +kernel, rfl, by decide +kernel, by decide +kernel⟩
@[simp] theorem lk_format_program_format_body : G_format_variable "format_body" = some g_format_body := rfl
@[simp] theorem lk_format_program_format_variable : G_format_variable "format_variable" = some g_format_variable := rfl
def G_format_program : Gam := G_format_variable.add "format_program" g_format_program
/-! ### _law_cell -/
abbrev s__law_cell : Stmt := at_ 10
def N__law_cell : List Str := ["_law_script", "_law_k"]
def p__law_cell : List Str := ["_law_script", "_law_k"]
def b__law_cell : List Sx := [.ifs (.val (.cmp .lt (.var 1) (.bi .len (.cons (.var 0) .nil)))) [.ret [] (.bi .int (.cons (.ix (.var 0) (.var 1)) .nil))] [], .ret [] (.cst (.int 0))]
def g__law_cell : List D → R TD := evDef G_format_program 10000 2 2 b__law_cell
theorem h__law_cell : chkSs N__law_cell bs cs (defScope s__law_cell) b__law_cell (defBody s__law_cell) = true := by decide +kernel
theorem c__law_cell : FnScope N__law_cell p__law_cell (defScope s__law_cell) := ⟨rfl, rfl, rfl, by decide +kernel, rfl, by decide +kernel, by decide +kernel⟩
def G__law_cell : Gam := G_format_program.add "_law_cell" g__law_cell
/-! ### _law_draws -/
abbrev s__law_draws : Stmt := at_ 11
def N__law_draws : List Str := ["_law_cell_here", "_law_limits", "_law_found", "_law_rest", "_law_state", "_law_free", "_law_limit"]
def p__law_draws : List Str := ["_law_cell_here", "_law_limits"]
def b__law_draws : List Sx := [.asg [] 2 (.lst .nil), .asg [] 3 (.bi .abs (.cons (.bi .int (.cons (.var 0) .nil)) .nil)), .asg [] 4 (.bin .mod (.bi .int (.cons (.var 3) .nil)) (.cst 
  (.int 2147483647))), .asg [] 5 (.lor (.cons (.cmp .lt (.var 0) (.cst (.int 0))) (.cons (.cmp .ge (.var 0) (.bin .pow (.cst (.int 10)) (.cst (.int 18)))) .nil))), .lop [1] (.nm 6) 
  (.lst (.var 1)) [.ifs (.and (.cons (.tru (.var 5)) (.cons (.val (.cmp .gt (.var 3) (.cst (.int 1)))) .nil))) [.app [] 2 (.bin .mod (.bi .int (.cons (.var 3) .nil)) (.var 6)), .asg 
  [] 3 (.bin .fdv (.var 3) (.var 6))] [.asg [] 4 (.bin .mod (.bi .int (.cons (.bin .add (.bin .mul (.var 4) (.cst (.int 48271))) (.cst (.int 11))) .nil)) (.cst (.int 2147483647))), 
  .asg [] 4 (.bin .mod (.bi .int (.cons (.bin .add (.bin .mul (.var 4) (.cst (.int 69621))) (.cst (.int 7))) .nil)) (.cst (.int 2147483647))), .app [] 2 (.bin .mod (.bi .int (.cons 
  (.bin .fdv (.var 4) (.cst (.int 13))) .nil)) (.var 6))]], .rtv 2]
def g__law_draws : List D → R TD := evDef G__law_cell 10000 7 2 b__law_draws
theorem h__law_draws : chkSs N__law_draws bs cs (defScope s__law_draws) b__law_draws (defBody s__law_draws) = true := by decide +kernel
theorem c__law_draws : FnScope N__law_draws p__law_draws (defScope s__law_draws) := ⟨rfl, rfl, rfl, by decide +kernel, rfl, by decide +kernel, by decide +kernel⟩
def G__law_draws : Gam := G__law_cell.add "_law_draws" g__law_draws
/-! ### _law_names -/
abbrev s__law_names : Stmt := at_ 12
def N__law_names : List Str := ["_law_cell_here", "_law_count", "_law_reserved", "_law_letters", "_law_signs", "_law_names_here", "_law_k", "_law_draws_here", "_law_size", "_law_name", 
  "_law_j"]
def p__law_names : List Str := ["_law_cell_here", "_law_count"]
def b__law_names : List Sx := [.asg [] 2 (.lst (.cons (.cst (.str "share")) (.cons (.cst (.str "lock")) (.cons (.cst (.str "bell")) (.cons (.cst (.str "kind")) (.cons (.cst (.str "any")) 
  (.cons (.cst (.str "local")) (.cons (.cst (.str "skip")) (.cons (.cst (.str "set")) (.cons (.cst (.str "acquire")) (.cons (.cst (.str "release")) (.cons (.cst (.str "rest")) (.cons 
  (.cst (.str "wake")) (.cons (.cst (.str "start")) .nil)))))))))))))), .asg [] 2 (.bin .add (.var 2) (.lst (.cons (.cst (.str "check")) (.cons (.cst (.str "await")) (.cons (.cst (.str 
  "mark")) (.cons (.cst (.str "if")) (.cons (.cst (.str "else")) (.cons (.cst (.str "loop")) (.cons (.cst (.str "choose")) (.cons (.cst (.str "or")) (.cons (.cst (.str "end")) (.cons 
  (.cst (.str "and")) (.cons (.cst (.str "not")) .nil))))))))))))), .asg [] 3 (.cst (.str "abcdefghijklmnopqrstuvwxyz")), .asg [] 4 (.bin .add (.var 3) (.cst (.str "0123456789"))), 
  .asg [] 5 (.lst .nil), .lop [] (.nm 6) (.rg1 (.var 1)) [.asg [] 7 (.call "_law_draws" (.cons (.bin .add (.bin .fdv (.bi .int (.cons (.var 0) .nil)) (.cst (.int 7))) (.bin .mul (.cst 
  (.int 31)) (.var 6))) (.cons (.bin .add (.lst (.cons (.cst (.int 8)) (.cons (.cst (.int 26)) .nil))) (.bin .mul (.lst (.cons (.cst (.int 36)) .nil)) (.cst (.int 19)))) .nil))), .asg 
  [] 8 (.ix (.lst (.cons (.cst (.int 1)) (.cons (.cst (.int 1)) (.cons (.cst (.int 2)) (.cons (.cst (.int 2)) (.cons (.cst (.int 3)) (.cons (.cst (.int 6)) (.cons (.cst (.int 4)) (.cons 
  (.cst (.int 20)) .nil))))))))) (.ix (.var 7) (.cst (.int 0)))), .ifs (.and (.cons (.val (.cmp .lt (.var 6) (.cst (.int 16)))) (.cons (.val (.cmp .gt (.var 1) (.cst (.int 16)))) .nil))) 
  [.asg [] 8 (.bi .min (.cons (.var 8) (.cons (.cst (.int 6)) .nil)))] [], .asg [] 9 (.bin .add (.ix (.var 3) (.ix (.var 7) (.cst (.int 1)))) (.join (.cst (.str "")) (.cpr [("_law_j", 
  10)] (.nm 10) (.rg1 (.bin .sub (.var 8) (.cst (.int 1)))) .nil (.ix (.var 4) (.ix (.var 7) (.bin .add (.cst (.int 2)) (.var 10))))))), .ifs (.val (.cmp .eq (.ix (.var 7) (.cst (.int 
  0))) (.cst (.int 6)))) [.asg [] 9 (.ix (.lst (.cons (.cst (.str "true")) (.cons (.cst (.str "false")) (.cons (.cst (.str "ends")) (.cons (.cst (.str "kinds")) .nil))))) (.bin .band 
  (.bi .int (.cons (.ix (.var 7) (.cst (.int 1))) .nil)) (.cst (.int 3))))] [], .lop [] (.nm 10) (.rg1 (.cst (.int 52))) [.ifs (.or (.cons (.val (.cmp .inn (.var 9) (.var 5))) (.cons 
  (.val (.cmp .inn (.var 9) (.var 2))) .nil))) [.asg [] 9 (.bin .add (.bin .add (.ix (.var 3) (.bin .mod (.bi .int (.cons (.var 10) .nil)) (.cst (.int 26)))) (.bi .str (.cons (.var 
  6) .nil))) (.sli (.cst (.str "x")) .no (.at (.bin .fdv (.var 10) (.cst (.int 26))))))] []], .app [9] 5 (.var 9)], .rtv 5]
def g__law_names : List D → R TD := evDef G__law_draws 10000 11 2 b__law_names
theorem h__law_names : chkSs N__law_names bs cs (defScope s__law_names) b__law_names (defBody s__law_names) = true := by decide +kernel
theorem c__law_names : FnScope N__law_names p__law_names (defScope s__law_names) := ⟨rfl, rfl, rfl, by decide +kernel, rfl, by decide +kernel, by decide +kernel⟩
@[simp] theorem lk__law_names__law_draws : G__law_draws "_law_draws" = some g__law_draws := rfl
def G__law_names : Gam := G__law_draws.add "_law_names" g__law_names
/-! ### _law_parts -/
abbrev s__law_parts : Stmt := at_ 18
def N__law_parts : List Str := ["_law_statement_here"]
def p__law_parts : List Str := ["_law_statement_here"]
def b__law_parts : List Sx := [.ifs (.val (.cmp .eq (.ix (.var 0) (.cst (.int 0))) (.cst (.str "if")))) [.ret [] (.lst (.cons (.ix (.var 0) (.cst (.int 2))) (.cons (.ix (.var 0) (.cst 
  (.int 3))) .nil)))] [], .ifs (.val (.cmp .eq (.ix (.var 0) (.cst (.int 0))) (.cst (.str "loop")))) [.ret [] (.lst (.cons (.ix (.var 0) (.cst (.int 2))) .nil))] [], .ifs (.val (.cmp 
  .eq (.ix (.var 0) (.cst (.int 0))) (.cst (.str "choose")))) [.ret [] (.ix (.var 0) (.cst (.int 1)))] [], .ret [] (.lst .nil)]
def g__law_parts : List D → R TD := evDef G__law_names 10000 1 1 b__law_parts
theorem h__law_parts : chkSs N__law_parts bs cs (defScope s__law_parts) b__law_parts (defBody s__law_parts) = true := by decide +kernel
theorem c__law_parts : FnScope N__law_parts p__law_parts (defScope s__law_parts) := ⟨rfl, rfl, rfl, by decide +kernel, rfl, by decide +kernel, by decide +kernel⟩
def G__law_parts : Gam := G__law_names.add "_law_parts" g__law_parts
/-! ### _law_total -/
abbrev s__law_total : Stmt := at_ 19
def N__law_total : List Str := ["_law_body_here", "_law_statement_here", "_law_part"]
def p__law_total : List Str := ["_law_body_here"]
def b__law_total : List Sx := [.ret [] (.bi .sum (.cons (.cpr [("_law_statement_here", 1)] (.nm 1) (.lst (.var 0)) .nil (.bin .add (.cst (.int 1)) (.bi .sum (.cons (.cpr [("_law_part", 
  2)] (.nm 2) (.lst (.call "_law_parts" (.cons (.var 1) .nil))) .nil (.call "_law_total" (.cons (.var 2) .nil))) .nil)))) .nil))]
def g__law_total : List D → R TD := gRec G__law_parts "_law_total" 10000 3 1 b__law_total 12
theorem h__law_total : chkSs N__law_total bs cs (defScope s__law_total) b__law_total (defBody s__law_total) = true := by decide +kernel
theorem c__law_total : FnScope N__law_total p__law_total (defScope s__law_total) := ⟨rfl, rfl, rfl, by decide +kernel, rfl, by decide +kernel, by decide +kernel⟩
@[simp] theorem lk__law_total__law_parts : G__law_parts "_law_parts" = some g__law_parts := rfl
def G__law_total : Gam := G__law_parts.add "_law_total" g__law_total
/-! ### _law_rests -/
abbrev s__law_rests : Stmt := at_ 20
def N__law_rests : List Str := ["_law_body_here", "_law_found", "_law_statement_here", "_law_part"]
def p__law_rests : List Str := ["_law_body_here"]
def b__law_rests : List Sx := [.asg [] 1 (.cst (.int 0)), .lop [0] (.nm 2) (.lst (.var 0)) [.asg [] 1 (.bin .add (.bin .add (.var 1) (.bi .int (.cons (.cmp .eq (.ix (.var 2) (.cst (.int 
  0))) (.cst (.str "rest"))) .nil))) (.bi .sum (.cons (.cpr [("_law_part", 3)] (.nm 3) (.lst (.call "_law_parts" (.cons (.var 2) .nil))) .nil (.call "_law_rests" (.cons (.var 3) .nil))) 
  .nil)))], .rtv 1]
def g__law_rests : List D → R TD := gRec G__law_total "_law_rests" 10000 4 1 b__law_rests 12
theorem h__law_rests : chkSs N__law_rests bs cs (defScope s__law_rests) b__law_rests (defBody s__law_rests) = true := by decide +kernel
theorem c__law_rests : FnScope N__law_rests p__law_rests (defScope s__law_rests) := ⟨rfl, rfl, rfl, by decide +kernel, rfl, by decide +kernel, by decide +kernel⟩
@[simp] theorem lk__law_rests__law_parts : G__law_total "_law_parts" = some g__law_parts := rfl
def G__law_rests : Gam := G__law_total.add "_law_rests" g__law_rests
/-! ### _law_room -/
abbrev s__law_room : Stmt := at_ 22
def N__law_room : List Str := ["_law_kind_here", "_law_room_here", "_law_variable_here"]
def p__law_room : List Str := ["_law_kind_here"]
def b__law_room : List Sx := [.asg [] 1 (.bin .add (.bin .add (.call "_law_total" (.cons (.ix (.var 0) (.cst (.int 3))) .nil)) (.cst (.int 2))) (.call "_law_rests" (.cons (.ix (.var 
  0) (.cst (.int 3))) .nil))), .lop [] (.nm 2) (.lst (.ix (.var 0) (.cst (.int 2)))) [.asg [] 1 (.bin .mul (.var 1) (.bin .add (.bin .sub (.ix (.var 2) (.cst (.int 2))) (.ix (.var 2) 
  (.cst (.int 1)))) (.cst (.int 1))))], .rtv 1]
def g__law_room : List D → R TD := evDef G__law_rests 10000 3 1 b__law_room
theorem h__law_room : chkSs N__law_room bs cs (defScope s__law_room) b__law_room (defBody s__law_room) = true := by decide +kernel
theorem c__law_room : FnScope N__law_room p__law_room (defScope s__law_room) := ⟨rfl, rfl, rfl, by decide +kernel, rfl, by decide +kernel, by decide +kernel⟩
@[simp] theorem lk__law_room__law_rests : G__law_rests "_law_rests" = some g__law_rests := rfl
@[simp] theorem lk__law_room__law_total : G__law_rests "_law_total" = some g__law_total := rfl
def G__law_room : Gam := G__law_rests.add "_law_room" g__law_room
/-! ### _law_value -/
abbrev s__law_value : Stmt := at_ 13
def N__law_value : List Str := ["_law_cell_here", "_law_names_here", "_law_depth", "_law_draws_here", "_law_sign"]
def p__law_value : List Str := ["_law_cell_here", "_law_names_here", "_law_depth"]
def b__law_value : List Sx := [.asg [0] 3 (.call "_law_draws" (.cons (.var 0) (.cons (.lst (.cons (.cst (.int 6)) (.cons (.cst (.int 199)) (.cons (.cst (.int 60)) (.cons (.cst (.int 
  3)) (.cons (.bin .pow (.cst (.int 10)) (.cst (.int 9))) (.cons (.bin .pow (.cst (.int 10)) (.cst (.int 9))) .nil))))))) .nil))), .ifs (.and (.cons (.val (.cmp .gt (.var 2) (.cst (.int 
  0)))) (.cons (.val (.cmp .gt (.ix (.var 3) (.cst (.int 0))) (.cst (.int 3)))) .nil))) [.asg [] 4 (.ix (.lst (.cons (.cst (.str "+")) (.cons (.cst (.str "-")) (.cons (.cst (.str "*")) 
  .nil)))) (.ix (.var 3) (.cst (.int 3)))), .ret [1, 4] (.tup (.cons (.var 4) (.cons (.call "_law_value" (.cons (.ix (.var 3) (.cst (.int 4))) (.cons (.var 1) (.cons (.bin .sub (.var 
  2) (.cst (.int 1))) .nil)))) (.cons (.call "_law_value" (.cons (.ix (.var 3) (.cst (.int 5))) (.cons (.var 1) (.cons (.bin .sub (.var 2) (.cst (.int 1))) .nil)))) .nil))))] [], .ifs 
  (.and (.cons (.val (.cmp .gt (.bi .len (.cons (.var 1) .nil)) (.cst (.int 0)))) (.cons (.val (.cmp .eq (.bin .band (.ix (.var 3) (.cst (.int 0))) (.cst (.int 1))) (.cst (.int 1)))) 
  .nil))) [.ret [] (.ix (.var 1) (.bin .mod (.bi .int (.cons (.ix (.var 3) (.cst (.int 2))) .nil)) (.bi .len (.cons (.var 1) .nil))))] [], .ifs (.val (.cmp .eq (.ix (.var 3) (.cst (.int 
  0))) (.cst (.int 0)))) [.ret [] (.bin .sub (.ix (.var 3) (.cst (.int 1))) (.cst (.int 99)))] [], .ret [] (.bin .sub (.bin .mod (.bi .int (.cons (.ix (.var 3) (.cst (.int 1))) .nil)) 
  (.cst (.int 7))) (.cst (.int 2)))]
def g__law_value : List D → R TD := gRec G__law_room "_law_value" 10000 5 3 b__law_value 12
theorem h__law_value : chkSs N__law_value bs cs (defScope s__law_value) b__law_value (defBody s__law_value) = true := by decide +kernel
theorem c__law_value : FnScope N__law_value p__law_value (defScope s__law_value) := ⟨rfl, rfl, rfl, by decide +kernel, rfl, by decide +kernel, by decide +kernel⟩
@[simp] theorem lk__law_value__law_draws : G__law_room "_law_draws" = some g__law_draws := rfl
def G__law_value : Gam := G__law_room.add "_law_value" g__law_value
/-! ### _law_condition -/
abbrev s__law_condition : Stmt := at_ 14
def N__law_condition : List Str := ["_law_cell_here", "_law_names_here", "_law_depth", "_law_draws_here", "_law_sign"]
def p__law_condition : List Str := ["_law_cell_here", "_law_names_here", "_law_depth"]
def b__law_condition : List Sx := [.asg [0] 3 (.call "_law_draws" (.cons (.var 0) (.cons (.lst (.cons (.cst (.int 9)) (.cons (.cst (.int 3)) (.cons (.bin .pow (.cst (.int 10)) (.cst 
  (.int 9))) (.cons (.bin .pow (.cst (.int 10)) (.cst (.int 9))) .nil))))) .nil))), .ifs (.val (.cmp .lt (.ix (.var 3) (.cst (.int 0))) (.cst (.int 2)))) [.ret [] (.cmp .eq (.ix (.var 
  3) (.cst (.int 0))) (.cst (.int 1)))] [], .ifs (.and (.cons (.val (.cmp .gt (.var 2) (.cst (.int 0)))) (.cons (.val (.cmp .eq (.ix (.var 3) (.cst (.int 0))) (.cst (.int 2)))) .nil))) 
  [.ret [1] (.tup (.cons (.cst (.str "not")) (.cons (.call "_law_condition" (.cons (.ix (.var 3) (.cst (.int 2))) (.cons (.var 1) (.cons (.bin .sub (.var 2) (.cst (.int 1))) .nil)))) 
  .nil)))] [], .ifs (.and (.cons (.val (.cmp .gt (.var 2) (.cst (.int 0)))) (.cons (.val (.cmp .lt (.ix (.var 3) (.cst (.int 0))) (.cst (.int 5)))) .nil))) [.asg [] 4 (.ix (.lst (.cons 
  (.cst (.str "and")) (.cons (.cst (.str "or")) .nil))) (.bin .sub (.ix (.var 3) (.cst (.int 0))) (.cst (.int 3)))), .ret [1, 4] (.tup (.cons (.var 4) (.cons (.call "_law_condition" 
  (.cons (.ix (.var 3) (.cst (.int 2))) (.cons (.var 1) (.cons (.bin .sub (.var 2) (.cst (.int 1))) .nil)))) (.cons (.call "_law_condition" (.cons (.ix (.var 3) (.cst (.int 3))) (.cons 
  (.var 1) (.cons (.bin .sub (.var 2) (.cst (.int 1))) .nil)))) .nil))))] [], .ret [1] (.tup (.cons (.ix (.lst (.cons (.cst (.str "=")) (.cons (.cst (.str "<")) (.cons (.cst (.str "<=")) 
  .nil)))) (.ix (.var 3) (.cst (.int 1)))) (.cons (.call "_law_value" (.cons (.ix (.var 3) (.cst (.int 2))) (.cons (.var 1) (.cons (.cst (.int 1)) .nil)))) (.cons (.call "_law_value" 
  (.cons (.ix (.var 3) (.cst (.int 3))) (.cons (.var 1) (.cons (.cst (.int 1)) .nil)))) .nil))))]
def g__law_condition : List D → R TD := gRec G__law_value "_law_condition" 10000 5 3 b__law_condition 12
theorem h__law_condition : chkSs N__law_condition bs cs (defScope s__law_condition) b__law_condition (defBody s__law_condition) = true := by decide +kernel
theorem c__law_condition : FnScope N__law_condition p__law_condition (defScope s__law_condition) := ⟨rfl, rfl, rfl, by decide +kernel, rfl, by decide +kernel, by decide +kernel⟩
@[simp] theorem lk__law_condition__law_draws : G__law_value "_law_draws" = some g__law_draws := rfl
@[simp] theorem lk__law_condition__law_value : G__law_value "_law_value" = some g__law_value := rfl
def G__law_condition : Gam := G__law_value.add "_law_condition" g__law_condition
/-! ### _law_body -/
abbrev s__law_body : Stmt := at_ 15
def N__law_body : List Str := ["_law_cell_here", "_law_count", "_law_depth", "_law_w", "_law_held", "_law_draws_here", "_law_body_here", "_law_k"]
def p__law_body : List Str := ["_law_cell_here", "_law_count", "_law_depth", "_law_w", "_law_held"]
def b__law_body : List Sx := [.asg [0] 5 (.call "_law_draws" (.cons (.var 0) (.cons (.bin .add (.lst (.cons (.bin .add (.var 1) (.cst (.int 1))) .nil)) (.bin .mul (.lst (.cons (.bin 
  .pow (.cst (.int 10)) (.cst (.int 9))) .nil)) (.var 1))) .nil))), .asg [] 6 (.lst .nil), .lop [] (.nm 7) (.rg1 (.ix (.var 5) (.cst (.int 0)))) [.asg [2, 3, 4] 6 (.bin .add (.var 6) 
  (.call "_law_statement" (.cons (.ix (.var 5) (.bin .add (.cst (.int 1)) (.var 7))) (.cons (.var 2) (.cons (.var 3) (.cons (.var 4) .nil))))))], .rtv 6]
def b__law_nested : List Sx := [.asg [] 4 (.call "_law_condition" (.cons (.ix (.var 0) (.cst (.int 2))) (.cons (.ix (.var 2) (.cst (.int 0))) (.cons (.cst (.int 2)) .nil)))), .asg [2, 
  3] 5 (.call "_law_body" (.cons (.ix (.var 0) (.cst (.int 3))) (.cons (.cst (.int 2)) (.cons (.bin .sub (.var 1) (.cst (.int 1))) (.cons (.var 2) (.cons (.var 3) .nil)))))), .ifs (.val 
  (.cmp .eq (.ix (.var 0) (.cst (.int 0))) (.cst (.int 14)))) [.ret [2, 3, 4, 5] (.tup (.cons (.cst (.str "if")) (.cons (.var 4) (.cons (.var 5) (.cons (.call "_law_body" (.cons (.ix 
  (.var 0) (.cst (.int 4))) (.cons (.cst (.int 2)) (.cons (.bin .sub (.var 1) (.cst (.int 1))) (.cons (.var 2) (.cons (.var 3) .nil)))))) .nil)))))] [], .ifs (.val (.cmp .eq (.ix (.var 
  0) (.cst (.int 0))) (.cst (.int 15)))) [.ret [4, 5] (.tup (.cons (.cst (.str "loop")) (.cons (.var 4) (.cons (.var 5) .nil))))] [], .asg [2, 3] 6 (.cpr [("_law_k", 7)] (.nm 7) (.rg1 
  (.ix (.lst (.cons (.cst (.int 1)) (.cons (.cst (.int 1)) (.cons (.cst (.int 2)) (.cons (.cst (.int 2)) (.cons (.cst (.int 3)) (.cons (.cst (.int 6)) .nil))))))) (.bin .mod (.bi .int 
  (.cons (.ix (.var 0) (.cst (.int 1))) .nil)) (.cst (.int 6))))) .nil (.call "_law_body" (.cons (.bin .add (.ix (.var 0) (.cst (.int 3))) (.var 7)) (.cons (.cst (.int 2)) (.cons (.bin 
  .sub (.var 1) (.cst (.int 1))) (.cons (.var 2) (.cons (.var 3) .nil))))))), .ret [6] (.tup (.cons (.cst (.str "choose")) (.cons (.var 6) .nil)))]
def b__law_statement : List Sx := [.asg [0] 4 (.call "_law_draws" (.cons (.var 0) (.cons (.lst (.cons (.cst (.int 18)) (.cons (.cst (.int 60)) (.cons (.bin .pow (.cst (.int 10)) (.cst 
  (.int 9))) (.cons (.bin .pow (.cst (.int 10)) (.cst (.int 9))) (.cons (.bin .pow (.cst (.int 10)) (.cst (.int 9))) .nil)))))) .nil))), .asg [] 5 (.ix (.var 4) (.cst (.int 0))), .asg 
  [] 6 (.cpr [("_law_lock", 7)] (.nm 7) (.lst (.ix (.var 2) (.cst (.int 1)))) (.cons (.val (.cmp .nin (.var 7) (.var 3))) .nil) (.var 7)), .ifs (.and (.cons (.val (.cmp .lt (.var 5) 
  (.cst (.int 4)))) (.cons (.val (.cmp .gt (.bi .len (.cons (.ix (.var 2) (.cst (.int 0))) .nil)) (.cst (.int 0)))) .nil))) [.ret [] (.lst (.cons (.tup (.cons (.cst (.str "set")) (.cons 
  (.ix (.ix (.var 2) (.cst (.int 0))) (.bin .mod (.bi .int (.cons (.ix (.var 4) (.cst (.int 1))) .nil)) (.bi .len (.cons (.ix (.var 2) (.cst (.int 0))) .nil)))) (.cons (.call "_law_value" 
  (.cons (.ix (.var 4) (.cst (.int 2))) (.cons (.ix (.var 2) (.cst (.int 0))) (.cons (.cst (.int 2)) .nil)))) .nil)))) .nil))] [], .ifs (.and (.cons (.val (.cmp .lt (.var 5) (.cst (.int 
  7)))) (.cons (.val (.cmp .gt (.bi .len (.cons (.var 6) .nil)) (.cst (.int 0)))) .nil))) [.asg [] 7 (.ix (.var 6) (.bin .mod (.bi .int (.cons (.ix (.var 4) (.cst (.int 1))) .nil)) 
  (.bi .len (.cons (.var 6) .nil)))), .ret [1, 2, 7] (.bin .add (.bin .add (.lst (.cons (.tup (.cons (.cst (.str "acquire")) (.cons (.var 7) .nil))) .nil)) (.call "_law_body" (.cons 
  (.ix (.var 4) (.cst (.int 2))) (.cons (.cst (.int 2)) (.cons (.var 1) (.cons (.var 2) (.cons (.bin .add (.var 3) (.lst (.cons (.var 7) .nil))) .nil))))))) (.lst (.cons (.tup (.cons 
  (.cst (.str "release")) (.cons (.var 7) .nil))) .nil)))] [], .ifs (.and (.cons (.val (.cmp .eq (.var 5) (.cst (.int 7)))) (.cons (.val (.cmp .gt (.bi .len (.cons (.ix (.var 2) (.cst 
  (.int 2))) .nil)) (.cst (.int 0)))) (.cons (.val (.cmp .eq (.bi .len (.cons (.var 3) .nil)) (.cst (.int 0)))) .nil)))) [.ret [] (.lst (.cons (.tup (.cons (.cst (.str "rest")) (.cons 
  (.ix (.ix (.var 2) (.cst (.int 2))) (.bin .mod (.bi .int (.cons (.ix (.var 4) (.cst (.int 1))) .nil)) (.bi .len (.cons (.ix (.var 2) (.cst (.int 2))) .nil)))) .nil))) .nil))] [], 
  .ifs (.and (.cons (.val (.cmp .eq (.var 5) (.cst (.int 8)))) (.cons (.val (.cmp .gt (.bi .len (.cons (.ix (.var 2) (.cst (.int 2))) .nil)) (.cst (.int 0)))) .nil))) [.ret [] (.lst 
  (.cons (.tup (.cons (.cst (.str "wake")) (.cons (.ix (.ix (.var 2) (.cst (.int 2))) (.bin .mod (.bi .int (.cons (.ix (.var 4) (.cst (.int 1))) .nil)) (.bi .len (.cons (.ix (.var 2) 
  (.cst (.int 2))) .nil)))) .nil))) .nil))] [], .ifs (.val (.cmp .eq (.var 5) (.cst (.int 9)))) [.ret [] (.lst (.cons (.tup (.cons (.cst (.str "start")) (.cons (.ix (.ix (.var 2) (.cst 
  (.int 3))) (.bin .mod (.bi .int (.cons (.ix (.var 4) (.cst (.int 1))) .nil)) (.bi .len (.cons (.ix (.var 2) (.cst (.int 3))) .nil)))) .nil))) .nil))] [], .ifs (.val (.cmp .eq (.var 
  5) (.cst (.int 10)))) [.ret [] (.lst (.cons (.tup (.cons (.cst (.str "check")) (.cons (.call "_law_condition" (.cons (.ix (.var 4) (.cst (.int 2))) (.cons (.ix (.var 2) (.cst (.int 
  0))) (.cons (.cst (.int 2)) .nil)))) .nil))) .nil))] [], .ifs (.val (.cmp .eq (.var 5) (.cst (.int 11)))) [.ret [] (.lst (.cons (.tup (.cons (.cst (.str "await")) (.cons (.call "_law_condition" 
  (.cons (.ix (.var 4) (.cst (.int 2))) (.cons (.ix (.var 2) (.cst (.int 0))) (.cons (.cst (.int 2)) .nil)))) .nil))) .nil))] [], .ifs (.val (.cmp .eq (.var 5) (.cst (.int 12)))) [.ret 
  [] (.lst (.cons (.tup (.cons (.cst (.str "mark")) (.cons (.ix (.ix (.var 2) (.cst (.int 4))) (.bin .mod (.bi .int (.cons (.ix (.var 4) (.cst (.int 1))) .nil)) (.bi .len (.cons (.ix 
  (.var 2) (.cst (.int 4))) .nil)))) .nil))) .nil))] [], .ifs (.and (.cons (.val (.cmp .gt (.var 5) (.cst (.int 13)))) (.cons (.val (.cmp .gt (.var 1) (.cst (.int 0)))) .nil))) [.ret 
  [1, 2, 3, 4] (.lst (.cons (.call "_law_nested" (.cons (.var 4) (.cons (.var 1) (.cons (.var 2) (.cons (.var 3) .nil))))) .nil))] [], .ret [] (.lst (.cons (.tup (.cons (.cst (.str 
  "skip")) .nil)) .nil))]
def md__law_body : List (Str × Nat × Nat × List Sx) := [("_law_body", 8, 5, b__law_body), ("_law_nested", 8, 4, b__law_nested), ("_law_statement", 8, 4, b__law_statement)]
def gm__law_body : Nat → Gam := gmG G__law_condition 10000 md__law_body
@[simp] theorem lkm__law_body (n : Nat) : gm__law_body (n + 1) "_law_body" = some (evDef (gm__law_body n) 10000 8 5 b__law_body) := rfl
@[simp] theorem lkm__law_nested (n : Nat) : gm__law_body (n + 1) "_law_nested" = some (evDef (gm__law_body n) 10000 8 4 b__law_nested) := rfl
@[simp] theorem lkm__law_statement (n : Nat) : gm__law_body (n + 1) "_law_statement" = some (evDef (gm__law_body n) 10000 8 4 b__law_statement) := rfl
@[simp] theorem lko__law_body__law_condition (n : Nat) : gm__law_body n "_law_condition" = some g__law_condition := by cases n <;> rfl
@[simp] theorem lko__law_body__law_draws (n : Nat) : gm__law_body n "_law_draws" = some g__law_draws := by cases n <;> rfl
@[simp] theorem lko__law_body__law_value (n : Nat) : gm__law_body n "_law_value" = some g__law_value := by cases n <;> rfl
def g__law_body : List D → R TD := evDef (gm__law_body 24) 10000 8 5 b__law_body
theorem h__law_body : chkSs N__law_body bs cs (defScope s__law_body) b__law_body (defBody s__law_body) = true := by decide +kernel
theorem c__law_body : FnScope N__law_body p__law_body (defScope s__law_body) := ⟨rfl, rfl, rfl, by decide +kernel, rfl, by decide +kernel, by decide +kernel⟩
def G__law_body : Gam := G__law_condition.add "_law_body" g__law_body
/-! ### _law_nested -/
abbrev s__law_nested : Stmt := at_ 16
def N__law_nested : List Str := ["_law_draws_here", "_law_depth", "_law_w", "_law_held", "_law_condition_here", "_law_first", "_law_bodies", "_law_k"]
def p__law_nested : List Str := ["_law_draws_here", "_law_depth", "_law_w", "_law_held"]
def g__law_nested : List D → R TD := evDef (gm__law_body 24) 10000 8 4 b__law_nested
theorem h__law_nested : chkSs N__law_nested bs cs (defScope s__law_nested) b__law_nested (defBody s__law_nested) = true := by decide +kernel
theorem c__law_nested : FnScope N__law_nested p__law_nested (defScope s__law_nested) := ⟨rfl, rfl, rfl, by decide +kernel, rfl, by decide +kernel, by decide +kernel⟩
def G__law_nested : Gam := G__law_body.add "_law_nested" g__law_nested
/-! ### _law_statement -/
abbrev s__law_statement : Stmt := at_ 17
def N__law_statement : List Str := ["_law_cell_here", "_law_depth", "_law_w", "_law_held", "_law_draws_here", "_law_sort", "_law_free", "_law_lock"]
def p__law_statement : List Str := ["_law_cell_here", "_law_depth", "_law_w", "_law_held"]
def g__law_statement : List D → R TD := evDef (gm__law_body 24) 10000 8 4 b__law_statement
theorem h__law_statement : chkSs N__law_statement bs cs (defScope s__law_statement) b__law_statement (defBody s__law_statement) = true := by decide +kernel
theorem c__law_statement : FnScope N__law_statement p__law_statement (defScope s__law_statement) := ⟨rfl, rfl, rfl, by decide +kernel, rfl, by decide +kernel, by decide +kernel⟩
def G__law_statement : Gam := G__law_nested.add "_law_statement" g__law_statement
/-! ### _law_variable -/
abbrev s__law_variable : Stmt := at_ 21
def N__law_variable : List Str := ["_law_name", "_law_first", "_law_size", "_law_chosen", "_law_least"]
def p__law_variable : List Str := ["_law_name", "_law_first", "_law_size", "_law_chosen"]
def b__law_variable : List Sx := [.asg [] 4 (.bin .sub (.bin .mod (.bi .int (.cons (.var 1) .nil)) (.bin .sub (.cst (.int 200)) (.var 2))) (.cst (.int 99))), .ret [0, 4] (.tup (.cons 
  (.var 0) (.cons (.var 4) (.cons (.bin .sub (.bin .add (.var 4) (.var 2)) (.cst (.int 1))) (.cons (.bin .add (.var 4) (.bin .mod (.bi .int (.cons (.var 3) .nil)) (.var 2))) .nil)))))]
def g__law_variable : List D → R TD := evDef G__law_statement 10000 5 4 b__law_variable
theorem h__law_variable : chkSs N__law_variable bs cs (defScope s__law_variable) b__law_variable (defBody s__law_variable) = true := by decide +kernel
theorem c__law_variable : FnScope N__law_variable p__law_variable (defScope s__law_variable) := ⟨rfl, rfl, rfl, by decide +kernel, rfl, by decide +kernel, by decide +kernel⟩
def G__law_variable : Gam := G__law_statement.add "_law_variable" g__law_variable
/-! ### _law_kind -/
abbrev s__law_kind : Stmt := at_ 23
def N__law_kind : List Str := ["_law_cell_here", "_law_name", "_law_count", "_law_own", "_law_w", "_law_draws_here", "_law_size", "_law_local", "_law_seen", "_law_body_here", "_law_k", 
  "_law_variable_here"]
def p__law_kind : List Str := ["_law_cell_here", "_law_name", "_law_count", "_law_own", "_law_w"]
def b__law_kind : List Sx := [.asg [0] 5 (.call "_law_draws" (.cons (.var 0) (.cons (.lst (.cons (.cst (.int 7)) (.cons (.cst (.int 200)) (.cons (.cst (.int 3)) (.cons (.cst (.int 3)) 
  (.cons (.cst (.int 200)) (.cons (.cst (.int 2)) (.cons (.cst (.int 2)) (.cons (.cst (.int 200)) (.cons (.bin .pow (.cst (.int 10)) (.cst (.int 9))) .nil)))))))))) .nil))), .asg [] 
  6 (.ix (.lst (.cons (.bin .add (.cst (.int 1)) (.ix (.var 5) (.cst (.int 2)))) (.cons (.cst (.int 12)) .nil))) (.bin .mul (.bi .int (.cons (.cmp .eq (.ix (.var 5) (.cst (.int 0))) 
  (.cst (.int 3))) .nil)) (.ix (.var 5) (.cst (.int 6))))), .asg [6] 7 (.lst (.cons (.call "_law_variable" (.cons (.ix (.var 3) (.cst (.int 0))) (.cons (.ix (.var 5) (.cst (.int 1))) 
  (.cons (.var 6) (.cons (.ix (.var 5) (.cst (.int 3))) .nil))))) (.cons (.call "_law_variable" (.cons (.ix (.var 3) (.cst (.int 1))) (.cons (.ix (.var 5) (.cst (.int 4))) (.cons (.bin 
  .add (.cst (.int 1)) (.ix (.var 5) (.cst (.int 5)))) (.cons (.ix (.var 5) (.cst (.int 6))) .nil))))) .nil))), .app [] 7 (.call "_law_variable" (.cons (.ix (.var 3) (.cst (.int 2))) 
  (.cons (.ix (.var 5) (.cst (.int 7))) (.cons (.cst (.int 1)) (.cons (.cst (.int 0)) .nil))))), .asg [] 7 (.sli (.var 7) .no (.at (.ix (.lst (.cons (.cst (.int 0)) (.cons (.cst (.int 
  0)) (.cons (.cst (.int 1)) (.cons (.cst (.int 1)) (.cons (.cst (.int 2)) (.cons (.cst (.int 2)) (.cons (.cst (.int 3)) .nil)))))))) (.ix (.var 5) (.cst (.int 0)))))), .asg [] 8 (.tup 
  (.cons (.bin .add (.ix (.var 4) (.cst (.int 0))) (.cpr [("_law_variable_here", 11)] (.nm 11) (.lst (.var 7)) .nil (.ix (.var 11) (.cst (.int 0))))) (.cons (.ix (.var 4) (.cst (.int 
  1))) (.cons (.ix (.var 4) (.cst (.int 2))) (.cons (.ix (.var 4) (.cst (.int 3))) (.cons (.ix (.var 4) (.cst (.int 4))) .nil)))))), .asg [8] 9 (.call "_law_body" (.cons (.ix (.var 
  5) (.cst (.int 8))) (.cons (.cst (.int 4)) (.cons (.cst (.int 2)) (.cons (.var 8) (.cons (.lst .nil) .nil)))))), .ifs (.val (.cmp .eq (.bin .mod (.bi .int (.cons (.ix (.var 5) (.cst 
  (.int 1))) .nil)) (.cst (.int 4))) (.cst (.int 0)))) [.lop [] (.nm 10) (.rg1 (.bin .add (.bin .add (.cst (.int 1)) (.ix (.var 5) (.cst (.int 2)))) (.ix (.var 5) (.cst (.int 3))))) 
  [.asg [9] 9 (.ix (.lst (.cons (.lst (.cons (.tup (.cons (.cst (.str "if")) (.cons (.cst (.bool true)) (.cons (.var 9) (.cons (.lst .nil) .nil))))) .nil)) (.cons (.lst (.cons (.tup 
  (.cons (.cst (.str "choose")) (.cons (.lst (.cons (.lst .nil) (.cons (.var 9) .nil))) .nil))) .nil)) (.cons (.lst (.cons (.tup (.cons (.cst (.str "loop")) (.cons (.cst (.bool false)) 
  (.cons (.var 9) .nil)))) .nil)) (.cons (.lst (.cons (.tup (.cons (.cst (.str "skip")) .nil)) (.cons (.tup (.cons (.cst (.str "if")) (.cons (.cst (.bool false)) (.cons (.lst .nil) 
  (.cons (.var 9) .nil))))) .nil))) .nil))))) (.bin .band (.bi .int (.cons (.bin .add (.ix (.var 5) (.cst (.int 4))) (.var 10)) .nil)) (.cst (.int 3))))]] [], .ret [1, 2, 7, 9] (.tup 
  (.cons (.var 1) (.cons (.var 2) (.cons (.var 7) (.cons (.var 9) .nil)))))]
def g__law_kind : List D → R TD := evDef G__law_variable 10000 12 5 b__law_kind
theorem h__law_kind : chkSs N__law_kind bs cs (defScope s__law_kind) b__law_kind (defBody s__law_kind) = true := by decide +kernel
theorem c__law_kind : FnScope N__law_kind p__law_kind (defScope s__law_kind) := ⟨rfl, rfl, rfl, by decide +kernel, rfl, by decide +kernel, by decide +kernel⟩
@[simp] theorem lk__law_kind__law_body : G__law_variable "_law_body" = some g__law_body := rfl
@[simp] theorem lk__law_kind__law_draws : G__law_variable "_law_draws" = some g__law_draws := rfl
@[simp] theorem lk__law_kind__law_variable : G__law_variable "_law_variable" = some g__law_variable := rfl
def G__law_kind : Gam := G__law_variable.add "_law_kind" g__law_kind
/-! ### _law_shares -/
abbrev s__law_shares : Stmt := at_ 24
def N__law_shares : List Str := ["_law_cell_here", "_law_names_here", "_law_draws_here", "_law_sizes", "_law_shares_here", "_law_k"]
def p__law_shares : List Str := ["_law_cell_here", "_law_names_here"]
def b__law_shares : List Sx := [.asg [0] 2 (.call "_law_draws" (.cons (.var 0) (.cons (.lst (.cons (.cst (.int 6)) (.cons (.cst (.int 200)) (.cons (.cst (.int 4)) (.cons (.cst (.int 
  4)) (.cons (.cst (.int 200)) (.cons (.cst (.int 3)) (.cons (.cst (.int 4)) (.cons (.cst (.int 200)) (.cons (.cst (.int 2)) (.cons (.cst (.int 2)) (.cons (.cst (.int 200)) (.cons (.cst 
  (.int 2)) (.cons (.cst (.int 2)) .nil)))))))))))))) .nil))), .ifs (.val (.cmp .lt (.ix (.var 2) (.cst (.int 0))) (.cst (.int 4)))) [.asg [] 3 (.lst (.cons (.ix (.lst (.cons (.bin 
  .add (.cst (.int 1)) (.ix (.var 2) (.cst (.int 2)))) (.cons (.bin .add (.cst (.int 5)) (.ix (.var 2) (.cst (.int 2)))) .nil))) (.bin .mul (.bi .int (.cons (.cmp .lt (.ix (.var 2) 
  (.cst (.int 0))) (.cst (.int 3))) .nil)) (.ix (.var 2) (.cst (.int 8))))) (.cons (.bin .add (.cst (.int 1)) (.ix (.var 2) (.cst (.int 5)))) (.cons (.cst (.int 1)) (.cons (.cst (.int 
  1)) .nil)))))] [.asg [] 3 (.lst (.cons (.bin .add (.cst (.int 1)) (.ix (.var 2) (.cst (.int 8)))) (.cons (.cst (.int 2)) (.cons (.bin .add (.cst (.int 1)) (.ix (.var 2) (.cst (.int 
  11)))) (.cons (.bin .add (.cst (.int 1)) (.bin .fdv (.ix (.var 2) (.cst (.int 5))) (.cst (.int 2)))) .nil)))))], .asg [] 4 (.cpr [("_law_k", 5)] (.nm 5) (.rg1 (.cst (.int 4))) .nil 
  (.call "_law_variable" (.cons (.ix (.var 1) (.var 5)) (.cons (.ix (.var 2) (.ix (.lst (.cons (.cst (.int 1)) (.cons (.cst (.int 4)) (.cons (.cst (.int 7)) (.cons (.cst (.int 10)) 
  .nil))))) (.var 5))) (.cons (.ix (.var 3) (.var 5)) (.cons (.ix (.var 2) (.ix (.lst (.cons (.cst (.int 3)) (.cons (.cst (.int 6)) (.cons (.cst (.int 9)) (.cons (.cst (.int 12)) .nil))))) 
  (.var 5))) .nil)))))), .ret [] (.sli (.var 4) .no (.at (.ix (.lst (.cons (.cst (.int 0)) (.cons (.cst (.int 1)) (.cons (.cst (.int 1)) (.cons (.cst (.int 2)) (.cons (.cst (.int 3)) 
  (.cons (.cst (.int 4)) .nil))))))) (.ix (.var 2) (.cst (.int 0))))))]
def g__law_shares : List D → R TD := evDef G__law_kind 10000 6 2 b__law_shares
theorem h__law_shares : chkSs N__law_shares bs cs (defScope s__law_shares) b__law_shares (defBody s__law_shares) = true := by decide +kernel
theorem c__law_shares : FnScope N__law_shares p__law_shares (defScope s__law_shares) := ⟨rfl, rfl, rfl, by decide +kernel, rfl, by decide +kernel, by decide +kernel⟩
@[simp] theorem lk__law_shares__law_draws : G__law_kind "_law_draws" = some g__law_draws := rfl
@[simp] theorem lk__law_shares__law_variable : G__law_kind "_law_variable" = some g__law_variable := rfl
def G__law_shares : Gam := G__law_kind.add "_law_shares" g__law_shares
/-! ### _law_program -/
abbrev s__law_program : Stmt := at_ 25
def N__law_program : List Str := ["_law_cell_here", "_law_more", "_law_draws_here", "_law_names_here", "_law_shares_here", "_law_locks", "_law_bells", "_law_titles", "_law_w", "_law_kinds", 
  "_law_k", "_law_count", "_law_first", "_law_variable_here", "_law_kind_here"]
def p__law_program : List Str := ["_law_cell_here", "_law_more"]
def b__law_program : List Sx := [.asg [0] 2 (.call "_law_draws" (.cons (.var 0) (.cons (.lst (.cons (.bin .pow (.cst (.int 10)) (.cst (.int 9))) (.cons (.cst (.int 5)) (.cons (.cst 
  (.int 5)) (.cons (.cst (.int 8)) (.cons (.cst (.int 5)) (.cons (.cst (.int 10)) (.cons (.cst (.int 4)) (.cons (.bin .pow (.cst (.int 10)) (.cst (.int 9))) .nil))))))))) .nil))), .asg 
  [] 3 (.call "_law_names" (.cons (.ix (.var 2) (.cst (.int 7))) (.cons (.cst (.int 30)) .nil))), .asg [3] 4 (.call "_law_shares" (.cons (.ix (.var 2) (.cst (.int 0))) (.cons (.var 
  3) .nil))), .asg [] 5 (.sli (.var 3) (.at (.cst (.int 16))) (.at (.bin .add (.cst (.int 16)) (.ix (.lst (.cons (.cst (.int 0)) (.cons (.cst (.int 1)) (.cons (.cst (.int 1)) (.cons 
  (.cst (.int 2)) (.cons (.cst (.int 2)) .nil)))))) (.ix (.var 2) (.cst (.int 1))))))), .ifs (.and (.cons (.val (.cmp .lt (.bi .len (.cons (.var 4) .nil)) (.cst (.int 2)))) (.cons (.val 
  (.cmp .eq (.ix (.var 2) (.cst (.int 1))) (.cst (.int 4)))) .nil))) [.asg [] 5 (.sli (.var 3) (.at (.cst (.int 16))) (.at (.cst (.int 19))))] [], .ifs (.and (.cons (.val (.cmp .eq 
  (.bi .len (.cons (.var 4) .nil)) (.cst (.int 0)))) (.cons (.val (.cmp .eq (.ix (.var 2) (.cst (.int 1))) (.cst (.int 3)))) .nil))) [.asg [] 5 (.bin .add (.sli (.var 3) (.at (.cst 
  (.int 16))) (.at (.cst (.int 19)))) (.sli (.var 3) (.at (.cst (.int 26))) (.at (.cst (.int 29)))))] [], .asg [] 6 (.sli (.var 3) (.at (.cst (.int 19))) (.at (.bin .add (.cst (.int 
  19)) (.ix (.lst (.cons (.cst (.int 0)) (.cons (.cst (.int 1)) (.cons (.cst (.int 1)) (.cons (.cst (.int 2)) (.cons (.cst (.int 3)) .nil)))))) (.ix (.var 2) (.cst (.int 2))))))), .asg 
  [] 7 (.sli (.var 3) (.at (.cst (.int 22))) (.at (.bin .add (.cst (.int 23)) (.ix (.lst (.cons (.cst (.int 0)) (.cons (.cst (.int 0)) (.cons (.cst (.int 1)) (.cons (.cst (.int 1)) 
  (.cons (.cst (.int 1)) (.cons (.cst (.int 2)) (.cons (.cst (.int 2)) (.cons (.cst (.int 3)) .nil))))))))) (.ix (.var 2) (.cst (.int 3))))))), .asg [3, 5, 6, 7] 8 (.tup (.cons (.cpr 
  [("_law_variable_here", 13)] (.nm 13) (.lst (.var 4)) .nil (.ix (.var 13) (.cst (.int 0)))) (.cons (.var 5) (.cons (.var 6) (.cons (.var 7) (.cons (.var 3) .nil)))))), .asg [] 9 (.lst 
  .nil), .lop [] (.nm 10) (.rg1 (.bi .len (.cons (.var 7) .nil))) [.asg [] 11 (.ix (.lst (.cons (.cst (.int 0)) (.cons (.cst (.int 1)) (.cons (.cst (.int 2)) (.cons (.ix (.var 2) (.cst 
  (.int 5))) .nil))))) (.bin .band (.bi .int (.cons (.bin .add (.ix (.var 2) (.cst (.int 4))) (.var 10)) .nil)) (.cst (.int 3)))), .ifs (.val (.cmp .eq (.var 10) (.bin .mod (.bi .int 
  (.cons (.ix (.var 2) (.cst (.int 6))) .nil)) (.bi .len (.cons (.var 7) .nil))))) [.asg [] 11 (.cst .none)] [], .asg [] 12 (.bin .add (.cst (.int 4)) (.bin .mul (.bin .mul (.cst (.int 
  3)) (.var 10)) (.bi .int (.cons (.bin .band (.ix (.var 2) (.cst (.int 7))) (.cst (.int 1))) .nil)))), .app [8, 11] 9 (.call "_law_kind" (.cons (.bin .add (.bin .fdv (.bi .int (.cons 
  (.var 1) .nil)) (.bin .add (.cst (.int 1)) (.var 10))) (.bin .mul (.cst (.int 17)) (.var 10))) (.cons (.ix (.var 7) (.var 10)) (.cons (.var 11) (.cons (.sli (.var 3) (.at (.var 12)) 
  (.at (.bin .add (.var 12) (.cst (.int 3))))) (.cons (.var 8) .nil))))))], .lop [] (.nm 10) (.rg1 (.bi .len (.cons (.var 9) .nil))) [.ifs (.val (.cmp .gt (.bi .sum (.cons (.cpr [("_law_kind_here", 
  14)] (.nm 14) (.lst (.var 9)) .nil (.call "_law_room" (.cons (.var 14) .nil))) .nil)) (.cst (.int 96)))) [.setX [] 9 (.var 10) (.tup (.cons (.ix (.ix (.var 9) (.var 10)) (.cst (.int 
  0))) (.cons (.ix (.ix (.var 9) (.var 10)) (.cst (.int 1))) (.cons (.lst .nil) (.cons (.lst (.cons (.tup (.cons (.cst (.str "skip")) .nil)) (.cons (.tup (.cons (.cst (.str "mark")) 
  (.cons (.ix (.var 3) (.cst (.int 26))) .nil))) .nil))) .nil)))))] []], .ret [4, 5, 6, 9] (.tup (.cons (.var 4) (.cons (.var 5) (.cons (.var 6) (.cons (.var 9) .nil)))))]
def g__law_program : List D → R TD := evDef G__law_shares 10000 15 2 b__law_program
theorem h__law_program : chkSs N__law_program bs cs (defScope s__law_program) b__law_program (defBody s__law_program) = true := by decide +kernel
theorem c__law_program : FnScope N__law_program p__law_program (defScope s__law_program) := ⟨rfl, rfl, rfl, by decide +kernel, rfl, by decide +kernel, by decide +kernel⟩
@[simp] theorem lk__law_program__law_draws : G__law_shares "_law_draws" = some g__law_draws := rfl
@[simp] theorem lk__law_program__law_kind : G__law_shares "_law_kind" = some g__law_kind := rfl
@[simp] theorem lk__law_program__law_names : G__law_shares "_law_names" = some g__law_names := rfl
@[simp] theorem lk__law_program__law_room : G__law_shares "_law_room" = some g__law_room := rfl
@[simp] theorem lk__law_program__law_shares : G__law_shares "_law_shares" = some g__law_shares := rfl
def G__law_program : Gam := G__law_shares.add "_law_program" g__law_program
/-! ### _law_words -/
abbrev s__law_words : Stmt := at_ 26
def N__law_words : List Str := ["_law_thing", "_law_part"]
def p__law_words : List Str := ["_law_thing"]
def b__law_words : List Sx := [.ifs (.tru (.isi (.var 0) .bool)) [.ret [] (.ix (.lst (.cons (.cst (.str "false")) (.cons (.cst (.str "true")) .nil))) (.bi .int (.cons (.var 0) .nil)))] 
  [], .ifs (.tru (.isi (.var 0) .tuple)) [.ret [] (.join (.cst (.str " ")) (.bin .add (.lst (.cons (.ix (.var 0) (.cst (.int 0))) .nil)) (.cpr [("_law_part", 1)] (.nm 1) (.tup (.sli 
  (.var 0) (.at (.cst (.int 1))) .no)) .nil (.call "_law_words" (.cons (.var 1) .nil)))))] [], .ret [] (.bi .str (.cons (.var 0) .nil))]
def g__law_words : List D → R TD := gRec G__law_program "_law_words" 10000 2 1 b__law_words 12
theorem h__law_words : chkSs N__law_words bs cs (defScope s__law_words) b__law_words (defBody s__law_words) = true := by decide +kernel
theorem c__law_words : FnScope N__law_words p__law_words (defScope s__law_words) := ⟨rfl, rfl, rfl, by decide +kernel, rfl, by decide +kernel, by decide +kernel⟩
def G__law_words : Gam := G__law_program.add "_law_words" g__law_words
/-! ### _law_lines -/
abbrev s__law_lines : Stmt := at_ 27
def N__law_lines : List Str := ["_law_body_here", "_law_level", "_law_lines_here", "_law_pad", "_law_statement_here", "_law_k"]
def p__law_lines : List Str := ["_law_body_here", "_law_level"]
def b__law_lines : List Sx := [.asg [] 2 (.lst .nil), .asg [] 3 (.bin .mul (.cst (.str "  ")) (.var 1)), .lop [0] (.nm 4) (.lst (.var 0)) [.ifs (.val (.cmp .eq (.ix (.var 4) (.cst (.int 
  0))) (.cst (.str "choose")))) [.app [] 2 (.bin .add (.var 3) (.cst (.str "choose"))), .lop [] (.nm 5) (.rg1 (.bi .len (.cons (.ix (.var 4) (.cst (.int 1))) .nil))) [.ifs (.val (.cmp 
  .gt (.var 5) (.cst (.int 0)))) [.app [] 2 (.bin .add (.var 3) (.cst (.str "or")))] [], .asg [] 2 (.bin .add (.var 2) (.call "_law_lines" (.cons (.ix (.ix (.var 4) (.cst (.int 1))) 
  (.var 5)) (.cons (.bin .add (.var 1) (.cst (.int 1))) .nil))))], .app [] 2 (.bin .add (.var 3) (.cst (.str "end")))] [.ifs (.or (.cons (.val (.cmp .eq (.ix (.var 4) (.cst (.int 0))) 
  (.cst (.str "if")))) (.cons (.val (.cmp .eq (.ix (.var 4) (.cst (.int 0))) (.cst (.str "loop")))) .nil))) [.app [] 2 (.bin .add (.bin .add (.bin .add (.var 3) (.ix (.var 4) (.cst 
  (.int 0)))) (.cst (.str " "))) (.call "_law_words" (.cons (.ix (.var 4) (.cst (.int 1))) .nil))), .asg [] 2 (.bin .add (.var 2) (.call "_law_lines" (.cons (.ix (.var 4) (.cst (.int 
  2))) (.cons (.bin .add (.var 1) (.cst (.int 1))) .nil)))), .ifs (.val (.cmp .eq (.ix (.var 4) (.cst (.int 0))) (.cst (.str "if")))) [.asg [] 2 (.bin .add (.bin .add (.var 2) (.lst 
  (.cons (.bin .add (.var 3) (.cst (.str "else"))) .nil))) (.call "_law_lines" (.cons (.ix (.var 4) (.cst (.int 3))) (.cons (.bin .add (.var 1) (.cst (.int 1))) .nil))))] [], .app [] 
  2 (.bin .add (.var 3) (.cst (.str "end")))] [.app [4] 2 (.bin .add (.var 3) (.call "_law_words" (.cons (.var 4) .nil)))]]], .rtv 2]
def g__law_lines : List D → R TD := gRec G__law_words "_law_lines" 10000 6 2 b__law_lines 12
theorem h__law_lines : chkSs N__law_lines bs cs (defScope s__law_lines) b__law_lines (defBody s__law_lines) = true := by decide +kernel
theorem c__law_lines : FnScope N__law_lines p__law_lines (defScope s__law_lines) := ⟨rfl, rfl, rfl, by decide +kernel, rfl, by decide +kernel, by decide +kernel⟩
@[simp] theorem lk__law_lines__law_words : G__law_words "_law_words" = some g__law_words := rfl
def G__law_lines : Gam := G__law_words.add "_law_lines" g__law_lines
/-! ### _law_text -/
abbrev s__law_text : Stmt := at_ 28
def N__law_text : List Str := ["_law_program_here", "_law_lines_here", "_law_kind_here", "_law_count", "_law_variable_here", "_law_part", "_law_name", "_law_line"]
def p__law_text : List Str := ["_law_program_here"]
def b__law_text : List Sx := [.asg [] 1 (.cpr [("_law_variable_here", 4)] (.nm 4) (.lst (.ix (.var 0) (.cst (.int 0)))) .nil (.bin .add (.cst (.str "share ")) (.join (.cst (.str " ")) 
  (.cpr [("_law_part", 5)] (.nm 5) (.tup (.var 4)) .nil (.bi .str (.cons (.var 5) .nil)))))), .asg [] 1 (.bin .add (.bin .add (.var 1) (.cpr [("_law_name", 6)] (.nm 6) (.lst (.ix (.var 
  0) (.cst (.int 1)))) .nil (.bin .add (.cst (.str "lock ")) (.var 6)))) (.cpr [("_law_name", 6)] (.nm 6) (.lst (.ix (.var 0) (.cst (.int 2)))) .nil (.bin .add (.cst (.str "bell ")) 
  (.var 6)))), .lop [] (.nm 2) (.lst (.ix (.var 0) (.cst (.int 3)))) [.asg [] 3 (.cst (.str "any")), .ifs (.val (.cmp .isn (.ix (.var 2) (.cst (.int 1))) (.cst .none))) [.asg [] 3 (.bi 
  .str (.cons (.ix (.var 2) (.cst (.int 1))) .nil))] [], .app [] 1 (.bin .add (.bin .add (.bin .add (.cst (.str "kind ")) (.ix (.var 2) (.cst (.int 0)))) (.cst (.str " "))) (.var 3)), 
  .asg [] 1 (.bin .add (.var 1) (.cpr [("_law_variable_here", 4)] (.nm 4) (.lst (.ix (.var 2) (.cst (.int 2)))) .nil (.bin .add (.cst (.str "  local ")) (.join (.cst (.str " ")) (.cpr 
  [("_law_part", 5)] (.nm 5) (.tup (.var 4)) .nil (.bi .str (.cons (.var 5) .nil))))))), .asg [] 1 (.bin .add (.bin .add (.var 1) (.call "_law_lines" (.cons (.ix (.var 2) (.cst (.int 
  3))) (.cons (.cst (.int 1)) .nil)))) (.lst (.cons (.cst (.str "end")) .nil)))], .ret [] (.join (.cst (.str "")) (.cpr [("_law_line", 7)] (.nm 7) (.lst (.var 1)) .nil (.bin .add (.var 
  7) (.cst (.str "\n")))))]
def g__law_text : List D → R TD := evDef G__law_lines 10000 8 1 b__law_text
theorem h__law_text : chkSs N__law_text bs cs (defScope s__law_text) b__law_text (defBody s__law_text) = true := by decide +kernel
theorem c__law_text : FnScope N__law_text p__law_text (defScope s__law_text) := ⟨rfl, rfl, rfl, by decide +kernel, rfl, by decide +kernel, by decide +kernel⟩
@[simp] theorem lk__law_text__law_lines : G__law_lines "_law_lines" = some g__law_lines := rfl
def G__law_text : Gam := G__law_lines.add "_law_text" g__law_text
/-! ### law -/
abbrev s_law : Stmt := at_ 29
def N_law : List Str := ["_law_script", "_law_k", "_law_program_here", "_law_before", "_law_text_here"]
def p_law : List Str := ["_law_script"]
def b_law : List Sx := [.lop [] (.nm 1) (.rg1 (.cst (.int 3))) [.asg [] 2 (.call "_law_program" (.cons (.bin .add (.call "_law_cell" (.cons (.var 0) (.cons (.bin .mul (.cst (.int 2)) 
  (.var 1)) .nil))) (.var 1)) (.cons (.call "_law_cell" (.cons (.var 0) (.cons (.bin .add (.bin .mul (.cst (.int 2)) (.var 1)) (.cst (.int 1))) .nil))) .nil))), .asg [] 3 (.bi .repr 
  (.cons (.var 2) .nil)), .asg [2] 4 (.call "format_program" (.cons (.var 2) .nil)), .ifs (.or (.cons (.not (.tru (.isi (.var 4) .str))) (.cons (.val (.cmp .ne (.var 4) (.call "_law_text" 
  (.cons (.var 2) .nil)))) (.cons (.val (.cmp .ne (.bi .repr (.cons (.var 2) .nil)) (.var 3))) .nil)))) [.ret [] (.cst (.bool false))] []], .ret [] (.cst (.bool true))]
def g_law : List D → R TD := evDef G__law_text 10000 5 1 b_law
theorem h_law : chkSs N_law bs cs (defScope s_law) b_law (defBody s_law) = true := by decide +kernel
theorem c_law : FnScope N_law p_law (defScope s_law) := ⟨rfl, rfl, rfl, by decide +kernel, rfl, by decide +kernel, by decide +kernel⟩
@[simp] theorem lk_law__law_cell : G__law_text "_law_cell" = some g__law_cell := rfl
@[simp] theorem lk_law__law_program : G__law_text "_law_program" = some g__law_program := rfl
@[simp] theorem lk_law__law_text : G__law_text "_law_text" = some g__law_text := rfl
@[simp] theorem lk_law_format_program : G__law_text "format_program" = some g_format_program := rfl
def G_law : Gam := G__law_text.add "law" g_law
def crf : Str → Value := fun _ => .none
/-! ### the defs stand where the text says -/
theorem all_mk {l : PySem.W.OpenLaw} {w : World} {K : PySem.W.Frag} {h : Heap} {mg : Str → Option Value} {fa f1 f2 f3 f4 f5 f6 f7 f8 f9 f10 f11 f12 f13 f14 f15 f16 f17 f18 f19 f20 f21 f22 f23 f24 f25 f26 : Addr} (X : K.In h) (Gl : h.Ns mainGlobals mg) (hfa : mg "law" = some (.ref fa))
    {od1 an1 od2 an2 od3 an3 od4 an4 od5 an5 od6 an6 od7 an7 od8 an8 od9 an9 od10 an10 od11 an11 od12 an12 od13 an13 od14 an14 od15 an15 od16 an16 od17 an17 od18 an18 od19 an19 od20 an20 od21 an21 od22 an22 od23 an23 od24 an24 od25 an25 od26 an26 : Option Addr} {sl1 sl2 sl3 sl4 sl5 sl6 sl7 sl8 sl9 sl10 sl11 sl12 sl13 sl14 sl15 sl16 sl17 sl18 sl19 sl20 sl21 sl22 sl23 sl24 sl25 sl26 : Array (Option Value)} {oc1 kV1 dc1 pm1 cd1 ct1 oc2 kV2 dc2 pm2 cd2 ct2 oc3 kV3 dc3 pm3 cd3 ct3 oc4 kV4 dc4 pm4 cd4 ct4 oc5 kV5 dc5 pm5 cd5 ct5 oc6 kV6 dc6 pm6 cd6 ct6 oc7 kV7 dc7 pm7 cd7 ct7 oc8 kV8 dc8 pm8 cd8 ct8 oc9 kV9 dc9 pm9 cd9 ct9 oc10 kV10 dc10 pm10 cd10 ct10 oc11 kV11 dc11 pm11 cd11 ct11 oc12 kV12 dc12 pm12 cd12 ct12 oc13 kV13 dc13 pm13 cd13 ct13 oc14 kV14 dc14 pm14 cd14 ct14 oc15 kV15 dc15 pm15 cd15 ct15 oc16 kV16 dc16 pm16 cd16 ct16 oc17 kV17 dc17 pm17 cd17 ct17 oc18 kV18 dc18 pm18 cd18 ct18 oc19 kV19 dc19 pm19 cd19 ct19 oc20 kV20 dc20 pm20 cd20 ct20 oc21 kV21 dc21 pm21 cd21 ct21 oc22 kV22 dc22 pm22 cd22 ct22 oc23 kV23 dc23 pm23 cd23 ct23 oc24 kV24 dc24 pm24 cd24 ct24 oc25 kV25 dc25 pm25 cd25 ct25 oc26 kV26 dc26 pm26 cd26 ct26 : Value}
    (a1 : PySem.W.nsIn K mainGlobals "bodies_of" = some (some (.ref f1))) (l1 : K.lookup f1 = some ⟨oc1, od1, .func (PySem.W.fnOf "bodies_of" "bodies_of" (defArgs s_bodies_of) (defBody s_bodies_of) (defScope s_bodies_of) .none kV1 dc1 pm1 an1 cd1 ct1), sl1⟩) (c1 : PySem.W.codeIn K cd1 "bodies_of" = true) (k1 : PySem.W.keepIn K (.ref f1) = true)
    (a2 : PySem.W.nsIn K mainGlobals "written" = some (some (.ref f2))) (l2 : K.lookup f2 = some ⟨oc2, od2, .func (PySem.W.fnOf "written" "written" (defArgs s_written) (defBody s_written) (defScope s_written) .none kV2 dc2 pm2 an2 cd2 ct2), sl2⟩) (c2 : PySem.W.codeIn K cd2 "written" = true) (k2 : PySem.W.keepIn K (.ref f2) = true)
    (a3 : PySem.W.nsIn K mainGlobals "line_of" = some (some (.ref f3))) (l3 : K.lookup f3 = some ⟨oc3, od3, .func (PySem.W.fnOf "line_of" "line_of" (defArgs s_line_of) (defBody s_line_of) (defScope s_line_of) .none kV3 dc3 pm3 an3 cd3 ct3), sl3⟩) (c3 : PySem.W.codeIn K cd3 "line_of" = true) (k3 : PySem.W.keepIn K (.ref f3) = true)
    (a4 : PySem.W.nsIn K mainGlobals "format_body" = some (some (.ref f4))) (l4 : K.lookup f4 = some ⟨oc4, od4, .func (PySem.W.fnOf "format_body" "format_body" (defArgs s_format_body) (defBody s_format_body) (defScope s_format_body) .none kV4 dc4 pm4 an4 cd4 ct4), sl4⟩) (c4 : PySem.W.codeIn K cd4 "format_body" = true) (k4 : PySem.W.keepIn K (.ref f4) = true)
    (a5 : PySem.W.nsIn K mainGlobals "format_variable" = some (some (.ref f5))) (l5 : K.lookup f5 = some ⟨oc5, od5, .func (PySem.W.fnOf "format_variable" "format_variable" (defArgs s_format_variable) (defBody s_format_variable) (defScope s_format_variable) .none kV5 dc5 pm5 an5 cd5 ct5), sl5⟩) (c5 : PySem.W.codeIn K cd5 "format_variable" = true) (k5 : PySem.W.keepIn K (.ref f5) = true)
    (a6 : PySem.W.nsIn K mainGlobals "format_program" = some (some (.ref f6))) (l6 : K.lookup f6 = some ⟨oc6, od6, .func (PySem.W.fnOf "format_program" "format_program" (defArgs s_format_program) (defBody s_format_program) (defScope s_format_program) .none kV6 dc6 pm6 an6 cd6 ct6), sl6⟩) (c6 : PySem.W.codeIn K cd6 "format_program" = true) (k6 : PySem.W.keepIn K (.ref f6) = true)
    (a7 : PySem.W.nsIn K mainGlobals "_law_cell" = some (some (.ref f7))) (l7 : K.lookup f7 = some ⟨oc7, od7, .func (PySem.W.fnOf "_law_cell" "_law_cell" (defArgs s__law_cell) (defBody s__law_cell) (defScope s__law_cell) .none kV7 dc7 pm7 an7 cd7 ct7), sl7⟩) (c7 : PySem.W.codeIn K cd7 "_law_cell" = true) (k7 : PySem.W.keepIn K (.ref f7) = true)
    (a8 : PySem.W.nsIn K mainGlobals "_law_draws" = some (some (.ref f8))) (l8 : K.lookup f8 = some ⟨oc8, od8, .func (PySem.W.fnOf "_law_draws" "_law_draws" (defArgs s__law_draws) (defBody s__law_draws) (defScope s__law_draws) .none kV8 dc8 pm8 an8 cd8 ct8), sl8⟩) (c8 : PySem.W.codeIn K cd8 "_law_draws" = true) (k8 : PySem.W.keepIn K (.ref f8) = true)
    (a9 : PySem.W.nsIn K mainGlobals "_law_names" = some (some (.ref f9))) (l9 : K.lookup f9 = some ⟨oc9, od9, .func (PySem.W.fnOf "_law_names" "_law_names" (defArgs s__law_names) (defBody s__law_names) (defScope s__law_names) .none kV9 dc9 pm9 an9 cd9 ct9), sl9⟩) (c9 : PySem.W.codeIn K cd9 "_law_names" = true) (k9 : PySem.W.keepIn K (.ref f9) = true)
    (a10 : PySem.W.nsIn K mainGlobals "_law_parts" = some (some (.ref f10))) (l10 : K.lookup f10 = some ⟨oc10, od10, .func (PySem.W.fnOf "_law_parts" "_law_parts" (defArgs s__law_parts) (defBody s__law_parts) (defScope s__law_parts) .none kV10 dc10 pm10 an10 cd10 ct10), sl10⟩) (c10 : PySem.W.codeIn K cd10 "_law_parts" = true) (k10 : PySem.W.keepIn K (.ref f10) = true)
    (a11 : PySem.W.nsIn K mainGlobals "_law_total" = some (some (.ref f11))) (l11 : K.lookup f11 = some ⟨oc11, od11, .func (PySem.W.fnOf "_law_total" "_law_total" (defArgs s__law_total) (defBody s__law_total) (defScope s__law_total) .none kV11 dc11 pm11 an11 cd11 ct11), sl11⟩) (c11 : PySem.W.codeIn K cd11 "_law_total" = true) (k11 : PySem.W.keepIn K (.ref f11) = true)
    (a12 : PySem.W.nsIn K mainGlobals "_law_rests" = some (some (.ref f12))) (l12 : K.lookup f12 = some ⟨oc12, od12, .func (PySem.W.fnOf "_law_rests" "_law_rests" (defArgs s__law_rests) (defBody s__law_rests) (defScope s__law_rests) .none kV12 dc12 pm12 an12 cd12 ct12), sl12⟩) (c12 : PySem.W.codeIn K cd12 "_law_rests" = true) (k12 : PySem.W.keepIn K (.ref f12) = true)
    (a13 : PySem.W.nsIn K mainGlobals "_law_room" = some (some (.ref f13))) (l13 : K.lookup f13 = some ⟨oc13, od13, .func (PySem.W.fnOf "_law_room" "_law_room" (defArgs s__law_room) (defBody s__law_room) (defScope s__law_room) .none kV13 dc13 pm13 an13 cd13 ct13), sl13⟩) (c13 : PySem.W.codeIn K cd13 "_law_room" = true) (k13 : PySem.W.keepIn K (.ref f13) = true)
    (a14 : PySem.W.nsIn K mainGlobals "_law_value" = some (some (.ref f14))) (l14 : K.lookup f14 = some ⟨oc14, od14, .func (PySem.W.fnOf "_law_value" "_law_value" (defArgs s__law_value) (defBody s__law_value) (defScope s__law_value) .none kV14 dc14 pm14 an14 cd14 ct14), sl14⟩) (c14 : PySem.W.codeIn K cd14 "_law_value" = true) (k14 : PySem.W.keepIn K (.ref f14) = true)
    (a15 : PySem.W.nsIn K mainGlobals "_law_condition" = some (some (.ref f15))) (l15 : K.lookup f15 = some ⟨oc15, od15, .func (PySem.W.fnOf "_law_condition" "_law_condition" (defArgs s__law_condition) (defBody s__law_condition) (defScope s__law_condition) .none kV15 dc15 pm15 an15 cd15 ct15), sl15⟩) (c15 : PySem.W.codeIn K cd15 "_law_condition" = true) (k15 : PySem.W.keepIn K (.ref f15) = true)
    (a16 : PySem.W.nsIn K mainGlobals "_law_body" = some (some (.ref f16))) (l16 : K.lookup f16 = some ⟨oc16, od16, .func (PySem.W.fnOf "_law_body" "_law_body" (defArgs s__law_body) (defBody s__law_body) (defScope s__law_body) .none kV16 dc16 pm16 an16 cd16 ct16), sl16⟩) (c16 : PySem.W.codeIn K cd16 "_law_body" = true) (k16 : PySem.W.keepIn K (.ref f16) = true)
    (a17 : PySem.W.nsIn K mainGlobals "_law_nested" = some (some (.ref f17))) (l17 : K.lookup f17 = some ⟨oc17, od17, .func (PySem.W.fnOf "_law_nested" "_law_nested" (defArgs s__law_nested) (defBody s__law_nested) (defScope s__law_nested) .none kV17 dc17 pm17 an17 cd17 ct17), sl17⟩) (c17 : PySem.W.codeIn K cd17 "_law_nested" = true) (k17 : PySem.W.keepIn K (.ref f17) = true)
    (a18 : PySem.W.nsIn K mainGlobals "_law_statement" = some (some (.ref f18))) (l18 : K.lookup f18 = some ⟨oc18, od18, .func (PySem.W.fnOf "_law_statement" "_law_statement" (defArgs s__law_statement) (defBody s__law_statement) (defScope s__law_statement) .none kV18 dc18 pm18 an18 cd18 ct18), sl18⟩) (c18 : PySem.W.codeIn K cd18 "_law_statement" = true) (k18 : PySem.W.keepIn K (.ref f18) = true)
    (a19 : PySem.W.nsIn K mainGlobals "_law_variable" = some (some (.ref f19))) (l19 : K.lookup f19 = some ⟨oc19, od19, .func (PySem.W.fnOf "_law_variable" "_law_variable" (defArgs s__law_variable) (defBody s__law_variable) (defScope s__law_variable) .none kV19 dc19 pm19 an19 cd19 ct19), sl19⟩) (c19 : PySem.W.codeIn K cd19 "_law_variable" = true) (k19 : PySem.W.keepIn K (.ref f19) = true)
    (a20 : PySem.W.nsIn K mainGlobals "_law_kind" = some (some (.ref f20))) (l20 : K.lookup f20 = some ⟨oc20, od20, .func (PySem.W.fnOf "_law_kind" "_law_kind" (defArgs s__law_kind) (defBody s__law_kind) (defScope s__law_kind) .none kV20 dc20 pm20 an20 cd20 ct20), sl20⟩) (c20 : PySem.W.codeIn K cd20 "_law_kind" = true) (k20 : PySem.W.keepIn K (.ref f20) = true)
    (a21 : PySem.W.nsIn K mainGlobals "_law_shares" = some (some (.ref f21))) (l21 : K.lookup f21 = some ⟨oc21, od21, .func (PySem.W.fnOf "_law_shares" "_law_shares" (defArgs s__law_shares) (defBody s__law_shares) (defScope s__law_shares) .none kV21 dc21 pm21 an21 cd21 ct21), sl21⟩) (c21 : PySem.W.codeIn K cd21 "_law_shares" = true) (k21 : PySem.W.keepIn K (.ref f21) = true)
    (a22 : PySem.W.nsIn K mainGlobals "_law_program" = some (some (.ref f22))) (l22 : K.lookup f22 = some ⟨oc22, od22, .func (PySem.W.fnOf "_law_program" "_law_program" (defArgs s__law_program) (defBody s__law_program) (defScope s__law_program) .none kV22 dc22 pm22 an22 cd22 ct22), sl22⟩) (c22 : PySem.W.codeIn K cd22 "_law_program" = true) (k22 : PySem.W.keepIn K (.ref f22) = true)
    (a23 : PySem.W.nsIn K mainGlobals "_law_words" = some (some (.ref f23))) (l23 : K.lookup f23 = some ⟨oc23, od23, .func (PySem.W.fnOf "_law_words" "_law_words" (defArgs s__law_words) (defBody s__law_words) (defScope s__law_words) .none kV23 dc23 pm23 an23 cd23 ct23), sl23⟩) (c23 : PySem.W.codeIn K cd23 "_law_words" = true) (k23 : PySem.W.keepIn K (.ref f23) = true)
    (a24 : PySem.W.nsIn K mainGlobals "_law_lines" = some (some (.ref f24))) (l24 : K.lookup f24 = some ⟨oc24, od24, .func (PySem.W.fnOf "_law_lines" "_law_lines" (defArgs s__law_lines) (defBody s__law_lines) (defScope s__law_lines) .none kV24 dc24 pm24 an24 cd24 ct24), sl24⟩) (c24 : PySem.W.codeIn K cd24 "_law_lines" = true) (k24 : PySem.W.keepIn K (.ref f24) = true)
    (a25 : PySem.W.nsIn K mainGlobals "_law_text" = some (some (.ref f25))) (l25 : K.lookup f25 = some ⟨oc25, od25, .func (PySem.W.fnOf "_law_text" "_law_text" (defArgs s__law_text) (defBody s__law_text) (defScope s__law_text) .none kV25 dc25 pm25 an25 cd25 ct25), sl25⟩) (c25 : PySem.W.codeIn K cd25 "_law_text" = true) (k25 : PySem.W.keepIn K (.ref f25) = true)
    (a26 : PySem.W.nsIn K mainGlobals "law" = some (some (.ref f26))) (l26 : K.lookup f26 = some ⟨oc26, od26, .func (PySem.W.fnOf "law" "law" (defArgs s_law) (defBody s_law) (defScope s_law) .none kV26 dc26 pm26 an26 cd26 ct26), sl26⟩) (c26 : PySem.W.codeIn K cd26 "law" = true) (k26 : PySem.W.keepIn K (.ref f26) = true)
    (z_abs : PySem.W.nsIn K mainGlobals "abs" = some none)
    (z_bool : PySem.W.nsIn K mainGlobals "bool" = some none)
    (z_enumerate : PySem.W.nsIn K mainGlobals "enumerate" = some none)
    (z_int : PySem.W.nsIn K mainGlobals "int" = some none)
    (z_isinstance : PySem.W.nsIn K mainGlobals "isinstance" = some none)
    (z_len : PySem.W.nsIn K mainGlobals "len" = some none)
    (z_min : PySem.W.nsIn K mainGlobals "min" = some none)
    (z_range : PySem.W.nsIn K mainGlobals "range" = some none)
    (z_repr : PySem.W.nsIn K mainGlobals "repr" = some none)
    (z_str : PySem.W.nsIn K mainGlobals "str" = some none)
    (z_sum : PySem.W.nsIn K mainGlobals "sum" = some none)
    (z_tuple : PySem.W.nsIn K mainGlobals "tuple" = some none)
    : ∃ (fd : FuncData) (cref : Str → Value), (∀ (s : Shared) (u : Value), BindsTo s fd ⟨[u], []⟩ [("_law_script", u)]) ∧ ∀ base : Heap, K.In base → base.Ns mainGlobals mg → FnG l.prog w K mg base 136 fa fd ["_law_script"] (spD K cref 1 g_law) := by
  have e := hfa.symm.trans (PySem.W.mg_of X Gl a26)
  cases e
  have F1 := fun_mk (st := s_bodies_of) l1 c1 k1
  have b1 := F1.binds (ps := p_bodies_of) fun _ _ _ _ _ _ us hl => match us, hl with | [_], _ => rfl
  have F2 := fun_mk (st := s_written) l2 c2 k2
  have b2 := F2.binds (ps := p_written) fun _ _ _ _ _ _ us hl => match us, hl with | [_], _ => rfl
  have F3 := fun_mk (st := s_line_of) l3 c3 k3
  have b3 := F3.binds (ps := p_line_of) fun _ _ _ _ _ _ us hl => match us, hl with | [_], _ => rfl
  have F4 := fun_mk (st := s_format_body) l4 c4 k4
  have b4 := F4.binds (ps := p_format_body) fun _ _ _ _ _ _ us hl => match us, hl with | [_, _], _ => rfl
  have F5 := fun_mk (st := s_format_variable) l5 c5 k5
  have b5 := F5.binds (ps := p_format_variable) fun _ _ _ _ _ _ us hl => match us, hl with | [_, _], _ => rfl
  have F6 := fun_mk (st := s_format_program) l6 c6 k6
  have b6 := F6.binds (ps := p_format_program) fun _ _ _ _ _ _ us hl => match us, hl with | [_], _ => rfl
  have F7 := fun_mk (st := s__law_cell) l7 c7 k7
  have b7 := F7.binds (ps := p__law_cell) fun _ _ _ _ _ _ us hl => match us, hl with | [_, _], _ => rfl
  have F8 := fun_mk (st := s__law_draws) l8 c8 k8
  have b8 := F8.binds (ps := p__law_draws) fun _ _ _ _ _ _ us hl => match us, hl with | [_, _], _ => rfl
  have F9 := fun_mk (st := s__law_names) l9 c9 k9
  have b9 := F9.binds (ps := p__law_names) fun _ _ _ _ _ _ us hl => match us, hl with | [_, _], _ => rfl
  have F10 := fun_mk (st := s__law_parts) l10 c10 k10
  have b10 := F10.binds (ps := p__law_parts) fun _ _ _ _ _ _ us hl => match us, hl with | [_], _ => rfl
  have F11 := fun_mk (st := s__law_total) l11 c11 k11
  have b11 := F11.binds (ps := p__law_total) fun _ _ _ _ _ _ us hl => match us, hl with | [_], _ => rfl
  have F12 := fun_mk (st := s__law_rests) l12 c12 k12
  have b12 := F12.binds (ps := p__law_rests) fun _ _ _ _ _ _ us hl => match us, hl with | [_], _ => rfl
  have F13 := fun_mk (st := s__law_room) l13 c13 k13
  have b13 := F13.binds (ps := p__law_room) fun _ _ _ _ _ _ us hl => match us, hl with | [_], _ => rfl
  have F14 := fun_mk (st := s__law_value) l14 c14 k14
  have b14 := F14.binds (ps := p__law_value) fun _ _ _ _ _ _ us hl => match us, hl with | [_, _, _], _ => rfl
  have F15 := fun_mk (st := s__law_condition) l15 c15 k15
  have b15 := F15.binds (ps := p__law_condition) fun _ _ _ _ _ _ us hl => match us, hl with | [_, _, _], _ => rfl
  have F16 := fun_mk (st := s__law_body) l16 c16 k16
  have b16 := F16.binds (ps := p__law_body) fun _ _ _ _ _ _ us hl => match us, hl with | [_, _, _, _, _], _ => rfl
  have F17 := fun_mk (st := s__law_nested) l17 c17 k17
  have b17 := F17.binds (ps := p__law_nested) fun _ _ _ _ _ _ us hl => match us, hl with | [_, _, _, _], _ => rfl
  have F18 := fun_mk (st := s__law_statement) l18 c18 k18
  have b18 := F18.binds (ps := p__law_statement) fun _ _ _ _ _ _ us hl => match us, hl with | [_, _, _, _], _ => rfl
  have F19 := fun_mk (st := s__law_variable) l19 c19 k19
  have b19 := F19.binds (ps := p__law_variable) fun _ _ _ _ _ _ us hl => match us, hl with | [_, _, _, _], _ => rfl
  have F20 := fun_mk (st := s__law_kind) l20 c20 k20
  have b20 := F20.binds (ps := p__law_kind) fun _ _ _ _ _ _ us hl => match us, hl with | [_, _, _, _, _], _ => rfl
  have F21 := fun_mk (st := s__law_shares) l21 c21 k21
  have b21 := F21.binds (ps := p__law_shares) fun _ _ _ _ _ _ us hl => match us, hl with | [_, _], _ => rfl
  have F22 := fun_mk (st := s__law_program) l22 c22 k22
  have b22 := F22.binds (ps := p__law_program) fun _ _ _ _ _ _ us hl => match us, hl with | [_, _], _ => rfl
  have F23 := fun_mk (st := s__law_words) l23 c23 k23
  have b23 := F23.binds (ps := p__law_words) fun _ _ _ _ _ _ us hl => match us, hl with | [_], _ => rfl
  have F24 := fun_mk (st := s__law_lines) l24 c24 k24
  have b24 := F24.binds (ps := p__law_lines) fun _ _ _ _ _ _ us hl => match us, hl with | [_, _], _ => rfl
  have F25 := fun_mk (st := s__law_text) l25 c25 k25
  have b25 := F25.binds (ps := p__law_text) fun _ _ _ _ _ _ us hl => match us, hl with | [_], _ => rfl
  have F26 := fun_mk (st := s_law) l26 c26 k26
  have b26 := F26.binds (ps := p_law) fun _ _ _ _ _ _ us hl => match us, hl with | [_], _ => rfl
  refine ⟨PySem.W.fnOf "law" "law" (defArgs s_law) (defBody s_law) (defScope s_law) .none kV26 dc26 pm26 an26 cd26 ct26, crf, fun s v => .of_eq rfl, fun base _ _ => ?_⟩
  have gc0 : GC l.prog w K mg base (crf) 0 Gam.none bs cs := .nil (by
    intro x hx
    simp only [bs, List.mem_cons, List.not_mem_nil, or_false] at hx
    rcases hx with rfl | rfl | rfl | rfl | rfl | rfl | rfl | rfl | rfl | rfl | rfl | rfl
    · exact PySem.W.mg_none_of X Gl z_abs
    · exact PySem.W.mg_none_of X Gl z_bool
    · exact PySem.W.mg_none_of X Gl z_enumerate
    · exact PySem.W.mg_none_of X Gl z_int
    · exact PySem.W.mg_none_of X Gl z_isinstance
    · exact PySem.W.mg_none_of X Gl z_len
    · exact PySem.W.mg_none_of X Gl z_min
    · exact PySem.W.mg_none_of X Gl z_range
    · exact PySem.W.mg_none_of X Gl z_repr
    · exact PySem.W.mg_none_of X Gl z_str
    · exact PySem.W.mg_none_of X Gl z_sum
    · exact PySem.W.mg_none_of X Gl z_tuple
    ) (by
    intro x hx
    simp [cs] at hx)
    (fun h => absurd h (by decide +kernel))
  have R1 : FnG l.prog w K mg base 1 f1 _ p_bodies_of (spD K crf p_bodies_of.length g_bodies_of) := def_ok (P := l.prog) (w := w) (wn := 10000) F1 c_bodies_of gc0 h_bodies_of
  have gc1 : GC l.prog w K mg base crf 1 G_bodies_of bs cs := (gc0.mono (Nat.le_succ 0)).add (PySem.W.mg_of X Gl a1) k1 b1 R1 fun ds h => evDef_len ds h
  have R2 : FnG l.prog w K mg base 13 f2 _ p_written (spD K crf p_written.length g_written) := rec_ok (P := l.prog) (w := w) (wn := 10000) F2 c_written gc1 h_written (PySem.W.mg_of X Gl a2) k2 b2 (by decide +kernel) 12
  have gc2 : GC l.prog w K mg base crf 13 G_written bs cs := (gc1.mono (Nat.le_add_right 1 12)).add (PySem.W.mg_of X Gl a2) k2 b2 R2 fun ds h => gRec_len ds h
  have R3 : FnG l.prog w K mg base 14 f3 _ p_line_of (spD K crf p_line_of.length g_line_of) := def_ok (P := l.prog) (w := w) (wn := 10000) F3 c_line_of gc2 h_line_of
  have gc3 : GC l.prog w K mg base crf 14 G_line_of bs cs := (gc2.mono (Nat.le_succ 13)).add (PySem.W.mg_of X Gl a3) k3 b3 R3 fun ds h => evDef_len ds h
  have R4 : FnG l.prog w K mg base 26 f4 _ p_format_body (spD K crf p_format_body.length g_format_body) := rec_ok (P := l.prog) (w := w) (wn := 10000) F4 c_format_body gc3 h_format_body (PySem.W.mg_of X Gl a4) k4 b4 (by decide +kernel) 12
  have gc4 : GC l.prog w K mg base crf 26 G_format_body bs cs := (gc3.mono (Nat.le_add_right 14 12)).add (PySem.W.mg_of X Gl a4) k4 b4 R4 fun ds h => gRec_len ds h
  have R5 : FnG l.prog w K mg base 27 f5 _ p_format_variable (spD K crf p_format_variable.length g_format_variable) := def_ok (P := l.prog) (w := w) (wn := 10000) F5 c_format_variable gc4 h_format_variable
  have gc5 : GC l.prog w K mg base crf 27 G_format_variable bs cs := (gc4.mono (Nat.le_succ 26)).add (PySem.W.mg_of X Gl a5) k5 b5 R5 fun ds h => evDef_len ds h
  have R6 : FnG l.prog w K mg base 28 f6 _ p_format_program (spD K crf p_format_program.length g_format_program) := def_ok (P := l.prog) (w := w) (wn := 10000) F6 c_format_program gc5 h_format_program
  have gc6 : GC l.prog w K mg base crf 28 G_format_program bs cs := (gc5.mono (Nat.le_succ 27)).add (PySem.W.mg_of X Gl a6) k6 b6 R6 fun ds h => evDef_len ds h
  have R7 : FnG l.prog w K mg base 29 f7 _ p__law_cell (spD K crf p__law_cell.length g__law_cell) := def_ok (P := l.prog) (w := w) (wn := 10000) F7 c__law_cell gc6 h__law_cell
  have gc7 : GC l.prog w K mg base crf 29 G__law_cell bs cs := (gc6.mono (Nat.le_succ 28)).add (PySem.W.mg_of X Gl a7) k7 b7 R7 fun ds h => evDef_len ds h
  have R8 : FnG l.prog w K mg base 30 f8 _ p__law_draws (spD K crf p__law_draws.length g__law_draws) := def_ok (P := l.prog) (w := w) (wn := 10000) F8 c__law_draws gc7 h__law_draws
  have gc8 : GC l.prog w K mg base crf 30 G__law_draws bs cs := (gc7.mono (Nat.le_succ 29)).add (PySem.W.mg_of X Gl a8) k8 b8 R8 fun ds h => evDef_len ds h
  have R9 : FnG l.prog w K mg base 31 f9 _ p__law_names (spD K crf p__law_names.length g__law_names) := def_ok (P := l.prog) (w := w) (wn := 10000) F9 c__law_names gc8 h__law_names
  have gc9 : GC l.prog w K mg base crf 31 G__law_names bs cs := (gc8.mono (Nat.le_succ 30)).add (PySem.W.mg_of X Gl a9) k9 b9 R9 fun ds h => evDef_len ds h
  have R10 : FnG l.prog w K mg base 32 f10 _ p__law_parts (spD K crf p__law_parts.length g__law_parts) := def_ok (P := l.prog) (w := w) (wn := 10000) F10 c__law_parts gc9 h__law_parts
  have gc10 : GC l.prog w K mg base crf 32 G__law_parts bs cs := (gc9.mono (Nat.le_succ 31)).add (PySem.W.mg_of X Gl a10) k10 b10 R10 fun ds h => evDef_len ds h
  have R11 : FnG l.prog w K mg base 44 f11 _ p__law_total (spD K crf p__law_total.length g__law_total) := rec_ok (P := l.prog) (w := w) (wn := 10000) F11 c__law_total gc10 h__law_total (PySem.W.mg_of X Gl a11) k11 b11 (by decide +kernel) 12
  have gc11 : GC l.prog w K mg base crf 44 G__law_total bs cs := (gc10.mono (Nat.le_add_right 32 12)).add (PySem.W.mg_of X Gl a11) k11 b11 R11 fun ds h => gRec_len ds h
  have R12 : FnG l.prog w K mg base 56 f12 _ p__law_rests (spD K crf p__law_rests.length g__law_rests) := rec_ok (P := l.prog) (w := w) (wn := 10000) F12 c__law_rests gc11 h__law_rests (PySem.W.mg_of X Gl a12) k12 b12 (by decide +kernel) 12
  have gc12 : GC l.prog w K mg base crf 56 G__law_rests bs cs := (gc11.mono (Nat.le_add_right 44 12)).add (PySem.W.mg_of X Gl a12) k12 b12 R12 fun ds h => gRec_len ds h
  have R13 : FnG l.prog w K mg base 57 f13 _ p__law_room (spD K crf p__law_room.length g__law_room) := def_ok (P := l.prog) (w := w) (wn := 10000) F13 c__law_room gc12 h__law_room
  have gc13 : GC l.prog w K mg base crf 57 G__law_room bs cs := (gc12.mono (Nat.le_succ 56)).add (PySem.W.mg_of X Gl a13) k13 b13 R13 fun ds h => evDef_len ds h
  have R14 : FnG l.prog w K mg base 69 f14 _ p__law_value (spD K crf p__law_value.length g__law_value) := rec_ok (P := l.prog) (w := w) (wn := 10000) F14 c__law_value gc13 h__law_value (PySem.W.mg_of X Gl a14) k14 b14 (by decide +kernel) 12
  have gc14 : GC l.prog w K mg base crf 69 G__law_value bs cs := (gc13.mono (Nat.le_add_right 57 12)).add (PySem.W.mg_of X Gl a14) k14 b14 R14 fun ds h => gRec_len ds h
  have R15 : FnG l.prog w K mg base 81 f15 _ p__law_condition (spD K crf p__law_condition.length g__law_condition) := rec_ok (P := l.prog) (w := w) (wn := 10000) F15 c__law_condition gc14 h__law_condition (PySem.W.mg_of X Gl a15) k15 b15 (by decide +kernel) 12
  have gc15 : GC l.prog w K mg base crf 81 G__law_condition bs cs := (gc14.mono (Nat.le_add_right 69 12)).add (PySem.W.mg_of X Gl a15) k15 b15 R15 fun ds h => gRec_len ds h
  have mm16 := mut_ok (wn := 10000) (ds := md__law_body) gc15 (fun d hd => by
    simp only [md__law_body, List.mem_cons, List.not_mem_nil, or_false] at hd
    rcases hd with rfl | rfl | rfl
    · exact ⟨⟨_, _, _, _, _, _, _, F16, c__law_body, h__law_body, PySem.W.mg_of X Gl a16, k16, b16, by decide +kernel, rfl, rfl⟩⟩
    · exact ⟨⟨_, _, _, _, _, _, _, F17, c__law_nested, h__law_nested, PySem.W.mg_of X Gl a17, k17, b17, by decide +kernel, rfl, rfl⟩⟩
    · exact ⟨⟨_, _, _, _, _, _, _, F18, c__law_statement, h__law_statement, PySem.W.mg_of X Gl a18, k18, b18, by decide +kernel, rfl, rfl⟩⟩
    ) 24
  have R16 : FnG l.prog w K mg base 106 f16 _ p__law_body (spD K crf p__law_body.length g__law_body) := def_ok (P := l.prog) (w := w) (wn := 10000) F16 c__law_body mm16 h__law_body
  have R17 : FnG l.prog w K mg base 106 f17 _ p__law_nested (spD K crf p__law_nested.length g__law_nested) := def_ok (P := l.prog) (w := w) (wn := 10000) F17 c__law_nested mm16 h__law_nested
  have R18 : FnG l.prog w K mg base 106 f18 _ p__law_statement (spD K crf p__law_statement.length g__law_statement) := def_ok (P := l.prog) (w := w) (wn := 10000) F18 c__law_statement mm16 h__law_statement
  have gc16 : GC l.prog w K mg base crf 106 G__law_body bs cs := (gc15.mono (by omega)).add (PySem.W.mg_of X Gl a16) k16 b16 R16 fun ds h => evDef_len ds h
  have gc17 : GC l.prog w K mg base crf 106 G__law_nested bs cs := (gc16.mono (by omega)).add (PySem.W.mg_of X Gl a17) k17 b17 R17 fun ds h => evDef_len ds h
  have gc18 : GC l.prog w K mg base crf 106 G__law_statement bs cs := (gc17.mono (by omega)).add (PySem.W.mg_of X Gl a18) k18 b18 R18 fun ds h => evDef_len ds h
  have R19 : FnG l.prog w K mg base 107 f19 _ p__law_variable (spD K crf p__law_variable.length g__law_variable) := def_ok (P := l.prog) (w := w) (wn := 10000) F19 c__law_variable gc18 h__law_variable
  have gc19 : GC l.prog w K mg base crf 107 G__law_variable bs cs := (gc18.mono (Nat.le_succ 106)).add (PySem.W.mg_of X Gl a19) k19 b19 R19 fun ds h => evDef_len ds h
  have R20 : FnG l.prog w K mg base 108 f20 _ p__law_kind (spD K crf p__law_kind.length g__law_kind) := def_ok (P := l.prog) (w := w) (wn := 10000) F20 c__law_kind gc19 h__law_kind
  have gc20 : GC l.prog w K mg base crf 108 G__law_kind bs cs := (gc19.mono (Nat.le_succ 107)).add (PySem.W.mg_of X Gl a20) k20 b20 R20 fun ds h => evDef_len ds h
  have R21 : FnG l.prog w K mg base 109 f21 _ p__law_shares (spD K crf p__law_shares.length g__law_shares) := def_ok (P := l.prog) (w := w) (wn := 10000) F21 c__law_shares gc20 h__law_shares
  have gc21 : GC l.prog w K mg base crf 109 G__law_shares bs cs := (gc20.mono (Nat.le_succ 108)).add (PySem.W.mg_of X Gl a21) k21 b21 R21 fun ds h => evDef_len ds h
  have R22 : FnG l.prog w K mg base 110 f22 _ p__law_program (spD K crf p__law_program.length g__law_program) := def_ok (P := l.prog) (w := w) (wn := 10000) F22 c__law_program gc21 h__law_program
  have gc22 : GC l.prog w K mg base crf 110 G__law_program bs cs := (gc21.mono (Nat.le_succ 109)).add (PySem.W.mg_of X Gl a22) k22 b22 R22 fun ds h => evDef_len ds h
  have R23 : FnG l.prog w K mg base 122 f23 _ p__law_words (spD K crf p__law_words.length g__law_words) := rec_ok (P := l.prog) (w := w) (wn := 10000) F23 c__law_words gc22 h__law_words (PySem.W.mg_of X Gl a23) k23 b23 (by decide +kernel) 12
  have gc23 : GC l.prog w K mg base crf 122 G__law_words bs cs := (gc22.mono (Nat.le_add_right 110 12)).add (PySem.W.mg_of X Gl a23) k23 b23 R23 fun ds h => gRec_len ds h
  have R24 : FnG l.prog w K mg base 134 f24 _ p__law_lines (spD K crf p__law_lines.length g__law_lines) := rec_ok (P := l.prog) (w := w) (wn := 10000) F24 c__law_lines gc23 h__law_lines (PySem.W.mg_of X Gl a24) k24 b24 (by decide +kernel) 12
  have gc24 : GC l.prog w K mg base crf 134 G__law_lines bs cs := (gc23.mono (Nat.le_add_right 122 12)).add (PySem.W.mg_of X Gl a24) k24 b24 R24 fun ds h => gRec_len ds h
  have R25 : FnG l.prog w K mg base 135 f25 _ p__law_text (spD K crf p__law_text.length g__law_text) := def_ok (P := l.prog) (w := w) (wn := 10000) F25 c__law_text gc24 h__law_text
  have gc25 : GC l.prog w K mg base crf 135 G__law_text bs cs := (gc24.mono (Nat.le_succ 134)).add (PySem.W.mg_of X Gl a25) k25 b25 R25 fun ds h => evDef_len ds h
  have R26 : FnG l.prog w K mg base 136 _ _ p_law (spD K crf p_law.length g_law) := def_ok (P := l.prog) (w := w) (wn := 10000) F26 c_law gc25 h_law
  exact R26
end K07
namespace K07
open PySem L2 PV
/-! numbers drawn -/
def cell (ns : List Int) (k : Int) : Int := if k < ns.length then gi ns k.toNat else 0
theorem cell_ok (ns : List Int) (k : Int) (h : 0 ≤ k) : g__law_cell [il ns, .int k] = .ok (.sh, .int (cell ns k)) := by
  refine def_is rfl (s_if (t := decide (k < ns.length)) (by simp) (fun c => ?_) fun c => ?_)
  · have c : k < ns.length := of_decide_eq_true c
    simp [ss_cons, ss_nil, ixi h c, cell, c]
  · have c : ¬ k < ns.length := of_decide_eq_false c
    simp [ss_cons, ss_nil, cell, c]
theorem pow18 : evBin .pow (.sh, .int 10) (.sh, .int 18) = .ok (.sh, .int 1000000000000000000) := by
  rw [pow_int (by decide +kernel)]
  rfl
def dInv (c : Int) (ls : List Int) (i : Nat) (e : PV.Env) : Prop := ∃ (rest st : Int) (b : Bool) (L : List Int) (z : Slot), e = [.sh (.int c), .sh (il ls), .ow (il L), .sh (.int rest), .sh (.int st), .sh (.bool b), z] ∧ 0 ≤ rest ∧ L.length = i ∧ ∀ j < i, 0 ≤ gi L j ∧ gi L j < gi ls j
theorem gi_app1 {L : List Int} {y : Int} {j : Nat} (h : j < L.length) : gi (L ++ [y]) j = gi L j := by
  unfold gi
  rw [List.getD_eq_getElem?_getD, List.getD_eq_getElem?_getD, List.getElem?_append_left h]
theorem gi_app2 {L : List Int} {y : Int} : gi (L ++ [y]) L.length = y := by
  unfold gi
  rw [List.getD_eq_getElem?_getD, List.getElem?_append_right (Nat.le_refl _)]
  simp
theorem gi_mem {ls : List Int} {i : Nat} (h : i < ls.length) : gi ls i ∈ ls := List.mem_of_getElem? (gi_some h)
theorem draws_ok (c : Int) (ls : List Int) (hl : ∀ l ∈ ls, 0 < l ∧ l < 1073741824) (hn : ls.length ≤ 1000000) : ∃ L : List Int, L.length = ls.length ∧ (∀ j < ls.length, 0 ≤ gi L j ∧ gi L j < gi ls j) ∧ g__law_draws [.int c, il ls] = .ok (.ow, il L) := by
  suffices hh : ∃ o d, g__law_draws [.int c, il ls] = .ok (o, d) ∧ o = .ow ∧ ∃ L : List Int, d = il L ∧ L.length = ls.length ∧ (∀ j < ls.length, 0 ≤ gi L j ∧ gi L j < gi ls j) by
    obtain ⟨_, _, e, rfl, L, rfl, q1, q2⟩ := hh
    exact ⟨L, q1, q2, e⟩
  refine def_ret rfl ?_
  unfold b__law_draws
  rw [ss_cons]; simp -implicitDefEqProofs
  rw [ss_cons]; simp -implicitDefEqProofs
  have hr : 0 ≤ (if c < 0 then -c else c) := by split <;> omega
  generalize (if c < 0 then -c else c) = rest at hr
  rw [ss_cons]; simp -implicitDefEqProofs (disch := omega) [mod_int]
  generalize rest % 2147483647 = st
  refine s_step (J := fun e => ∃ b : Bool, e = [.sh (.int c), .sh (il ls), .ow (il []), .sh (.int rest), .sh (.int st), .sh (.bool b), .no]) ?_ ?_
  · simp -implicitDefEqProofs [pow18]
    by_cases q : c < 0
    · rw [decide_eq_true q]; simp -implicitDefEqProofs
    · rw [decide_eq_false q]; simp -implicitDefEqProofs
      omega
  rintro _ ⟨b, rfl⟩
  refine s_for (t := .sh) (ds := ls.map .int) (I := dInv c ls) (by simp -implicitDefEqProofs [frz_cons]) (by simp -implicitDefEqProofs) rfl ⟨rest, st, b, [], .no, rfl, hr, rfl, fun j hj => absurd hj (Nat.not_lt_zero j)⟩ ?_ ?_
  · rintro i d e hd ⟨rest, st, b, L, z, rfl, k1, k2, k3⟩
    have hi : i < ls.length := by have := (List.getElem?_eq_some_iff.mp hd).1; rwa [List.length_map] at this
    rw [List.getElem?_map, gi_some hi] at hd
    obtain rfl := Option.some.inj hd
    have hm := hl _ (gi_mem hi)
    have ext : ∀ y : Int, ∀ j < i + 1, 0 ≤ gi (L ++ [y % gi ls i]) j ∧ gi (L ++ [y % gi ls i]) j < gi ls j := fun y j hj => by
      by_cases q : j < i
      · rw [gi_app1 (by omega)]; exact k3 j q
      · have : j = L.length := by omega
        rw [this, gi_app2, k2]
        exact ⟨Int.emod_nonneg y (by omega), Int.emod_lt_of_pos y hm.1⟩
    generalize gi ls i = l at hm ext
    have hL : L.length < lim := by rw [k2]; show i < 16000000; omega
    refine ⟨_, by simp -implicitDefEqProofs; rfl, s_if (t := b && decide (1 < rest)) (by cases b <;> simp -implicitDefEqProofs <;> split <;> simp_all) (fun _ => ?_) fun _ => ?_⟩
    · simp -implicitDefEqProofs
      rw [ss_cons]; simp -implicitDefEqProofs (disch := omega) [mod_int, hL]
      rw [ss_cons]; simp -implicitDefEqProofs (disch := omega) [fdv_int]
      exact ⟨_, _, _, _, _, by rw [il_snoc], Int.ediv_nonneg k1 (by omega), by simp [k2], ext _⟩
    · simp -implicitDefEqProofs
      rw [ss_cons]; simp -implicitDefEqProofs (disch := omega) [mod_int, mul_r]
      rw [ss_cons]; simp -implicitDefEqProofs (disch := omega) [mod_int, mul_r]
      rw [ss_cons]; simp -implicitDefEqProofs (disch := omega) [mod_int, fdv_int, hL]
      exact ⟨_, _, _, _, _, by rw [il_snoc], k1, by simp [k2], ext _⟩
  · rintro e ⟨rest, st, b, L, z, rfl, k1, k2, k3⟩
    rw [List.length_map] at k2 k3
    rw [ss_cons]
    simp -implicitDefEqProofs
    exact ⟨L, rfl, k2, k3⟩

/-! names drawn -/
def istr (i : Int) : Str := Str.ofString (toString i)
theorem istr_len (i : Int) (h1 : -400 ≤ i) (h2 : i ≤ 400) : (istr i).length ≤ 5 := by
  have h : ∀ n : Nat, n ≤ 800 → (istr ((n : Int) - 400)).length ≤ 5 := by decide +kernel
  have := h (i + 400).toNat (by omega)
  rwa [show (((i + 400).toNat : Nat) : Int) - 400 = i by omega] at this
theorem istr_fine {i : Int} (h1 : -400 ≤ i) (h2 : i ≤ 400) : Fine 5 (istr i) := ⟨(Fine.of (n := (toString i).length) (toString i) (Nat.le_refl _)).1, istr_len i h1 h2⟩
theorem str_istr {t : Tag} {i : Int} (h1 : -400 ≤ i) (h2 : i ≤ 400) : evBi .str [(t, .int i)] = .ok (.sh, .str (istr i)) := by
  show PV.guard (decide (i.natAbs.log2 < 1920)) _ = _
  rw [decide_eq_true (small_log (by omega) (by omega))]
  rfl
theorem str_sm {t : Tag} {i : Int} (h1 : -400 ≤ i) (h2 : i ≤ 400) : ∃ s, evBi .str [(t, .int i)] = .ok (.sh, .str s) ∧ Fine 5 s := ⟨_, str_istr h1 h2, istr_fine h1 h2⟩
def limN : List Int := [8, 26, 36, 36, 36, 36, 36, 36, 36, 36, 36, 36, 36, 36, 36, 36, 36, 36, 36, 36, 36]
def resN : List Str := ["share", "lock", "bell", "kind", "any", "local", "skip", "set", "acquire", "release", "rest", "wake", "start", "check", "await", "mark", "if", "else", "loop", "choose", "or", "end", "and", "not"]
theorem res_ok : ∀ s ∈ resN, PyData.strOk s = true := by decide +kernel
theorem lim_36 : ∀ n : Nat, n < 21 → 2 ≤ n → gi limN n = 36 := by decide +kernel
theorem and_3 : ∀ n : Nat, n < 26 → 0 ≤ Builtin.bitAnd (n : Int) 3 ∧ Builtin.bitAnd (n : Int) 3 < 4 := by decide +kernel
def nInv (c k : Int) (A B : Str) (i : Nat) (e : PV.Env) : Prop := ∃ (ss : List Str) (a6 a7 a8 a9 a10 : Slot), e = [.sh (.int c), .sh (.int k), .ow (sl resN), .sh (.str A), .sh (.str B), .ow (sl ss), a6, a7, a8, a9, a10] ∧ ss.length = i ∧ ∀ s ∈ ss, Fine 25 s
def kInv (q : Str → Slot → PV.Env) (_ : Nat) (e : PV.Env) : Prop := ∃ (nm : Str) (z : Slot), e = q nm z ∧ Fine 25 nm
def nJ1 (q : Int → PV.Env) (e : PV.Env) : Prop := ∃ s : Int, 1 ≤ s ∧ s ≤ 20 ∧ e = q s
def nJ2 (q : Str → PV.Env) (e : PV.Env) : Prop := ∃ nm : Str, Fine 25 nm ∧ e = q nm
theorem names_ok (c k : Int) (h0 : 0 ≤ k) (h1 : k ≤ 200) : ∃ ss : List Str, ss.length = k.toNat ∧ (∀ s ∈ ss, Fine 25 s) ∧ g__law_names [.int c, .int k] = .ok (.ow, sl ss) := by
  suffices hh : ∃ o d, g__law_names [.int c, .int k] = .ok (o, d) ∧ o = .ow ∧ ∃ ss : List Str, d = sl ss ∧ ss.length = k.toNat ∧ ∀ s ∈ ss, Fine 25 s by
    obtain ⟨_, _, e, rfl, L, rfl, q1, q2⟩ := hh
    exact ⟨L, q1, q2, e⟩
  refine def_ret rfl ?_
  unfold b__law_names
  refine s_step (J := fun e => e = [.sh (.int c), .sh (.int k), .ow (sl (resN.take 13)), .no, .no, .no, .no, .no, .no, .no, .no]) ?_ ?_
  · exact ⟨rfl⟩
  rintro _ rfl
  refine s_step (J := fun e => e = [.sh (.int c), .sh (.int k), .ow (sl resN), .no, .no, .no, .no, .no, .no, .no, .no]) ?_ ?_
  · exact ⟨rfl⟩
  rintro _ rfl
  have fA : Fine 26 "abcdefghijklmnopqrstuvwxyz" := Fine.of _ (by decide)
  have lA : (Str.ofString "abcdefghijklmnopqrstuvwxyz").length = 26 := by decide +kernel
  have fD : Fine 10 "0123456789" := Fine.of _ (by decide)
  have lD : (Str.ofString "0123456789").length = 10 := by decide +kernel
  rw [ss_cons]; simp -implicitDefEqProofs
  rw [ss_cons]; simp -implicitDefEqProofs [cat_str (a := "abcdefghijklmnopqrstuvwxyz") (b := "0123456789") (by rw [lA, lD]; decide)]
  have fB := fA.add fD
  have lB : (Str.ofString "abcdefghijklmnopqrstuvwxyz" ++ Str.ofString "0123456789").length = 36 := by rw [Str.length_append, lA, lD]
  generalize Str.ofString "abcdefghijklmnopqrstuvwxyz" ++ Str.ofString "0123456789" = B at fB lB
  generalize Str.ofString "abcdefghijklmnopqrstuvwxyz" = A at fA lA
  rw [ss_cons]; simp -implicitDefEqProofs
  refine s_for (t := .sh) (ds := ranged 0 k) (I := nInv c k A B) rfl (by simp -implicitDefEqProofs (disch := omega) [small_nat]) rfl ⟨[], _, _, _, _, _, rfl, rfl, fun s hs => nomatch hs⟩ ?_ ?_
  · rintro i d e hd ⟨ss, a6, a7, a8, a9, a10, rfl, k1, k2⟩
    have hi : i < k.toNat := by have := (List.getElem?_eq_some_iff.mp hd).1; rwa [ranged_len, Int.sub_zero] at this
    rw [ranged_get (by omega)] at hd
    obtain rfl := Option.some.inj hd
    refine ⟨_, by simp -implicitDefEqProofs; rfl, ?_⟩
    obtain ⟨L, lL, bL, eL⟩ := draws_ok (c / 7 + 31 * i) limN (by decide +kernel) (by decide)
    have lL : L.length = 21 := lL
    have bL : ∀ j < 21, 0 ≤ gi L j ∧ gi L j < gi limN j := bL
    have b0 : 0 ≤ gi L 0 ∧ gi L 0 < 8 := bL 0 (by decide)
    have b1 : 0 ≤ gi L 1 ∧ gi L 1 < 26 := bL 1 (by decide)
    simp only [limN, il, List.map_cons, List.map_nil] at eL
    rw [ss_cons]; simp -implicitDefEqProofs (disch := first | omega | decide) [fdv_int, mul_l, rep_list, cat_list, eL]
    have e8 : evIx (.ow, .list [.int 1, .int 1, .int 2, .int 2, .int 3, .int 6, .int 4, .int 20]) (.int (gi L 0)) = .ok (.sh, .int (gi [1, 1, 2, 2, 3, 6, 4, 20] (gi L 0).toNat)) := ixi (ns := [1, 1, 2, 2, 3, 6, 4, 20]) b0.1 b0.2
    have s8 : 1 ≤ gi [1, 1, 2, 2, 3, 6, 4, 20] (gi L 0).toNat ∧ gi [1, 1, 2, 2, 3, 6, 4, 20] (gi L 0).toNat ≤ 20 := by
      have : ∀ n : Nat, n < 8 → 1 ≤ gi [1, 1, 2, 2, 3, 6, 4, 20] n ∧ gi [1, 1, 2, 2, 3, 6, 4, 20] n ≤ 20 := by decide +kernel
      exact this _ (by omega)
    rw [ss_cons]; simp -implicitDefEqProofs (disch := omega) [ixi, e8]
    generalize gi [1, 1, 2, 2, 3, 6, 4, 20] (gi L 0).toNat = sz at s8
    refine s_if1 (t := decide ((i : Int) < 16) && decide (16 < k)) (J := nJ1 fun sz => [.sh (.int c), .sh (.int k), .ow (sl resN), .sh (.str A), .sh (.str B), .ow (sl ss), .sh (.int i), .ow (il L), .sh (.int sz), a9, a10]) (by by_cases q : (i : Int) < 16 <;> by_cases q2 : (16 : Int) < k <;> simp -implicitDefEqProofs [q, q2]) (fun _ => ?_) (fun _ => ?_) ?_
    · rw [ss_cons]; simp -implicitDefEqProofs
      exact ⟨_, by split <;> omega, by split <;> omega, rfl⟩
    · simp -implicitDefEqProofs
      exact ⟨_, s8.1, s8.2, rfl⟩
    rintro _ ⟨sz, z1, z2, rfl⟩
    refine s_step (J := nJ2 fun nm => [.sh (.int c), .sh (.int k), .ow (sl resN), .sh (.str A), .sh (.str B), .ow (sl ss), .sh (.int i), .ow (il L), .sh (.int sz), .sh (.str nm), a10]) ?_ ?_
    · rw [y_asg, frz_nil, x_bin, x_join, e_rng (j := sz - 1) (u := .sh) (h := fun x => .str (chr B (gi L (2 + x)).toNat)) (by simp) (by omega) (by omega) (fun x hx => by
        have q := bL (2 + x) (by omega)
        rw [lim_36 (2 + x) (by omega) (by omega)] at q
        have q2 : ((2 : Int) + (x : Int)).toNat = 2 + x := by omega
        simp -implicitDefEqProofs (disch := omega) [cprItem, wipeE, ixi, q2, ixs]), sl_rng]
      have hY : ∀ y ∈ (List.range (sz - 1).toNat).map fun x => chr B (gi L (2 + x)).toNat, Fine 1 y := fun y hy => by obtain ⟨x, _, rfl⟩ := List.mem_map.mp hy; exact fB.chr
      have lY : ((List.range (sz - 1).toNat).map fun x => chr B (gi L (2 + x)).toNat).length ≤ 19 := by rw [List.length_map, List.length_range]; omega
      generalize ((List.range (sz - 1).toNat).map fun x => chr B (gi L (2 + x)).toNat) = ys at hY lY ⊢
      obtain ⟨s, e1, f1⟩ := join_fine hY (by omega)
      have f2 := (Fine.add (fA.chr (n := (gi L 1).toNat)) f1).le (m := 25) (by omega)
      have l1 := f1.2
      have l2 := (fA.chr (n := (gi L 1).toNat)).2
      simp -implicitDefEqProofs (disch := omega) [ixi, ixs, e1, cat_str]
      exact ⟨_, f2, rfl⟩
    rintro _ ⟨nm, fn, rfl⟩
    refine s_if1 (t := decide (gi L 0 = 6)) (J := nJ2 fun nm => [.sh (.int c), .sh (.int k), .ow (sl resN), .sh (.str A), .sh (.str B), .ow (sl ss), .sh (.int i), .ow (il L), .sh (.int sz), .sh (.str nm), a10]) (by simp -implicitDefEqProofs (disch := omega) [ixi]) (fun _ => ?_) (fun _ => ?_) ?_
    · have q : 0 ≤ Builtin.bitAnd (gi L 1) 3 ∧ Builtin.bitAnd (gi L 1) 3 < 4 := by
        have := and_3 (gi L 1).toNat (by omega)
        rwa [Int.toNat_of_nonneg b1.1] at this
      have e4 : ∀ z : Int, 0 ≤ z → z < 4 → evIx (.ow, .list [.str "true", .str "false", .str "ends", .str "kinds"]) (.int z) = .ok (.sh, .str (gs ["true", "false", "ends", "kinds"] z.toNat)) := fun z h1 h2 => ixz (ns := ["true", "false", "ends", "kinds"]) h1 h2
      have eb : evBin .band (.sh, .int (gi L 1)) (.sh, .int 3) = .ok (.sh, .int (Builtin.bitAnd (gi L 1) 3)) := rfl
      rw [ss_cons]; simp -implicitDefEqProofs (disch := omega) [ixi, eb, e4 _ q.1 q.2]
      refine ⟨_, ?_, rfl⟩
      have : ∀ s ∈ (["true", "false", "ends", "kinds"] : List Str), PyData.strOk s = true ∧ s.length ≤ 25 := by decide +kernel
      exact this _ (gs_mem (by show _ < 4; omega))
    · simp -implicitDefEqProofs
      exact ⟨_, fn, rfl⟩
    rintro _ ⟨nm, fn, rfl⟩
    refine s_for (t := .sh) (ds := ranged 0 52) (I := kInv fun nm z => [.sh (.int c), .sh (.int k), .ow (sl resN), .sh (.str A), .sh (.str B), .ow (sl ss), .sh (.int i), .ow (il L), .sh (.int sz), .sh (.str nm), z]) rfl (by simp -implicitDefEqProofs (disch := omega) [small_nat]) rfl ⟨_, _, rfl, fn⟩ ?_ ?_
    · rintro j d e hd ⟨nm, z, rfl, fn⟩
      have hj : j < 52 := by have := (List.getElem?_eq_some_iff.mp hd).1; rwa [ranged_len] at this
      rw [ranged_get (by rw [Int.sub_zero]; exact hj)] at hd
      obtain rfl := Option.some.inj hd
      refine ⟨_, by simp -implicitDefEqProofs; rfl, s_if (t := (ss.any fun t => decide (t = nm)) || (resN.any fun t => decide (t = nm))) ?_ (fun _ => ?_) fun _ => ?_⟩
      · simp -implicitDefEqProofs only [x_tor, x_to, x_to0, x_val, x_cmp, x_var, at_0, at_s, b_ok, in_strs fn fun s hs => (k2 s hs).1, in_strs fn res_ok, isBool_bool]
        cases (ss.any fun t => decide (t = nm)) <;> cases (resN.any fun t => decide (t = nm)) <;> rfl
      · obtain ⟨s, e1, f1⟩ := str_sm (t := .sh) (i := (i : Int)) (by omega) (by omega)
        have f2 := fA.chr (n := ((j : Int) % 26).toNat)
        have fX : Fine 1 "x" := Fine.of _ (by decide)
        have f3 := fX.cut (lo := none) (hi := some ((j : Int) / 26))
        have l1 := f1.2
        have l2 := f2.2
        have l3 := f3.2
        have l12 : (chr A ((j : Int) % 26).toNat ++ s).length = (chr A ((j : Int) % 26).toNat).length + s.length := Str.length_append _ _
        simp -implicitDefEqProofs
        rw [ss_cons]; simp -implicitDefEqProofs (disch := omega) [mod_int, fdv_int, ixs, e1, cat_str, sl_str (t := .sh) (z := Str.ofString "x") (lo := none) (hi := some ((j : Int) / 26)) (by decide)]
        exact ⟨_, _, rfl, ((f2.add f1).add f3).le (by omega)⟩
      · simp -implicitDefEqProofs
        exact ⟨_, _, rfl, fn⟩
    · rintro _ ⟨nm, z, rfl, fn⟩
      have hl : ss.length < lim := by rw [k1]; show i < 16000000; omega
      rw [ss_cons]; simp -implicitDefEqProofs [frz_cons, hl]
      exact ⟨_, _, _, _, _, _, by rw [sl_snoc], by simp [k1], fun s hs => by
        rcases List.mem_append.mp hs with h | h
        · exact k2 s h
        · rw [List.mem_singleton.mp h]; exact fn⟩
  · rintro _ ⟨ss, a6, a7, a8, a9, a10, rfl, k1, k2⟩
    rw [ss_cons]; simp -implicitDefEqProofs
    exact ⟨ss, rfl, by rw [k1, ranged_len, Int.sub_zero], k2⟩

/-! values and conditions as trees -/
inductive Va where | nm (s : Str) | num (i : Int) | nd (g : Nat) (a b : Va)
def sgn : Nat → Str | 0 => "+" | 1 => "-" | _ => "*"
def Va.d : Va → D | .nm s => .str s | .num i => .int i | .nd g a b => .tuple [.str (sgn g), a.d, b.d]
def Va.dep : Va → Nat | .nm _ => 0 | .num _ => 0 | .nd _ a b => max a.dep b.dep + 1
inductive Co where | b (x : Bool) | no (c : Co) | an (x y : Co) | orr (x y : Co) | cm (g : Nat) (v w : Va)
def csg : Nat → Str | 0 => "=" | 1 => "<" | _ => "<="
def Co.d : Co → D | .b x => .bool x | .no c => .tuple [.str "not", c.d] | .an x y => .tuple [.str "and", x.d, y.d] | .orr x y => .tuple [.str "or", x.d, y.d] | .cm g v w => .tuple [.str (csg g), v.d, w.d]
def Co.dep : Co → Nat | .b _ => 0 | .no c => c.dep + 1 | .an x y => max x.dep y.dep + 1 | .orr x y => max x.dep y.dep + 1 | .cm _ v w => max v.dep w.dep + 1
def Va.inn (ss : List Str) : Va → Prop | .nm s => s ∈ ss | .num i => i.natAbs ≤ 100 | .nd _ a b => a.inn ss ∧ b.inn ss
def Co.inn (ss : List Str) : Co → Prop | .b _ => True | .no c => c.inn ss | .an x y => x.inn ss ∧ y.inn ss | .orr x y => x.inn ss ∧ y.inn ss | .cm _ v w => v.inn ss ∧ w.inn ss
theorem pow9 : evBin .pow (.sh, .int 10) (.sh, .int 9) = .ok (.sh, .int 1000000000) := by
  rw [pow_int (by decide +kernel)]
  rfl
theorem gs3 : ∀ n : Nat, n < 3 → gs ["+", "-", "*"] n = sgn n := by decide +kernel
theorem band_ok {s t : Tag} {i j : Int} : evBin .band (s, .int i) (t, .int j) = .ok (.sh, .int (Builtin.bitAnd i j)) := rfl
theorem nt_sh {d : D} : nt .sh d = .sh := by unfold nt; split <;> rfl
theorem ct_sh {d : D} : callTag .sh .sh d = .sh := nt_sh

/-! values and conditions drawn -/
theorem value_gen (ss : List Str) (hl : ss.length ≤ 1000) : ∀ (n : Nat) (c d : Int), 0 ≤ d → d < n → ∃ t : Va, (t.dep : Int) ≤ d ∧ t.inn ss ∧ gRec G__law_room "_law_value" 10000 5 3 b__law_value n [.int c, sl ss, .int d] = .ok (.sh, t.d)
  | 0, c, d, h1, h2 => absurd h2 (by omega)
  | n + 1, c, d, h1, h2 => by
    suffices hh : ∃ o e, gRec G__law_room "_law_value" 10000 5 3 b__law_value (n + 1) [.int c, sl ss, .int d] = .ok (o, e) ∧ o = .sh ∧ ∃ t : Va, e = t.d ∧ (t.dep : Int) ≤ d ∧ t.inn ss by
      obtain ⟨_, _, e, rfl, t, rfl, q1, q2⟩ := hh
      exact ⟨t, q1, q2, e⟩
    refine def_ret rfl ?_
    unfold b__law_value
    obtain ⟨L, lL, bL, eL⟩ := draws_ok c [6, 199, 60, 3, 1000000000, 1000000000] (by decide) (by decide)
    have lL : L.length = 6 := lL
    have b0 : 0 ≤ gi L 0 ∧ gi L 0 < 6 := bL 0 (by decide)
    have b1 : 0 ≤ gi L 1 ∧ gi L 1 < 199 := bL 1 (by decide)
    have b2 : 0 ≤ gi L 2 ∧ gi L 2 < 60 := bL 2 (by decide)
    have b3 : 0 ≤ gi L 3 ∧ gi L 3 < 3 := bL 3 (by decide)
    simp only [il, List.map_cons, List.map_nil] at eL
    have lk : ∀ g, (Gam.add G__law_room "_law_value" g) "_law_draws" = some g__law_draws := fun g => rfl
    rw [ss_cons]; simp -implicitDefEqProofs [pow9, frz_cons, lk, eL]
    refine s_if (t := decide (0 < d) && decide (3 < gi L 0)) (by by_cases q : 0 < d <;> by_cases q2 : 3 < gi L 0 <;> simp -implicitDefEqProofs (disch := omega) [q, q2, ixi]) (fun c1 => ?_) fun _ => ?_
    · simp only [Bool.and_eq_true, decide_eq_true_eq] at c1
      obtain ⟨ta, a1, a2, a3⟩ := value_gen ss hl n (gi L 4) (d - 1) (by omega) (by omega)
      obtain ⟨tb, b1', b2', b3'⟩ := value_gen ss hl n (gi L 5) (d - 1) (by omega) (by omega)
      unfold b__law_value at a3 b3'
      have e3 : evIx (.ow, .list [.str "+", .str "-", .str "*"]) (.int (gi L 3)) = .ok (.sh, .str (sgn (gi L 3).toNat)) := by
        rw [← gs3 _ (by omega)]
        exact ixz (ns := ["+", "-", "*"]) b3.1 b3.2
      simp -implicitDefEqProofs only [List.cons_append, List.nil_append]
      rw [ss_cons]; simp -implicitDefEqProofs (disch := omega) [ixi, e3]
      rw [ss_cons]; simp -implicitDefEqProofs (disch := omega) [frz_cons, ixi, a3, b3', ct_sh]
      refine ⟨.nd (gi L 3).toNat ta tb, rfl, ?_, a2, b2'⟩
      show ((max ta.dep tb.dep + 1 : Nat) : Int) ≤ d
      omega
    simp -implicitDefEqProofs only [List.nil_append]
    refine s_if (t := decide (0 < (ss.length : Int)) && decide (Builtin.bitAnd (gi L 0) 1 = 1)) (by
      by_cases q1 : 0 < ss.length <;> by_cases q2 : Builtin.bitAnd (gi L 0) 1 = 1 <;> simp -implicitDefEqProofs (disch := omega) [q1, q2, ixi, band_ok]) (fun h0 => ?_) fun _ => ?_
    · simp -implicitDefEqProofs only [List.cons_append, List.nil_append]
      have h0 : 0 < ss.length := by
        rw [Bool.and_eq_true, decide_eq_true_eq] at h0
        omega
      have m1 : 0 ≤ gi L 2 % (ss.length : Int) ∧ gi L 2 % (ss.length : Int) < ss.length := ⟨Int.emod_nonneg _ (by omega), Int.emod_lt_of_pos _ (by omega)⟩
      rw [ss_cons]; simp -implicitDefEqProofs (disch := omega) [ixi, mod_int, ixz]
      refine ⟨.nm _, rfl, h1, gs_mem (by omega)⟩
    simp -implicitDefEqProofs only [List.nil_append]
    refine s_if (t := decide (gi L 0 = 0)) (by simp -implicitDefEqProofs (disch := omega) [ixi]) (fun _ => ?_) fun _ => ?_
    · simp -implicitDefEqProofs only [List.cons_append, List.nil_append]
      rw [ss_cons]; simp -implicitDefEqProofs (disch := omega) [ixi]
      exact ⟨.num _, rfl, h1, by show (gi L 1 - 99).natAbs ≤ 100; omega⟩
    · simp -implicitDefEqProofs only [List.nil_append]
      rw [ss_cons]; simp -implicitDefEqProofs (disch := omega) [ixi, mod_int]
      exact ⟨.num _, rfl, h1, by show (gi L 1 % 7 - 2).natAbs ≤ 100; omega⟩
theorem gs2 : ∀ n : Nat, n < 2 → gs ["and", "or"] n = if n = 0 then "and" else "or" := by decide +kernel
theorem gsc : ∀ n : Nat, n < 3 → gs ["=", "<", "<="] n = csg n := by decide +kernel
theorem cond_gen (ss : List Str) (hl : ss.length ≤ 1000) : ∀ (n : Nat) (c d : Int), 0 ≤ d → d < n → ∃ t : Co, (t.dep : Int) ≤ d + 2 ∧ t.inn ss ∧ gRec G__law_value "_law_condition" 10000 5 3 b__law_condition n [.int c, sl ss, .int d] = .ok (.sh, t.d)
  | 0, c, d, h1, h2 => absurd h2 (by omega)
  | n + 1, c, d, h1, h2 => by
    suffices hh : ∃ o e, gRec G__law_value "_law_condition" 10000 5 3 b__law_condition (n + 1) [.int c, sl ss, .int d] = .ok (o, e) ∧ o = .sh ∧ ∃ t : Co, e = t.d ∧ (t.dep : Int) ≤ d + 2 ∧ t.inn ss by
      obtain ⟨_, _, e, rfl, t, rfl, q1, q2⟩ := hh
      exact ⟨t, q1, q2, e⟩
    refine def_ret rfl ?_
    unfold b__law_condition
    obtain ⟨L, lL, bL, eL⟩ := draws_ok c [9, 3, 1000000000, 1000000000] (by decide) (by decide)
    have lL : L.length = 4 := lL
    have b0 : 0 ≤ gi L 0 ∧ gi L 0 < 9 := bL 0 (by decide)
    have b1 : 0 ≤ gi L 1 ∧ gi L 1 < 3 := bL 1 (by decide)
    simp only [il, List.map_cons, List.map_nil] at eL
    have lk : ∀ g, (Gam.add G__law_value "_law_condition" g) "_law_draws" = some g__law_draws := fun g => rfl
    have lk2 : ∀ g, (Gam.add G__law_value "_law_condition" g) "_law_value" = some g__law_value := fun g => rfl
    rw [ss_cons]; simp -implicitDefEqProofs [pow9, frz_cons, lk, eL]
    refine s_if (t := decide (gi L 0 < 2)) (by simp -implicitDefEqProofs (disch := omega) [ixi]) (fun _ => ?_) fun c0 => ?_
    · simp -implicitDefEqProofs only [List.cons_append, List.nil_append]
      rw [ss_cons]; simp -implicitDefEqProofs (disch := omega) [ixi]
      exact ⟨.b _, rfl, (by show ((0 : Nat) : Int) ≤ d + 2; omega), trivial⟩
    have c0 : ¬ gi L 0 < 2 := of_decide_eq_false c0
    simp -implicitDefEqProofs only [List.nil_append]
    refine s_if (t := decide (0 < d) && decide (gi L 0 = 2)) (by by_cases q : 0 < d <;> by_cases q2 : gi L 0 = 2 <;> simp -implicitDefEqProofs (disch := omega) [q, q2, ixi]) (fun c1 => ?_) fun c2 => ?_
    · simp only [Bool.and_eq_true, decide_eq_true_eq] at c1
      obtain ⟨ta, a1, a2, a3⟩ := cond_gen ss hl n (gi L 2) (d - 1) (by omega) (by omega)
      unfold b__law_condition at a3
      simp -implicitDefEqProofs only [List.cons_append, List.nil_append]
      rw [ss_cons]; simp -implicitDefEqProofs (disch := omega) [frz_cons, ixi, a3, ct_sh]
      refine ⟨.no ta, rfl, ?_, a2⟩
      show ((ta.dep + 1 : Nat) : Int) ≤ d + 2
      omega
    simp -implicitDefEqProofs only [List.nil_append]
    refine s_if (t := decide (0 < d) && decide (gi L 0 < 5)) (by by_cases q : 0 < d <;> by_cases q2 : gi L 0 < 5 <;> simp -implicitDefEqProofs (disch := omega) [q, q2, ixi]) (fun c1 => ?_) fun _ => ?_
    · simp only [Bool.and_eq_true, decide_eq_true_eq] at c1
      have c3 : gi L 0 ≠ 2 := fun z => by rw [decide_eq_true c1.1, decide_eq_true z] at c2; cases c2
      obtain ⟨ta, a1, a2, a3⟩ := cond_gen ss hl n (gi L 2) (d - 1) (by omega) (by omega)
      obtain ⟨tb, b1', b2', b3'⟩ := cond_gen ss hl n (gi L 3) (d - 1) (by omega) (by omega)
      unfold b__law_condition at a3 b3'
      have e3 : evIx (.ow, .list [.str "and", .str "or"]) (.int (gi L 0 - 3)) = .ok (.sh, .str (gs ["and", "or"] (gi L 0 - 3).toNat)) := ixz (ns := ["and", "or"]) (by omega) (by show gi L 0 - 3 < 2; omega)
      have d1 : ((max ta.dep tb.dep + 1 : Nat) : Int) ≤ d + 2 := by omega
      simp -implicitDefEqProofs only [List.cons_append, List.nil_append]
      rw [ss_cons]; simp -implicitDefEqProofs (disch := omega) [ixi, e3]
      rw [ss_cons]; simp -implicitDefEqProofs (disch := omega) [frz_cons, ixi, a3, b3', ct_sh]
      rw [gs2 _ (by omega)]
      by_cases q : gi L 0 - 3 = 0
      · exact ⟨.an ta tb, by rw [q]; rfl, d1, a2, b2'⟩
      · exact ⟨.orr ta tb, by rw [if_neg (by omega)]; rfl, d1, a2, b2'⟩
    simp -implicitDefEqProofs only [List.nil_append]
    obtain ⟨va, a1, a2, a3⟩ := value_gen ss hl 12 (gi L 2) 1 (by omega) (by omega)
    obtain ⟨vb, b1', b2', b3'⟩ := value_gen ss hl 12 (gi L 3) 1 (by omega) (by omega)
    have a3 : g__law_value [.int (gi L 2), sl ss, .int 1] = .ok (.sh, va.d) := a3
    have b3' : g__law_value [.int (gi L 3), sl ss, .int 1] = .ok (.sh, vb.d) := b3'
    have e3 : evIx (.ow, .list [.str "=", .str "<", .str "<="]) (.int (gi L 1)) = .ok (.sh, .str (csg (gi L 1).toNat)) := by
      rw [← gsc _ (by omega)]
      exact ixz (ns := ["=", "<", "<="]) b1.1 b1.2
    rw [ss_cons]; simp -implicitDefEqProofs (disch := omega) [frz_cons, ixi, e3, lk2, a3, b3', ct_sh]
    exact ⟨.cm (gi L 1).toNat va vb, rfl, (by show ((max va.dep vb.dep + 1 : Nat) : Int) ≤ d + 2; omega), a2, b2'⟩

/-! written things -/
theorem add_fine {n m k : Nat} {a b : Str} (h : Fine n a) (g : Fine m b) (l : n + m ≤ k) : Fine k (a ++ b) := (h.add g).le l
theorem cat_fine {n m : Nat} {s t : Tag} {a b : Str} (h : Fine n a) (g : Fine m b) (l : n + m ≤ 16000000) : evBin .add (s, .str a) (t, .str b) = .ok (.sh, .str (a ++ b)) := cat_str (by have := h.2; have := g.2; omega)
theorem jn_eq (sep : Str) (ys : List Str) : Txt.join sep ys = Str.join sep ys := StrLaws.glued_eq_join _ _
theorem fine_join {m k : Nat} {sep : Str} (hs : Fine k sep) : ∀ {ys : List Str}, (∀ y ∈ ys, Fine m y) → Fine (ys.length * (m + k)) (Txt.join sep ys)
  | [], _ => by
    rw [jn_eq]
    exact ⟨(by decide +kernel : PyData.strOk Str.empty = true), by show 0 ≤ _; omega⟩
  | [y], h => by
    rw [jn_eq]
    exact (h y List.mem_cons_self).le (by simp)
  | y :: z :: s, h => by
    have ih := fine_join hs (ys := z :: s) fun w hw => h w (List.mem_cons_of_mem _ hw)
    rw [jn_eq] at ih ⊢
    refine (Fine.add (Fine.add (h y List.mem_cons_self) hs) ih).le ?_
    simp only [List.length_cons]
    rw [Nat.add_mul (s.length + 1) 1, Nat.one_mul]
    omega
theorem ev_join {m : Nat} {sep : Str} {ys : List Str} (h : ∀ y ∈ ys, y.length ≤ m) (hb : ys.length * (m + sep.length) ≤ 16000000) : evJoin sep (sl ys) = .ok (.sh, .str (Txt.join sep ys)) := by
  have sum : (ys.map (·.length)).sum ≤ ys.length * m := by
    clear hb
    induction ys with
    | nil => simp
    | cons y r ih =>
      have h1 := h y List.mem_cons_self
      have h2 := ih fun z hz => h z (List.mem_cons_of_mem _ hz)
      rw [List.map_cons, List.sum_cons, List.length_cons, Nat.add_mul, Nat.one_mul]
      omega
  show (match strL (ys.map PyData.str) with | some (ys : List Str) => PV.guard (decide ((ys.map (fun y : Str => y.length)).sum + ys.length * sep.length ≤ lim)) (ok1 (.str (Txt.join sep ys))) | none => .stuck) = _
  rw [strL_of]
  show PV.guard (decide ((ys.map (fun y : Str => y.length)).sum + ys.length * sep.length ≤ lim)) _ = _
  rw [decide_eq_true (show (ys.map (fun y : Str => y.length)).sum + ys.length * sep.length ≤ lim by
    show _ ≤ 16000000
    rw [Nat.mul_add] at hb
    omega)]
  rfl
def wrN (n : Nat) : List D → R TD := gRec G_bodies_of "written" 10000 2 1 b_written n
def lwN (n : Nat) : List D → R TD := gRec G__law_program "_law_words" 10000 2 1 b__law_words n
def wrE (g : List D → R TD) : List D → R TD := evDef (Gam.add G_bodies_of "written" g) 10000 2 1 b_written
def lwE (g : List D → R TD) : List D → R TD := evDef (Gam.add G__law_program "_law_words" g) 10000 2 1 b__law_words
theorem wrN_succ (n : Nat) : wrN (n + 1) = wrE (wrN n) := rfl
theorem lwN_succ (n : Nat) : lwN (n + 1) = lwE (lwN n) := rfl
theorem slT {xs : List D} {a : Int} (h1 : 0 ≤ a) (h2 : a ≤ xs.length) : evSl (.sh, .tuple xs) (some a) none = .ok (.sh, .tuple (xs.drop a.toNat)) := by
  show PV.R.ok (Tag.sh, PyData.tuple (cutD xs (some a) none)) = _
  unfold cutD
  have e1 : HT.sIx xs.length 0 (some a) = a.toNat := by
    show (if a < 0 then _ else min a.toNat _) = _
    rw [if_neg (by omega)]
    omega
  have e2 : HT.sIx xs.length xs.length none = xs.length := rfl
  rw [e1, e2, List.take_of_length_le (by rw [List.length_drop]; omega)]
theorem ixT0 {x : D} {r : List D} : evIx (.sh, .tuple (x :: r)) (.int 0) = .ok (nt .sh x, x) := by
  show (match L2.atI (x :: r) 0 with | some d => PV.R.ok (nt Tag.sh d, d) | none => .stuck) = _
  rw [show L2.atI (x :: r) 0 = some x from atI_at (n := 0) (x := x) rfl rfl]
theorem fine_sp : Fine 1 " " := Fine.of _ (by decide)
theorem is_sb {z : Str} {b : Bool} : evCmp .is (.str z) (.bool b) = .ok false := rfl
theorem is_ib {i : Int} {b : Bool} : evCmp .is (.int i) (.bool b) = .ok false := rfl
theorem is_bb {a b : Bool} : evCmp .is (.bool a) (.bool b) = .ok (decide (a = b)) := rfl
theorem wr_str {g : List D → R TD} {z : Str} : wrE g [.str z] = .ok (.sh, .str z) := by
  refine def_is rfl ?_
  unfold b_written
  refine s_if (t := false) (by simp -implicitDefEqProofs [isT]) (fun z => by cases z) fun _ => ?_
  refine s_if (t := false) (by simp -implicitDefEqProofs [is_sb]) (fun z => by cases z) fun _ => ?_
  refine s_if (t := false) (by simp -implicitDefEqProofs [is_sb]) (fun z => by cases z) fun _ => ?_
  rw [List.nil_append, ss_cons]; simp -implicitDefEqProofs
theorem wr_int {g : List D → R TD} {i : Int} (h1 : -400 ≤ i) (h2 : i ≤ 400) : wrE g [.int i] = .ok (.sh, .str (istr i)) := by
  refine def_is rfl ?_
  unfold b_written
  refine s_if (t := false) (by simp -implicitDefEqProofs [isT]) (fun z => by cases z) fun _ => ?_
  refine s_if (t := false) (by simp -implicitDefEqProofs [is_ib]) (fun z => by cases z) fun _ => ?_
  refine s_if (t := false) (by simp -implicitDefEqProofs [is_ib]) (fun z => by cases z) fun _ => ?_
  rw [List.nil_append, ss_cons]; simp -implicitDefEqProofs [str_istr h1 h2]
def bstr (b : Bool) : Str := if b then "true" else "false"
theorem wr_bool {g : List D → R TD} {b : Bool} : wrE g [.bool b] = .ok (.sh, .str (bstr b)) := by
  refine def_is rfl ?_
  unfold b_written
  refine s_if (t := false) (by simp -implicitDefEqProofs [isT]) (fun z => by cases z) fun _ => ?_
  rw [List.nil_append]
  cases b with
  | true =>
    refine s_if (t := true) (by simp -implicitDefEqProofs [is_bb]) (fun _ => ?_) (fun z => by cases z)
    rw [List.cons_append, ss_cons]; simp -implicitDefEqProofs
    rfl
  | false =>
    refine s_if (t := false) (by simp -implicitDefEqProofs [is_bb]) (fun z => by cases z) fun _ => ?_
    refine s_if (t := true) (by simp -implicitDefEqProofs [is_bb]) (fun _ => ?_) (fun z => by cases z)
    rw [List.cons_append, ss_cons]; simp -implicitDefEqProofs
    rfl
theorem wr_tup {g : List D → R TD} {m : Nat} {l : List (D × Str)} (h : ∀ p ∈ l, g [p.1] = .ok (.sh, .str p.2) ∧ Fine m p.2) (hb : l.length * (m + 1) ≤ 16000000) : wrE g [.tuple (l.map (·.1))] = .ok (.sh, .str (Txt.join " " (l.map (·.2)))) := by
  refine def_is rfl ?_
  unfold b_written
  refine s_if (t := true) (by simp -implicitDefEqProofs [isT]) (fun _ => ?_) (fun z => by cases z)
  have lk : (Gam.add G_bodies_of "written"  g) "written" = some g := if_pos rfl
  have ec : ∀ z : Slot, ev (Gam.add G_bodies_of "written"  g) (.cpr [("part", 1)] (.nm 1) (.tup (.var 0)) .nil (.call "written" (.cons (.var 1) .nil))) [.sh (.tuple (l.map (·.1))), z] = .ok (.ow, sl (l.map (·.2))) := fun z => by
    have := e_map (G := Gam.add G_bodies_of "written"  g) (own := [("part", 1)]) (tg := .nm 1) (src := .tup (.var 0)) (c := .nil) (e := .call "written" (.cons (.var 1) .nil)) (env := [.sh (.tuple (l.map (·.1))), z]) (t := .sh) (l := l) (w := fun p => p.1) (h := fun p => .str p.2) (by simp -implicitDefEqProofs) (by show l.length ≤ 16000000; have := Nat.le_mul_of_pos_right l.length (show 0 < m + 1 by omega); omega) fun p hp => by
      have := (h p hp).1
      simp -implicitDefEqProofs [cprItem, wipeE, lk, this]
    rw [this]
    simp [sl]
  have hy : ∀ y ∈ l.map (·.2), y.length ≤ m := fun y hy => by obtain ⟨p, hp, rfl⟩ := List.mem_map.mp hy; exact (h p hp).2.2
  have ej := ev_join (sep := " ") hy (by rw [List.length_map]; exact hb)
  rw [List.cons_append, ss_cons]
  show Sat _ ((evS _ _ (.ret [] (.join (.cst (.str " ")) (.cpr [("part", 1)] (.nm 1) (.tup (.var 0)) .nil (.call "written" (.cons (.var 1) .nil))))) _).then _)
  simp -implicitDefEqProofs only [y_ret, frz_nil, x_join, List.map_cons, List.map_nil, List.length_cons, List.length_nil, List.replicate, List.cons_append, List.nil_append, Nat.reduceAdd, Nat.reduceSub, ec]
  simp -implicitDefEqProofs [ej]
theorem lw_str {g : List D → R TD} {z : Str} : lwE g [.str z] = .ok (.sh, .str z) := by
  refine def_is rfl ?_
  unfold b__law_words
  refine s_if (t := false) (by simp -implicitDefEqProofs [isT]) (fun z => by cases z) fun _ => ?_
  refine s_if (t := false) (by simp -implicitDefEqProofs [isT]) (fun z => by cases z) fun _ => ?_
  rw [List.nil_append, ss_cons]; simp -implicitDefEqProofs
theorem lw_int {g : List D → R TD} {i : Int} (h1 : -400 ≤ i) (h2 : i ≤ 400) : lwE g [.int i] = .ok (.sh, .str (istr i)) := by
  refine def_is rfl ?_
  unfold b__law_words
  refine s_if (t := false) (by simp -implicitDefEqProofs [isT]) (fun z => by cases z) fun _ => ?_
  refine s_if (t := false) (by simp -implicitDefEqProofs [isT]) (fun z => by cases z) fun _ => ?_
  rw [List.nil_append, ss_cons]; simp -implicitDefEqProofs [str_istr h1 h2]
theorem lw_bool {g : List D → R TD} {b : Bool} : lwE g [.bool b] = .ok (.sh, .str (bstr b)) := by
  refine def_is rfl ?_
  unfold b__law_words
  refine s_if (t := true) (by simp -implicitDefEqProofs [isT]) (fun _ => ?_) (fun z => by cases z)
  rw [List.cons_append, ss_cons]
  cases b
  · have e0 : ∀ t : Tag, evIx (t, .list [.str "false", .str "true"]) (.int 0) = .ok (.sh, .str "false") := fun t => by cases t <;> rfl
    simp -implicitDefEqProofs [e0]
    rfl
  · have e1 : ∀ t : Tag, evIx (t, .list [.str "false", .str "true"]) (.int 1) = .ok (.sh, .str "true") := fun t => by cases t <;> rfl
    simp -implicitDefEqProofs [e1]
    rfl
theorem lw_tup {g : List D → R TD} {m : Nat} {z : Str} {l : List (D × Str)} (hz : Fine m z) (h : ∀ p ∈ l, g [p.1] = .ok (.sh, .str p.2) ∧ Fine m p.2) (hb : (l.length + 1) * (m + 1) ≤ 16000000) : lwE g [.tuple (.str z :: l.map (·.1))] = .ok (.sh, .str (Txt.join " " (z :: l.map (·.2)))) := by
  refine def_is rfl ?_
  unfold b__law_words
  refine s_if (t := false) (by simp -implicitDefEqProofs [isT]) (fun z => by cases z) fun _ => ?_
  refine s_if (t := true) (by simp -implicitDefEqProofs [isT]) (fun _ => ?_) (fun z => by cases z)
  have lk : (Gam.add G__law_program "_law_words"  g) "_law_words" = some g := if_pos rfl
  have hl1 : l.length + 1 ≤ 16000000 := Nat.le_trans (Nat.le_mul_of_pos_right (l.length + 1) (show 0 < m + 1 by omega)) hb
  have hl : l.length ≤ 16000000 := by omega
  have esl : evSl (.sh, .tuple (.str z :: l.map (·.1))) (some 1) none = .ok (.sh, .tuple (l.map (·.1))) := slT (by omega) (by rw [List.length_cons]; omega)
  have ec : ∀ z1 : Slot, ev (Gam.add G__law_program "_law_words"  g) (.cpr [("_law_part", 1)] (.nm 1) (.tup (.sli (.var 0) (.at (.cst (.int 1))) .no)) .nil (.call "_law_words" (.cons (.var 1) .nil))) [.sh (.tuple (.str z :: l.map (·.1))), z1] = .ok (.ow, sl (l.map (·.2))) := fun z1 => by
    have := e_map (G := Gam.add G__law_program "_law_words"  g) (own := [("_law_part", 1)]) (tg := .nm 1) (src := .tup (.sli (.var 0) (.at (.cst (.int 1))) .no)) (c := .nil) (e := .call "_law_words" (.cons (.var 1) .nil)) (env := [.sh (.tuple (.str z :: l.map (·.1))), z1]) (t := .sh) (l := l) (w := fun p => p.1) (h := fun p => .str p.2) (by simp -implicitDefEqProofs [esl]) hl fun p hp => by
      have := (h p hp).1
      simp -implicitDefEqProofs [cprItem, wipeE, lk, this]
    rw [this]
    simp [sl]
  have hy : ∀ y ∈ z :: l.map (·.2), y.length ≤ m := fun y hy => by
    rcases List.mem_cons.mp hy with rfl | hy
    · exact hz.2
    · obtain ⟨p, hp, rfl⟩ := List.mem_map.mp hy; exact (h p hp).2.2
  have ej := ev_join (sep := " ") hy (by rw [List.length_cons, List.length_map]; exact hb)
  have ct : evBin .add (.ow, .list [.str z]) (.ow, sl (l.map (·.2))) = .ok (.ow, sl (z :: l.map (·.2))) := by
    rw [cat_list (by rw [List.length_map, List.length_map]; show _ ≤ 16000000; simp only [List.length_cons, List.length_nil]; omega)]
    rfl
  have i0 : evIx (.sh, .tuple (.str z :: l.map (·.1))) (.int 0) = .ok (.sh, .str z) := ixT0
  rw [List.cons_append, ss_cons]
  simp -implicitDefEqProofs only [y_ret, frz_nil, x_join, List.map_cons, List.map_nil, List.length_cons, List.length_nil, List.replicate, List.cons_append, List.nil_append, Nat.reduceAdd, Nat.reduceSub, x_bin, ec]
  simp -implicitDefEqProofs [i0, ct, ej]
def Va.fin : Va → Prop | .nm s => Fine 25 s | .num i => i.natAbs ≤ 100 | .nd _ a b => a.fin ∧ b.fin
def Co.fin : Co → Prop | .b _ => True | .no c => c.fin | .an x y => x.fin ∧ y.fin | .orr x y => x.fin ∧ y.fin | .cm _ v w => v.fin ∧ w.fin
theorem Va.infin {ss : List Str} (h : ∀ s ∈ ss, Fine 25 s) : ∀ {t : Va}, t.inn ss → t.fin
  | .nm s, k => h s k
  | .num _, k => k
  | .nd _ a b, k => ⟨a.infin h k.1, b.infin h k.2⟩
theorem Co.infin {ss : List Str} (h : ∀ s ∈ ss, Fine 25 s) : ∀ {t : Co}, t.inn ss → t.fin
  | .b _, _ => trivial
  | .no c, k => c.infin h k
  | .an x y, k => ⟨x.infin h k.1, y.infin h k.2⟩
  | .orr x y, k => ⟨x.infin h k.1, y.infin h k.2⟩
  | .cm _ v w, k => ⟨v.infin h k.1, w.infin h k.2⟩
def wl : Nat → Nat | 0 => 26 | n + 1 => 3 * (wl n + 1)
theorem wl_mono {n m : Nat} (h : n ≤ m) : wl n ≤ wl m := by
  induction h with
  | refl => exact Nat.le_refl _
  | step _ ih => show _ ≤ 3 * (wl _ + 1); omega
theorem wl_pos (n : Nat) : 26 ≤ wl n := wl_mono (Nat.zero_le n)
def Va.wr : Va → Str | .nm s => s | .num i => istr i | .nd g a b => Txt.join " " [sgn g, a.wr, b.wr]
def Co.wr : Co → Str | .b x => bstr x | .no c => Txt.join " " ["not", c.wr] | .an x y => Txt.join " " ["and", x.wr, y.wr] | .orr x y => Txt.join " " ["or", x.wr, y.wr] | .cm g v w => Txt.join " " [csg g, v.wr, w.wr]
theorem sgn_fine (g : Nat) : Fine 26 (sgn g) := by
  match g with
  | 0 => exact Fine.of _ (by decide)
  | 1 => exact Fine.of _ (by decide)
  | n + 2 => exact Fine.of _ (by decide)
theorem csg_fine (g : Nat) : Fine 26 (csg g) := by
  match g with
  | 0 => exact Fine.of _ (by decide)
  | 1 => exact Fine.of _ (by decide)
  | n + 2 => exact Fine.of _ (by decide)
theorem Va.wfine : ∀ {t : Va} {n : Nat}, t.fin → t.dep ≤ n → Fine (wl n) t.wr
  | .nm s, n, h, _ => Fine.le h (by have := wl_pos n; omega)
  | .num i, n, h, _ => by
    have h : i.natAbs ≤ 100 := h
    exact (istr_fine (i := i) (by omega) (by omega)).le (by have := wl_pos n; omega)
  | .nd g a b, 0, _, hd => by simp [Va.dep] at hd
  | .nd g a b, n + 1, h, hd => by
    have hd : max a.dep b.dep + 1 ≤ n + 1 := hd
    have h1 := a.wfine (n := n) h.1 (by omega)
    have h2 := b.wfine (n := n) h.2 (by omega)
    have := fine_join fine_sp (m := wl n) (ys := [sgn g, a.wr, b.wr]) fun y hy => by
      simp only [List.mem_cons, List.not_mem_nil, or_false] at hy
      rcases hy with rfl | rfl | rfl
      · exact (sgn_fine g).le (wl_pos n)
      · exact h1
      · exact h2
    exact this
theorem Co.wfine : ∀ {t : Co} {n : Nat}, t.fin → t.dep ≤ n → Fine (wl n) t.wr
  | .b x, n, _, _ => by
    refine Fine.le (n := 26) ?_ (wl_pos n)
    cases x
    · exact Fine.of _ (by decide)
    · exact Fine.of _ (by decide)
  | .no c, 0, _, hd => by simp [Co.dep] at hd
  | .an u v, 0, _, hd => by simp [Co.dep] at hd
  | .orr u v, 0, _, hd => by simp [Co.dep] at hd
  | .cm _ u v, 0, _, hd => by simp [Co.dep] at hd
  | .no c, n + 1, h, hd => by
    have hd : c.dep + 1 ≤ n + 1 := hd
    have h1 := c.wfine (n := n) h (by omega)
    refine (fine_join fine_sp (m := wl n) (ys := ["not", c.wr]) fun y hy => ?_).le (by show 2 * (wl n + 1) ≤ 3 * (wl n + 1); omega)
    simp only [List.mem_cons, List.not_mem_nil, or_false] at hy
    rcases hy with rfl | rfl
    · exact Fine.le (n := 26) (Fine.of _ (by decide)) (wl_pos n)
    · exact h1
  | .an u v, n + 1, h, hd => by
    have hd : max u.dep v.dep + 1 ≤ n + 1 := hd
    have h1 := u.wfine (n := n) h.1 (by omega)
    have h2 := v.wfine (n := n) h.2 (by omega)
    refine fine_join fine_sp (m := wl n) (ys := ["and", u.wr, v.wr]) fun y hy => ?_
    simp only [List.mem_cons, List.not_mem_nil, or_false] at hy
    rcases hy with rfl | rfl | rfl
    · exact Fine.le (n := 26) (Fine.of _ (by decide)) (wl_pos n)
    · exact h1
    · exact h2
  | .orr u v, n + 1, h, hd => by
    have hd : max u.dep v.dep + 1 ≤ n + 1 := hd
    have h1 := u.wfine (n := n) h.1 (by omega)
    have h2 := v.wfine (n := n) h.2 (by omega)
    refine fine_join fine_sp (m := wl n) (ys := ["or", u.wr, v.wr]) fun y hy => ?_
    simp only [List.mem_cons, List.not_mem_nil, or_false] at hy
    rcases hy with rfl | rfl | rfl
    · exact Fine.le (n := 26) (Fine.of _ (by decide)) (wl_pos n)
    · exact h1
    · exact h2
  | .cm g u v, n + 1, h, hd => by
    have hd : max u.dep v.dep + 1 ≤ n + 1 := hd
    have h1 := u.wfine (n := n) h.1 (by omega)
    have h2 := v.wfine (n := n) h.2 (by omega)
    refine fine_join fine_sp (m := wl n) (ys := [csg g, u.wr, v.wr]) fun y hy => ?_
    simp only [List.mem_cons, List.not_mem_nil, or_false] at hy
    rcases hy with rfl | rfl | rfl
    · exact (csg_fine g).le (wl_pos n)
    · exact h1
    · exact h2
theorem wl_le {n : Nat} (h : n ≤ 6) : wl n ≤ 30000 := Nat.le_trans (wl_mono h) (by decide)

/-! bodies of statements -/
inductive Pw where | n (s : Str) | v (a : Va) | c (a : Co)
def Pw.d : Pw → D | .n s => .str s | .v a => a.d | .c a => a.d
def Pw.wr : Pw → Str | .n s => s | .v a => a.wr | .c a => a.wr
def Pw.fin : Pw → Prop | .n s => Fine 25 s | .v a => a.fin ∧ a.dep ≤ 4 | .c a => a.fin ∧ a.dep ≤ 4
mutual
inductive St where
  | sim (w : Str) (ps : List Pw)
  | ife (c : Co) (a b : Bd)
  | lop (c : Co) (a : Bd)
  | cho (bs : Bds)
inductive Bd where | nil | cons (s : St) (r : Bd)
inductive Bds where | nil | cons (b : Bd) (r : Bds)
end
mutual
def St.d : St → D
  | .sim w ps => .tuple (.str w :: ps.map Pw.d)
  | .ife c a b => .tuple [.str "if", c.d, .list a.ds, .list b.ds]
  | .lop c a => .tuple [.str "loop", c.d, .list a.ds]
  | .cho bs => .tuple [.str "choose", .list bs.ds]
def Bd.ds : Bd → List D | .nil => [] | .cons s r => s.d :: r.ds
def Bds.ds : Bds → List D | .nil => [] | .cons b r => .list b.ds :: r.ds
end
def Bd.toL : Bd → List St | .nil => [] | .cons s r => s :: r.toL
def Bds.toL : Bds → List Bd | .nil => [] | .cons b r => b :: r.toL
def Bd.ofL : List St → Bd | [] => .nil | s :: r => .cons s (Bd.ofL r)
def Bds.ofL : List Bd → Bds | [] => .nil | s :: r => .cons s (Bds.ofL r)
theorem Bd.toL_of : ∀ l : List St, (Bd.ofL l).toL = l | [] => rfl | s :: r => by simp [Bd.ofL, Bd.toL, Bd.toL_of r]
theorem Bds.toL_of : ∀ l : List Bd, (Bds.ofL l).toL = l | [] => rfl | s :: r => by simp [Bds.ofL, Bds.toL, Bds.toL_of r]
theorem Bd.ds_eq : ∀ b : Bd, b.ds = b.toL.map St.d | .nil => rfl | .cons s r => by simp [Bd.ds, Bd.toL, Bd.ds_eq r]
theorem Bds.ds_eq : ∀ b : Bds, b.ds = b.toL.map fun b => .list b.ds | .nil => rfl | .cons s r => by simp [Bds.ds, Bds.toL, Bds.ds_eq r]
def pad (k : Nat) : Str := Txt.mul "  " k
/-- lists of lines with a line between them, the first j of them -/
def sepA (x : Str) (l : List (List Str)) (j : Nat) : List Str := (List.range j).flatMap fun i => (if 0 < i then [x] else []) ++ l.getD i []
theorem sepA_succ {x : Str} {l : List (List Str)} {j : Nat} : sepA x l (j + 1) = sepA x l j ++ ((if 0 < j then [x] else []) ++ l.getD j []) := by
  unfold sepA
  rw [List.range_succ, List.flatMap_append]
  simp
theorem sepA_zero {x : Str} {l : List (List Str)} : sepA x l 0 = [] := rfl
def sepI (x : Str) (l : List (List Str)) : List Str := sepA x l l.length
mutual
def St.lns : St → Nat → List Str
  | .sim w ps, k => [pad k ++ Txt.join " " (w :: ps.map Pw.wr)]
  | .ife c a b, k => (pad k ++ (("if" : Str) ++ (" " : Str) ++ c.wr)) :: (sepI (pad k ++ "else") [a.lns (k + 1), b.lns (k + 1)] ++ [pad k ++ "end"])
  | .lop c a, k => (pad k ++ (("loop" : Str) ++ (" " : Str) ++ c.wr)) :: (sepI (pad k ++ "or") [a.lns (k + 1)] ++ [pad k ++ "end"])
  | .cho bs, k => (pad k ++ "choose") :: (sepI (pad k ++ "or") (bs.ll (k + 1)) ++ [pad k ++ "end"])
def Bd.lns : Bd → Nat → List Str | .nil, _ => [] | .cons s r, k => s.lns k ++ r.lns k
def Bds.ll : Bds → Nat → List (List Str) | .nil, _ => [] | .cons b r, k => b.lns k :: r.ll k
def St.nd : St → Nat | .sim _ _ => 0 | .ife _ a b => max a.nd b.nd + 1 | .lop _ a => a.nd + 1 | .cho bs => bs.nd + 1
def Bd.nd : Bd → Nat | .nil => 0 | .cons s r => max s.nd r.nd
def Bds.nd : Bds → Nat | .nil => 0 | .cons b r => max b.nd r.nd
def St.tot : St → Nat | .sim _ _ => 1 | .ife _ a b => 1 + (a.tot + b.tot) | .lop _ a => 1 + a.tot | .cho bs => 1 + bs.tot
def Bd.tot : Bd → Nat | .nil => 0 | .cons s r => s.tot + r.tot
def Bds.tot : Bds → Nat | .nil => 0 | .cons b r => b.tot + r.tot
def St.ok : St → Prop
  | .sim w ps => Fine 25 w ∧ (w ≠ "if" ∧ w ≠ "loop" ∧ w ≠ "choose") ∧ ps.length ≤ 2 ∧ ∀ p ∈ ps, p.fin
  | .ife c a b => c.fin ∧ c.dep ≤ 4 ∧ a.ok ∧ b.ok
  | .lop c a => c.fin ∧ c.dep ≤ 4 ∧ a.ok
  | .cho bs => 0 < bs.toL.length ∧ bs.toL.length ≤ 6 ∧ bs.ok
def Bd.ok : Bd → Prop | .nil => True | .cons s r => s.ok ∧ r.ok
def Bds.ok : Bds → Prop | .nil => True | .cons b r => b.ok ∧ r.ok
end
theorem Bd.lns_eq (k : Nat) : ∀ b : Bd, b.lns k = b.toL.flatMap fun s => s.lns k
  | .nil => rfl
  | .cons s r => by simp [Bd.lns, Bd.toL, Bd.lns_eq k r]
theorem Bds.ll_eq (k : Nat) : ∀ b : Bds, b.ll k = b.toL.map fun b => b.lns k
  | .nil => rfl
  | .cons s r => by simp [Bds.ll, Bds.toL, Bds.ll_eq k r]
theorem Bd.ok_mem : ∀ {b : Bd}, b.ok → ∀ s ∈ b.toL, s.ok
  | .nil, _, _, h => by cases h
  | .cons t r, h, s, hs => by
    rcases List.mem_cons.mp hs with rfl | hs
    · exact h.1
    · exact Bd.ok_mem h.2 s hs
theorem Bds.ok_mem : ∀ {b : Bds}, b.ok → ∀ s ∈ b.toL, s.ok
  | .nil, _, _, h => by cases h
  | .cons t r, h, s, hs => by
    rcases List.mem_cons.mp hs with rfl | hs
    · exact h.1
    · exact Bds.ok_mem h.2 s hs
theorem Bd.ok_of : ∀ {l : List St}, (∀ s ∈ l, s.ok) → (Bd.ofL l).ok
  | [], _ => trivial
  | s :: r, h => ⟨h s List.mem_cons_self, Bd.ok_of fun t ht => h t (List.mem_cons_of_mem _ ht)⟩
theorem Bds.ok_of : ∀ {l : List Bd}, (∀ s ∈ l, s.ok) → (Bds.ofL l).ok
  | [], _ => trivial
  | s :: r, h => ⟨h s List.mem_cons_self, Bds.ok_of fun t ht => h t (List.mem_cons_of_mem _ ht)⟩
theorem Bd.nd_mem : ∀ {b : Bd}, ∀ s ∈ b.toL, s.nd ≤ b.nd
  | .nil, _, h => by cases h
  | .cons t r, s, hs => by
    show s.nd ≤ max t.nd r.nd
    rcases List.mem_cons.mp hs with rfl | hs
    · omega
    · have := Bd.nd_mem s hs; omega
theorem Bds.nd_mem : ∀ {b : Bds}, ∀ s ∈ b.toL, s.nd ≤ b.nd
  | .nil, _, h => by cases h
  | .cons t r, s, hs => by
    show s.nd ≤ max t.nd r.nd
    rcases List.mem_cons.mp hs with rfl | hs
    · omega
    · have := Bds.nd_mem s hs; omega
theorem Bd.tot_mem : ∀ {b : Bd}, ∀ s ∈ b.toL, s.tot ≤ b.tot
  | .nil, _, h => by cases h
  | .cons t r, s, hs => by
    show s.tot ≤ t.tot + r.tot
    rcases List.mem_cons.mp hs with rfl | hs
    · omega
    · have := Bd.tot_mem s hs; omega
theorem Bds.tot_mem : ∀ {b : Bds}, ∀ s ∈ b.toL, s.tot ≤ b.tot
  | .nil, _, h => by cases h
  | .cons t r, s, hs => by
    show s.tot ≤ t.tot + r.tot
    rcases List.mem_cons.mp hs with rfl | hs
    · omega
    · have := Bds.tot_mem s hs; omega
theorem St.tot_pos : ∀ s : St, 1 ≤ s.tot
  | .sim _ _ => Nat.le_refl 1
  | .ife _ _ _ => Nat.le_add_right 1 _
  | .lop _ _ => Nat.le_add_right 1 _
  | .cho _ => Nat.le_add_right 1 _
theorem Bd.len_tot : ∀ b : Bd, b.toL.length ≤ b.tot
  | .nil => Nat.le_refl 0
  | .cons s r => by
    have := s.tot_pos
    have := Bd.len_tot r
    show r.toL.length + 1 ≤ s.tot + r.tot
    omega
theorem Bd.tot_eq : ∀ b : Bd, b.tot = (b.toL.map St.tot).sum
  | .nil => rfl
  | .cons s r => by simp [Bd.tot, Bd.toL, Bd.tot_eq r]
theorem Bds.tot_eq : ∀ b : Bds, b.tot = (b.toL.map Bd.tot).sum
  | .nil => rfl
  | .cons s r => by simp [Bds.tot, Bds.toL, Bds.tot_eq r]
/-- a statement's bodies -/
def St.bds : St → List Bd | .sim _ _ => [] | .ife _ a b => [a, b] | .lop _ a => [a] | .cho bs => bs.toL
def St.wd : St → Str | .sim w _ => w | .ife _ _ _ => "if" | .lop _ _ => "loop" | .cho _ => "choose"
def St.line : St → Str | .sim w ps => Txt.join " " (w :: ps.map Pw.wr) | .ife c _ _ => ("if" : Str) ++ (" " : Str) ++ c.wr | .lop c _ => ("loop" : Str) ++ (" " : Str) ++ c.wr | .cho _ => "choose"
def St.btw (s : St) : Str := if s.wd = "if" then "else" else "or"
theorem s_if_ne : ("loop" : Str) ≠ "if" ∧ ("choose" : Str) ≠ "if" ∧ ("choose" : Str) ≠ "loop" ∧ ("if" : Str) ≠ "loop" ∧ ("if" : Str) ≠ "choose" ∧ ("loop" : Str) ≠ "choose" := by decide +kernel
theorem St.lns_eq {s : St} (h : s.ok) (k : Nat) : s.lns k = (pad k ++ s.line) :: (sepI (pad k ++ s.btw) (s.bds.map fun b => b.lns (k + 1)) ++ if s.bds.length = 0 then [] else [pad k ++ "end"]) := by
  obtain ⟨n1, n2, n3, n4, n5, n6⟩ := s_if_ne
  cases s with
  | sim w ps => simp [St.lns, St.line, St.bds, sepI, sepA]
  | ife c a b => simp [St.lns, St.line, St.bds, St.btw, St.wd]
  | lop c a => simp [St.lns, St.line, St.bds, St.btw, St.wd, n1]
  | cho bs =>
    have h1 : 0 < bs.toL.length := h.1
    have h2 : ¬ bs.toL.length = 0 := by omega
    rw [if_neg (show ¬ (St.cho bs).bds.length = 0 from h2)]
    simp only [St.lns, St.line, St.bds, St.btw, St.wd, n2, if_false, Bds.ll_eq]
theorem St.bds_ok {s : St} (h : s.ok) : ∀ b ∈ s.bds, b.ok ∧ b.nd + 1 ≤ s.nd ∧ b.tot + 1 ≤ s.tot := fun b hb => by
  cases s with
  | sim w ps => cases hb
  | ife c a e =>
    simp only [St.bds, List.mem_cons, List.not_mem_nil, or_false] at hb
    rcases hb with rfl | rfl
    · exact ⟨h.2.2.1, by simp only [St.nd]; omega, by simp only [St.tot]; omega⟩
    · exact ⟨h.2.2.2, by simp only [St.nd]; omega, by simp only [St.tot]; omega⟩
  | lop c a =>
    simp only [St.bds, List.mem_cons, List.not_mem_nil, or_false] at hb
    subst hb
    exact ⟨h.2.2, by simp only [St.nd]; omega, by simp only [St.tot]; omega⟩
  | cho bs =>
    have hb : b ∈ bs.toL := hb
    have h1 := Bds.nd_mem b hb
    have h2 := Bds.tot_mem b hb
    exact ⟨Bds.ok_mem h.2.2 b hb, by simp only [St.nd]; omega, by simp only [St.tot]; omega⟩
theorem sepI_len {x : Str} : ∀ {l : List (List Str)} {j : Nat}, (sepA x l j).length ≤ j + ((List.range j).map fun i => (l.getD i []).length).sum
  | l, 0 => Nat.le_refl 0
  | l, j + 1 => by
    have ih := sepI_len (x := x) (l := l) (j := j)
    rw [sepA_succ, List.range_succ, List.map_append, List.sum_append, List.length_append, List.length_append]
    have : (if 0 < j then [x] else []).length ≤ 1 := by split <;> simp
    simp only [List.map_cons, List.map_nil, List.sum_cons, List.sum_nil]
    omega
theorem rng_sum : ∀ l : List (List Str), ((List.range l.length).map fun i => (l.getD i []).length).sum = (l.map List.length).sum
  | [] => rfl
  | a :: r => by
    rw [List.length_cons, List.range_succ_eq_map, List.map_cons, List.sum_cons, List.map_map, List.map_cons, List.sum_cons]
    have := rng_sum r
    congr 1
theorem sepI_le {x : Str} {l : List (List Str)} : (sepI x l).length ≤ l.length + (l.map List.length).sum := by
  have := sepI_len (x := x) (l := l) (j := l.length)
  rwa [rng_sum] at this
mutual
theorem St.lc : ∀ {s : St} {k : Nat}, s.ok → (s.lns k).length ≤ 8 * s.tot
  | .sim w ps, k, _ => by simp [St.lns, St.tot]
  | .ife c a b, k, h => by
    have h1 := Bd.lc (k := k + 1) h.2.2.1
    have h2 := Bd.lc (k := k + 1) h.2.2.2
    have := sepI_le (x := pad k ++ "else") (l := [a.lns (k + 1), b.lns (k + 1)])
    simp only [List.map_cons, List.map_nil, List.sum_cons, List.sum_nil, List.length_cons, List.length_nil] at this
    simp only [St.lns, St.tot, List.length_cons, List.length_append, List.length_nil]
    omega
  | .lop c a, k, h => by
    have h1 := Bd.lc (k := k + 1) h.2.2
    have := sepI_le (x := pad k ++ "or") (l := [a.lns (k + 1)])
    simp only [List.map_cons, List.map_nil, List.sum_cons, List.sum_nil, List.length_cons, List.length_nil] at this
    simp only [St.lns, St.tot, List.length_cons, List.length_append, List.length_nil]
    omega
  | .cho bs, k, h => by
    have h1 := Bds.lc (k := k + 1) h.2.2
    have h2 : bs.toL.length ≤ 6 := h.2.1
    have := sepI_le (x := pad k ++ "or") (l := bs.ll (k + 1))
    have h3 : (bs.ll (k + 1)).length = bs.toL.length := by rw [Bds.ll_eq, List.length_map]
    simp only [St.lns, St.tot, List.length_cons, List.length_append, List.length_nil]
    omega
theorem Bd.lc : ∀ {b : Bd} {k : Nat}, b.ok → (b.lns k).length ≤ 8 * b.tot
  | .nil, k, _ => by simp [Bd.lns]
  | .cons s r, k, h => by
    have h1 := St.lc (k := k) h.1
    have h2 := Bd.lc (k := k) h.2
    simp only [Bd.lns, Bd.tot, List.length_append]
    omega
theorem Bds.lc : ∀ {b : Bds} {k : Nat}, b.ok → ((b.ll k).map List.length).sum ≤ 8 * b.tot
  | .nil, k, _ => by simp [Bds.ll]
  | .cons s r, k, h => by
    have h1 := Bd.lc (k := k) h.1
    have h2 := Bds.lc (k := k) h.2
    simp only [Bds.ll, Bds.tot, List.map_cons, List.sum_cons]
    omega
end

/-! written things, reckoned -/
theorem wrN_str {n : Nat} (h : 0 < n) {z : Str} : wrN n [.str z] = .ok (.sh, .str z) := by
  obtain ⟨m, rfl⟩ : ∃ m, n = m + 1 := ⟨n - 1, by omega⟩
  rw [wrN_succ]; exact wr_str
theorem lwN_str {n : Nat} (h : 0 < n) {z : Str} : lwN n [.str z] = .ok (.sh, .str z) := by
  obtain ⟨m, rfl⟩ : ∃ m, n = m + 1 := ⟨n - 1, by omega⟩
  rw [lwN_succ]; exact lw_str
theorem va_wr : ∀ {t : Va} {n : Nat}, t.fin → t.dep ≤ 5 → t.dep < n → wrN n [t.d] = .ok (.sh, .str t.wr) ∧ lwN n [t.d] = .ok (.sh, .str t.wr)
  | .nm s, 0, _, _, h => absurd h (Nat.not_lt_zero _)
  | .num s, 0, _, _, h => absurd h (Nat.not_lt_zero _)
  | .nd _ _ _, 0, _, _, h => absurd h (Nat.not_lt_zero _)
  | .nm s, n + 1, _, _, _ => ⟨wrN_str (by omega), lwN_str (by omega)⟩
  | .num i, n + 1, h, _, _ => by
    have h : i.natAbs ≤ 100 := h
    rw [wrN_succ, lwN_succ]
    exact ⟨wr_int (by omega) (by omega), lw_int (by omega) (by omega)⟩
  | .nd g a b, n + 1, h, h1, h2 => by
    have h1 : max a.dep b.dep + 1 ≤ 5 := h1
    have h2 : max a.dep b.dep + 1 < n + 1 := h2
    have ha := va_wr (t := a) (n := n) h.1 (by omega) (by omega)
    have hb := va_wr (t := b) (n := n) h.2 (by omega) (by omega)
    have fa := a.wfine (n := 5) h.1 (by omega)
    have fb := b.wfine (n := 5) h.2 (by omega)
    rw [wrN_succ, lwN_succ]
    constructor
    · refine wr_tup (m := wl 5) (l := [(.str (sgn g), sgn g), (a.d, a.wr), (b.d, b.wr)]) (fun p hp => ?_) (by show 3 * (wl 5 + 1) ≤ 16000000; decide)
      simp only [List.mem_cons, List.not_mem_nil, or_false] at hp
      rcases hp with rfl | rfl | rfl
      · exact ⟨wrN_str (by omega), (sgn_fine g).le (wl_pos 5)⟩
      · exact ⟨ha.1, fa⟩
      · exact ⟨hb.1, fb⟩
    · refine lw_tup (m := wl 5) (l := [(a.d, a.wr), (b.d, b.wr)]) ((sgn_fine g).le (wl_pos 5)) (fun p hp => ?_) (by show 3 * (wl 5 + 1) ≤ 16000000; decide)
      simp only [List.mem_cons, List.not_mem_nil, or_false] at hp
      rcases hp with rfl | rfl
      · exact ⟨ha.2, fa⟩
      · exact ⟨hb.2, fb⟩
theorem co_two {n : Nat} {z x y : Str} {u v : D} (hn : 0 < n) (hz : Fine 26 z) (h1 : wrN n [u] = .ok (.sh, .str x) ∧ lwN n [u] = .ok (.sh, .str x)) (h2 : wrN n [v] = .ok (.sh, .str y) ∧ lwN n [v] = .ok (.sh, .str y)) (fx : Fine (wl 5) x) (fy : Fine (wl 5) y) :
    wrE (wrN n) [.tuple [.str z, u, v]] = .ok (.sh, .str (Txt.join " " [z, x, y])) ∧ lwE (lwN n) [.tuple [.str z, u, v]] = .ok (.sh, .str (Txt.join " " [z, x, y])) := by
  constructor
  · refine wr_tup (m := wl 5) (l := [(.str z, z), (u, x), (v, y)]) (fun p hp => ?_) (by show 3 * (wl 5 + 1) ≤ 16000000; decide)
    simp only [List.mem_cons, List.not_mem_nil, or_false] at hp
    rcases hp with rfl | rfl | rfl
    · exact ⟨wrN_str hn, hz.le (wl_pos 5)⟩
    · exact ⟨h1.1, fx⟩
    · exact ⟨h2.1, fy⟩
  · refine lw_tup (m := wl 5) (l := [(u, x), (v, y)]) (hz.le (wl_pos 5)) (fun p hp => ?_) (by show 3 * (wl 5 + 1) ≤ 16000000; decide)
    simp only [List.mem_cons, List.not_mem_nil, or_false] at hp
    rcases hp with rfl | rfl
    · exact ⟨h1.2, fx⟩
    · exact ⟨h2.2, fy⟩
theorem co_one {n : Nat} {z x : Str} {u : D} (hn : 0 < n) (hz : Fine 26 z) (h1 : wrN n [u] = .ok (.sh, .str x) ∧ lwN n [u] = .ok (.sh, .str x)) (fx : Fine (wl 5) x) :
    wrE (wrN n) [.tuple [.str z, u]] = .ok (.sh, .str (Txt.join " " [z, x])) ∧ lwE (lwN n) [.tuple [.str z, u]] = .ok (.sh, .str (Txt.join " " [z, x])) := by
  constructor
  · refine wr_tup (m := wl 5) (l := [(.str z, z), (u, x)]) (fun p hp => ?_) (by show 2 * (wl 5 + 1) ≤ 16000000; decide)
    simp only [List.mem_cons, List.not_mem_nil, or_false] at hp
    rcases hp with rfl | rfl
    · exact ⟨wrN_str hn, hz.le (wl_pos 5)⟩
    · exact ⟨h1.1, fx⟩
  · refine lw_tup (m := wl 5) (l := [(u, x)]) (hz.le (wl_pos 5)) (fun p hp => ?_) (by show 2 * (wl 5 + 1) ≤ 16000000; decide)
    simp only [List.mem_cons, List.not_mem_nil, or_false] at hp
    subst hp
    exact ⟨h1.2, fx⟩
theorem co_wr : ∀ {t : Co} {n : Nat}, t.fin → t.dep ≤ 5 → t.dep < n → wrN n [t.d] = .ok (.sh, .str t.wr) ∧ lwN n [t.d] = .ok (.sh, .str t.wr)
  | .b _, 0, _, _, h => absurd h (Nat.not_lt_zero _)
  | .no _, 0, _, _, h => absurd h (Nat.not_lt_zero _)
  | .an _ _, 0, _, _, h => absurd h (Nat.not_lt_zero _)
  | .orr _ _, 0, _, _, h => absurd h (Nat.not_lt_zero _)
  | .cm _ _ _, 0, _, _, h => absurd h (Nat.not_lt_zero _)
  | .b x, n + 1, _, _, _ => by
    rw [wrN_succ, lwN_succ]
    exact ⟨wr_bool, lw_bool⟩
  | .no c, n + 1, h, h1, h2 => by
    have h1 : c.dep + 1 ≤ 5 := h1
    have h2 : c.dep + 1 < n + 1 := h2
    rw [wrN_succ, lwN_succ]
    exact co_one (by omega) (Fine.of _ (by decide)) (co_wr (t := c) (n := n) h (by omega) (by omega)) (c.wfine (n := 5) h (by omega))
  | .an x y, n + 1, h, h1, h2 => by
    have h1 : max x.dep y.dep + 1 ≤ 5 := h1
    have h2 : max x.dep y.dep + 1 < n + 1 := h2
    rw [wrN_succ, lwN_succ]
    exact co_two (by omega) (Fine.of _ (by decide)) (co_wr (t := x) (n := n) h.1 (by omega) (by omega)) (co_wr (t := y) (n := n) h.2 (by omega) (by omega)) (x.wfine (n := 5) h.1 (by omega)) (y.wfine (n := 5) h.2 (by omega))
  | .orr x y, n + 1, h, h1, h2 => by
    have h1 : max x.dep y.dep + 1 ≤ 5 := h1
    have h2 : max x.dep y.dep + 1 < n + 1 := h2
    rw [wrN_succ, lwN_succ]
    exact co_two (by omega) (Fine.of _ (by decide)) (co_wr (t := x) (n := n) h.1 (by omega) (by omega)) (co_wr (t := y) (n := n) h.2 (by omega) (by omega)) (x.wfine (n := 5) h.1 (by omega)) (y.wfine (n := 5) h.2 (by omega))
  | .cm g x y, n + 1, h, h1, h2 => by
    have h1 : max x.dep y.dep + 1 ≤ 5 := h1
    have h2 : max x.dep y.dep + 1 < n + 1 := h2
    rw [wrN_succ, lwN_succ]
    exact co_two (by omega) (csg_fine g) (va_wr (t := x) (n := n) h.1 (by omega) (by omega)) (va_wr (t := y) (n := n) h.2 (by omega) (by omega)) (x.wfine (n := 5) h.1 (by omega)) (y.wfine (n := 5) h.2 (by omega))
theorem pw_wr {p : Pw} (h : p.fin) {n : Nat} (hn : 6 ≤ n) : (wrN n [p.d] = .ok (.sh, .str p.wr) ∧ lwN n [p.d] = .ok (.sh, .str p.wr)) ∧ Fine (wl 4) p.wr := by
  cases p with
  | n s => exact ⟨⟨wrN_str (by omega), lwN_str (by omega)⟩, Fine.le h (by have := wl_pos 4; omega)⟩
  | v a => exact ⟨va_wr h.1 (by have := h.2; omega) (by have := h.2; omega), a.wfine h.1 h.2⟩
  | c a => exact ⟨co_wr h.1 (by have := h.2; omega) (by have := h.2; omega), a.wfine h.1 h.2⟩
theorem line_fine {s : St} (h : s.ok) : Fine 9000 s.line := by
  have w4 : wl 4 ≤ 2600 := by decide
  cases s with
  | sim w ps =>
    obtain ⟨h1, _, h5, h6⟩ := h
    have := fine_join fine_sp (m := wl 4) (ys := w :: ps.map Pw.wr) fun y hy => by
      rcases List.mem_cons.mp hy with rfl | hy
      · exact h1.le (by have := wl_pos 4; omega)
      · obtain ⟨p, hp, rfl⟩ := List.mem_map.mp hy
        exact (pw_wr (h6 p hp) (Nat.le_refl 6)).2
    refine Fine.le this ?_
    rw [List.length_cons, List.length_map]
    exact Nat.le_trans (Nat.mul_le_mul (show ps.length + 1 ≤ 3 by omega) (show wl 4 + 1 ≤ 2601 by omega)) (by decide)
  | ife c a b =>
    have := Fine.add (Fine.add (Fine.of (n := 2) "if" (by decide)) fine_sp) (c.wfine h.1 h.2.1)
    exact this.le (by omega)
  | lop c a =>
    have := Fine.add (Fine.add (Fine.of (n := 4) "loop" (by decide)) fine_sp) (c.wfine h.1 h.2.1)
    exact this.le (by omega)
  | cho bs => exact Fine.le (Fine.of (n := 6) "choose" (by decide)) (by decide)
theorem line_ok {s : St} (h : s.ok) : g_line_of [s.d] = .ok (.sh, .str s.line) := by
  obtain ⟨n1, n2, n3, n4, n5, n6⟩ := s_if_ne
  have w4 : wl 4 ≤ 2600 := by decide
  have gw : g_written = wrN 12 := rfl
  refine def_is rfl ?_
  unfold b_line_of
  cases s with
  | sim w ps =>
    obtain ⟨h1, ⟨h2, h3, h4⟩, h5, h6⟩ := h
    simp only [St.d]
    refine s_if (t := false) (by simp -implicitDefEqProofs [h2, h3]) (fun z => by cases z) fun _ => ?_
    refine s_if (t := false) (by simp -implicitDefEqProofs [h4]) (fun z => by cases z) fun _ => ?_
    have hall : ∀ p ∈ Pw.n w :: ps, p.fin := fun p hp => by
      rcases List.mem_cons.mp hp with rfl | hp
      · exact h1
      · exact h6 p hp
    have ec : ∀ z : Slot, ev G_written (.cpr [("part", 1)] (.nm 1) (.tup (.var 0)) .nil (.call "written" (.cons (.var 1) .nil))) [.sh (.tuple (.str w :: ps.map Pw.d)), z] = .ok (.ow, sl (w :: ps.map Pw.wr)) := fun z => by
      have := e_map (G := G_written) (own := [("part", 1)]) (tg := .nm 1) (src := .tup (.var 0)) (c := .nil) (e := .call "written" (.cons (.var 1) .nil)) (env := [.sh (.tuple (.str w :: ps.map Pw.d)), z]) (t := .sh) (l := Pw.n w :: ps) (w := Pw.d) (h := fun p => .str p.wr) (by simp -implicitDefEqProofs [Pw.d]) (by simp only [List.length_cons]; show _ ≤ 16000000; omega) fun p hp => by
        have := (pw_wr (hall p hp) (n := 12) (by omega)).1.1
        simp -implicitDefEqProofs [cprItem, wipeE, gw, this]
      rw [this]
      simp [sl, Pw.wr]
    have ej := ev_join (m := 2600) (sep := " ") (ys := w :: ps.map Pw.wr) (fun y hy => by
      have : y ∈ (Pw.n w :: ps).map Pw.wr := hy
      obtain ⟨p, hp, rfl⟩ := List.mem_map.mp this
      exact Nat.le_trans (pw_wr (hall p hp) (Nat.le_refl 6)).2.2 w4) (by
        rw [List.length_cons, List.length_map]
        exact Nat.le_trans (Nat.mul_le_mul (show ps.length + 1 ≤ 3 by omega) (Nat.le_refl _)) (by decide +kernel))
    rw [List.nil_append, ss_cons]
    simp -implicitDefEqProofs only [y_ret, frz_nil, x_join, List.map_cons, List.map_nil, List.length_cons, List.length_nil, List.replicate, List.cons_append, List.nil_append, Nat.reduceAdd, Nat.reduceSub, ec]
    simp -implicitDefEqProofs [ej]
    rfl
  | ife c a b =>
    have hc := (co_wr (t := c) (n := 12) h.1 (by have := h.2.1; omega) (by have := h.2.1; omega)).1
    have fc := c.wfine h.1 h.2.1
    simp only [St.d]
    refine s_if (t := true) (by simp -implicitDefEqProofs) (fun _ => ?_) (fun z => by cases z)
    rw [List.cons_append, ss_cons]
    have f2 := Fine.of (n := 2) "if" (by decide)
    simp -implicitDefEqProofs [gw, hc, cat_fine f2 fine_sp (by decide), cat_fine (Fine.add f2 fine_sp) fc (by omega)]
    rfl
  | lop c a =>
    have hc := (co_wr (t := c) (n := 12) h.1 (by have := h.2.1; omega) (by have := h.2.1; omega)).1
    have fc := c.wfine h.1 h.2.1
    simp only [St.d]
    refine s_if (t := true) (by simp -implicitDefEqProofs [n1]) (fun _ => ?_) (fun z => by cases z)
    rw [List.cons_append, ss_cons]
    have f2 := Fine.of (n := 4) "loop" (by decide)
    simp -implicitDefEqProofs [gw, hc, cat_fine f2 fine_sp (by decide), cat_fine (Fine.add f2 fine_sp) fc (by omega)]
    rfl
  | cho bs =>
    simp only [St.d]
    refine s_if (t := false) (by simp -implicitDefEqProofs [n2, n3]) (fun z => by cases z) fun _ => ?_
    refine s_if (t := true) (by simp -implicitDefEqProofs) (fun _ => ?_) (fun z => by cases z)
    rw [List.cons_append, ss_cons]
    simp -implicitDefEqProofs
    rfl
theorem bods_ok {s : St} (h : s.ok) : ∃ t : Tag, (t = .sh ∨ t = .ow) ∧ g_bodies_of [s.d] = .ok (t, .list (s.bds.map fun b => .list b.ds)) := by
  obtain ⟨n1, n2, n3, n4, n5, n6⟩ := s_if_ne
  cases s with
  | sim w ps =>
    obtain ⟨h1, ⟨h2, h3, h4⟩, h5, h6⟩ := h
    refine ⟨.ow, Or.inr rfl, def_is rfl ?_⟩
    unfold b_bodies_of
    simp only [St.d]
    refine s_if (t := false) (by simp -implicitDefEqProofs [h2]) (fun z => by cases z) fun _ => ?_
    refine s_if (t := false) (by simp -implicitDefEqProofs [h3]) (fun z => by cases z) fun _ => ?_
    refine s_if (t := false) (by simp -implicitDefEqProofs [h4]) (fun z => by cases z) fun _ => ?_
    rw [List.nil_append, ss_cons]
    simp -implicitDefEqProofs [St.bds]
  | ife c a b =>
    refine ⟨.ow, Or.inr rfl, def_is rfl ?_⟩
    unfold b_bodies_of
    simp only [St.d]
    refine s_if (t := true) (by simp -implicitDefEqProofs) (fun _ => ?_) (fun z => by cases z)
    rw [List.cons_append, ss_cons]
    simp -implicitDefEqProofs [St.bds]
  | lop c a =>
    refine ⟨.ow, Or.inr rfl, def_is rfl ?_⟩
    unfold b_bodies_of
    simp only [St.d]
    refine s_if (t := false) (by simp -implicitDefEqProofs [n1]) (fun z => by cases z) fun _ => ?_
    refine s_if (t := true) (by simp -implicitDefEqProofs) (fun _ => ?_) (fun z => by cases z)
    rw [List.cons_append, ss_cons]
    simp -implicitDefEqProofs [St.bds]
  | cho bs =>
    refine ⟨.sh, Or.inl rfl, def_is rfl ?_⟩
    unfold b_bodies_of
    simp only [St.d]
    refine s_if (t := false) (by simp -implicitDefEqProofs [n2]) (fun z => by cases z) fun _ => ?_
    refine s_if (t := false) (by simp -implicitDefEqProofs [n3]) (fun z => by cases z) fun _ => ?_
    refine s_if (t := true) (by simp -implicitDefEqProofs) (fun _ => ?_) (fun z => by cases z)
    rw [List.cons_append, ss_cons]
    simp -implicitDefEqProofs [St.bds, Bds.ds_eq]

/-! the lines of a body -/
def fbN (n : Nat) : List D → R TD := gRec G_line_of "format_body" 10000 9 2 b_format_body n
def fbE (g : List D → R TD) : List D → R TD := evDef (Gam.add G_line_of "format_body" g) 10000 9 2 b_format_body
theorem fbN_succ (n : Nat) : fbN (n + 1) = fbE (fbN n) := rfl
theorem pad_fine : ∀ k : Nat, k ≤ 20 → Fine 40 (pad k) := by
  intro k hk
  have : ∀ k : Nat, k < 21 → PyData.strOk (pad k) = true ∧ (pad k).length ≤ 40 := by decide +kernel
  exact this k (by omega)
theorem ev_pad {k : Nat} (hk : k ≤ 20) : evBin .mul (.sh, .str "  ") (.sh, .int k) = .ok (.sh, .str (pad k)) := by
  show PV.guard (decide (0 ≤ (k : Int)) && decide ((k : Int) ≤ (lim : Int)) && decide ((("  " : String) : Str).length * ((k : Int)).toNat ≤ lim)) (ok1 (.str (Txt.mul "  " k))) = _
  have e : (("  " : String) : Str).length = 2 := by decide +kernel
  rw [e, decide_eq_true (show 0 ≤ (k : Int) by omega), decide_eq_true (show (k : Int) ≤ (lim : Int) by show (k : Int) ≤ 16000000; omega), decide_eq_true (show 2 * ((k : Int)).toNat ≤ lim by show _ ≤ 16000000; omega)]
  rfl
theorem sepA_mono {x : Str} {l : List (List Str)} {i : Nat} : ∀ {j : Nat}, i ≤ j → (sepA x l i).length ≤ (sepA x l j).length
  | 0, h => by rw [show i = 0 by omega]; exact Nat.le_refl _
  | j + 1, h => by
    by_cases e : i = j + 1
    · rw [e]; exact Nat.le_refl _
    · have := sepA_mono (x := x) (l := l) (i := i) (j := j) (by omega)
      rw [sepA_succ, List.length_append]
      omega
def accL (b : Bd) (k i : Nat) : List Str := (b.toL.take i).flatMap fun s => s.lns k
theorem accL_succ {b : Bd} {k i : Nat} {s : St} (h : b.toL[i]? = some s) : accL b k (i + 1) = accL b k i ++ s.lns k := by
  unfold accL
  rw [List.take_succ, h, List.flatMap_append]
  simp
theorem accL_all {b : Bd} {k : Nat} : accL b k b.toL.length = b.lns k := by
  unfold accL
  rw [List.take_length, Bd.lns_eq]
theorem accL_len {b : Bd} {k i : Nat} (h : b.ok) : (accL b k i).length ≤ 8 * b.tot := by
  have h1 := Bd.lc (k := k) h
  rw [Bd.lns_eq] at h1
  have : b.toL.flatMap (fun s => s.lns k) = accL b k i ++ (b.toL.drop i).flatMap fun s => s.lns k := by
    unfold accL
    rw [← List.flatMap_append, List.take_append_drop]
  rw [this, List.length_append] at h1
  omega
theorem St.d_wd (s : St) : ∃ tl, s.d = .tuple (.str s.wd :: tl) := by
  cases s with
  | sim w ps => exact ⟨_, rfl⟩
  | ife c a b => exact ⟨_, rfl⟩
  | lop c a => exact ⟨_, rfl⟩
  | cho bs => exact ⟨_, rfl⟩
theorem btw_fine (s : St) : Fine 4 s.btw := by
  unfold St.btw
  split
  · exact Fine.of _ (by decide)
  · exact Fine.of _ (by decide)
theorem sl_app {xs ys : List Str} : PyData.list (xs.map .str ++ ys.map .str) = sl (xs ++ ys) := by simp [sl]
def bsD (s : St) : D := .list (s.bds.map fun b => .list b.ds)
def fbI (b : Bd) (k : Nat) (i : Nat) (e : PV.Env) : Prop := ∃ a4 a5 a6 a7 a8 : Slot, e = [.sh (.list b.ds), .sh (.int k), .ow (sl (accL b k i)), .sh (.str (pad k)), a4, a5, a6, a7, a8]
def fbA (s : St) (k : Nat) (acc : List Str) (i : Nat) : List Str := acc ++ ((pad k ++ s.line) :: sepA (pad k ++ s.btw) (s.bds.map fun b => b.lns (k + 1)) i)
theorem fbA_succ {s : St} {k : Nat} {acc : List Str} {i : Nat} {c : Bd} (h : s.bds[i]? = some c) : fbA s k acc (i + 1) = fbA s k acc i ++ ((if 0 < i then [pad k ++ s.btw] else []) ++ c.lns (k + 1)) := by
  unfold fbA
  rw [sepA_succ, List.getD_eq_getElem?_getD, List.getElem?_map, h]
  simp
theorem fbA_len {s : St} {k : Nat} {acc : List Str} {i : Nat} (hs : s.ok) (hi : i ≤ s.bds.length) : (fbA s k acc i).length ≤ acc.length + 8 * s.tot := by
  have h1 := St.lc (k := k) hs
  rw [St.lns_eq hs] at h1
  have h2 := sepA_mono (x := pad k ++ s.btw) (l := s.bds.map fun b => b.lns (k + 1)) (i := i) (j := s.bds.length) hi
  have h3 : sepI (pad k ++ s.btw) (s.bds.map fun b => b.lns (k + 1)) = sepA (pad k ++ s.btw) (s.bds.map fun b => b.lns (k + 1)) s.bds.length := by
    unfold sepI
    rw [List.length_map]
  rw [h3] at h1
  unfold fbA
  simp only [List.length_append, List.length_cons] at h1 ⊢
  omega
theorem fbA_all {s : St} {k : Nat} {acc : List Str} (hs : s.ok) : acc ++ s.lns k = fbA s k acc s.bds.length ++ (if s.bds.length = 0 then [] else [pad k ++ "end"]) := by
  rw [St.lns_eq hs]
  unfold fbA sepI
  rw [List.length_map]
  simp
def fbI2 (b : Bd) (k : Nat) (s : St) (acc : List Str) (i : Nat) (e : PV.Env) : Prop := ∃ a7 a8 : Slot, e = [.sh (.list b.ds), .sh (.int k), .ow (sl (fbA s k acc i)), .sh (.str (pad k)), .sh s.d, .sh (.str s.btw), .sh (bsD s), a7, a8]
theorem fb_ok {g : List D → R TD} {b : Bd} {k : Nat} (hb : b.ok) (hk : k ≤ 20) (ht : b.tot ≤ 300000) (h : ∀ c : Bd, c.ok → c.nd + 1 ≤ b.nd → c.tot ≤ b.tot → g [.list c.ds, .int ((k : Int) + 1)] = .ok (.ow, sl (c.lns (k + 1)))) :
    fbE g [.list b.ds, .int k] = .ok (.ow, sl (b.lns k)) := by
  refine def_is rfl ?_
  unfold b_format_body
  have lk : (Gam.add G_line_of "format_body" g) "format_body" = some g := if_pos rfl
  have lk2 : (Gam.add G_line_of "format_body" g) "line_of" = some g_line_of := rfl
  have lk3 : (Gam.add G_line_of "format_body" g) "bodies_of" = some g_bodies_of := rfl
  generalize Gam.add G_line_of "format_body" g = Γ at lk lk2 lk3
  have pf := pad_fine k hk
  rw [ss_cons]; simp -implicitDefEqProofs
  rw [ss_cons]; simp -implicitDefEqProofs [ev_pad hk]
  refine s_for (t := .sh) (ds := b.toL.map St.d) (I := fbI b k) (by rw [frz_cons]; rfl) (by simp -implicitDefEqProofs [Bd.ds_eq]) rfl ⟨_, _, _, _, _, rfl⟩ ?_ ?_
  · rintro i d e hd ⟨a4, a5, a6, a7, a8, rfl⟩
    rw [List.getElem?_map, Option.map_eq_some_iff] at hd
    obtain ⟨s, hs, rfl⟩ := hd
    have hsm := List.mem_of_getElem? hs
    have sok := Bd.ok_mem hb s hsm
    have snd := Bd.nd_mem s hsm
    have stt := Bd.tot_mem s hsm
    have al := accL_len (k := k) (i := i) hb
    have lf := line_fine sok
    have bf := btw_fine s
    refine ⟨_, by simp -implicitDefEqProofs; rfl, ?_⟩
    have l1 : (accL b k i).length < lim := by show _ < 16000000; omega
    refine s_step (J := fun e => e = [.sh (.list b.ds), .sh (.int k), .ow (sl (fbA s k (accL b k i) 0)), .sh (.str (pad k)), .sh s.d, a5, a6, a7, a8]) (by
      simp -implicitDefEqProofs [frz_cons, lk2, line_ok sok, cat_fine pf lf (by decide), l1]
      simp [fbA, sepA_zero]) ?_
    rintro _ rfl
    obtain ⟨tl, etl⟩ := s.d_wd
    refine s_step (J := fun e => e = [.sh (.list b.ds), .sh (.int k), .ow (sl (fbA s k (accL b k i) 0)), .sh (.str (pad k)), .sh s.d, .sh (.str s.btw), a6, a7, a8]) (by
      unfold St.btw
      by_cases q : s.wd = "if" <;> simp -implicitDefEqProofs [etl, q]) ?_
    rintro _ rfl
    obtain ⟨t, tt, eb⟩ := bods_ok sok
    refine s_step (J := fun e => frz [6] e = [.sh (.list b.ds), .sh (.int k), .ow (sl (fbA s k (accL b k i) 0)), .sh (.str (pad k)), .sh s.d, .sh (.str s.btw), .sh (bsD s), a7, a8]) (by
      rcases tt with rfl | rfl
      · simp -implicitDefEqProofs [frz_cons, lk3, eb, bsD]
      · simp -implicitDefEqProofs [frz_cons, lk3, eb, bsD]) ?_
    intro e1 he1
    refine s_for (t := .sh) (ds := enumD 0 (s.bds.map fun b => .list b.ds)) (I := fbI2 b k s (accL b k i)) he1 (by simp -implicitDefEqProofs [bsD]) rfl ⟨_, _, rfl⟩ ?_ ?_
    · rintro j d e hd ⟨a7, a8, rfl⟩
      obtain ⟨y, hy, rfl⟩ := enum_get _ _ _ _ hd
      rw [List.getElem?_map, Option.map_eq_some_iff] at hy
      obtain ⟨c, hc, rfl⟩ := hy
      have hj : j < s.bds.length := (List.getElem?_eq_some_iff.mp hc).1
      obtain ⟨cok, cnd, ctt⟩ := St.bds_ok sok c (List.mem_of_getElem? hc)
      have eg := h c cok (by omega) (by omega)
      have fl := fbA_len (k := k) (acc := accL b k i) sok (Nat.le_of_lt hj)
      have fs := fbA_succ (k := k) (acc := accL b k i) hc
      have cl := Bd.lc (k := k + 1) cok
      rw [Nat.zero_add]
      have btl : ∀ {env : PV.Env} {i : Nat}, bindT (.tp [7, 8]) (.sh, .tuple [.int (i : Int), .list c.ds]) env = some ((env.set 7 (.sh (.int i))).set 8 (.sh (.list c.ds))) := fun {env i} => rfl
      have l2 : (fbA s k (accL b k i) j).length < lim := by show _ < 16000000; omega
      refine ⟨_, btl, s_if1 (t := decide (0 < j)) (J := fun e => e = [.sh (.list b.ds), .sh (.int k), .ow (sl (fbA s k (accL b k i) j ++ (if 0 < j then [pad k ++ s.btw] else []))), .sh (.str (pad k)), .sh s.d, .sh (.str s.btw), .sh (bsD s), .sh (.int j), .sh (.list c.ds)]) (by simp -implicitDefEqProofs) (fun q => ?_) (fun q => ?_) ?_⟩
      · rw [if_pos (of_decide_eq_true q), ss_cons]
        simp -implicitDefEqProofs [cat_fine pf bf (by decide), l2]
      · rw [if_neg (of_decide_eq_false q), ss_nil]
        simp -implicitDefEqProofs
      rintro _ rfl
      have le : (if 0 < j then [pad k ++ s.btw] else []).length ≤ 1 := by split <;> simp
      generalize (if 0 < j then [pad k ++ s.btw] else []) = ext at fs le
      have ct : evBin .add (.rt, sl (fbA s k (accL b k i) j ++ ext)) (.ow, sl (c.lns (k + 1))) = .ok (.ow, sl (fbA s k (accL b k i) (j + 1))) := by
        rw [cat_list (by
          rw [List.length_map, List.length_map, List.length_append]
          show _ ≤ 16000000
          omega), fs, sl_app, List.append_assoc]
        rfl
      generalize fbA s k (accL b k i) j ++ ext = W at ct
      rw [ss_cons]; simp -implicitDefEqProofs [frz_cons, lk, eg, ct]
      exact ⟨_, _, rfl⟩
    · rintro _ ⟨a7, a8, rfl⟩
      rw [enum_len, List.length_map]
      have fl := fbA_len (k := k) (acc := accL b k i) sok (Nat.le_refl _)
      have l3 : (fbA s k (accL b k i) s.bds.length).length < lim := by show _ < 16000000; omega
      have e1 := accL_succ (k := k) hs
      rw [fbA_all sok] at e1
      have ef : Fine 3 "end" := Fine.of _ (by decide)
      refine s_if (t := decide (0 < s.bds.length)) (by simp -implicitDefEqProofs [bsD]) (fun q => ?_) (fun q => ?_)
      · rw [if_neg (by have := of_decide_eq_true q; omega)] at e1
        rw [List.cons_append, ss_cons]
        simp -implicitDefEqProofs [cat_fine pf ef (by decide), l3]
        exact ⟨.sh s.d, .sh (.str s.btw), .sh (bsD s), a7, a8, by rw [sl_snoc, e1]⟩
      · rw [if_pos (by have := of_decide_eq_false q; omega), List.append_nil] at e1
        rw [List.nil_append, ss_nil]
        exact ⟨⟨.sh s.d, .sh (.str s.btw), .sh (bsD s), a7, a8, by rw [e1]⟩⟩
  · rintro _ ⟨a4, a5, a6, a7, a8, rfl⟩
    rw [List.length_map, accL_all, ss_cons]
    simp -implicitDefEqProofs
theorem fb_all : ∀ (n : Nat) {b : Bd} {k : Nat}, b.ok → b.nd < n → k + n ≤ 20 → b.tot ≤ 300000 → fbN n [.list b.ds, .int k] = .ok (.ow, sl (b.lns k))
  | 0, _, _, _, h, _, _ => absurd h (Nat.not_lt_zero _)
  | n + 1, b, k, hb, h, hk, ht => by
    rw [fbN_succ]
    refine fb_ok hb (by omega) ht fun c cok cnd ctt => ?_
    have := fb_all n (b := c) (k := k + 1) cok (by omega) (by omega) (by omega)
    simpa using this

/-! the law's lines of a body -/
def llN (n : Nat) : List D → R TD := gRec G__law_words "_law_lines" 10000 6 2 b__law_lines n
def llE (g : List D → R TD) : List D → R TD := evDef (Gam.add G__law_words "_law_lines" g) 10000 6 2 b__law_lines
theorem llN_succ (n : Nat) : llN (n + 1) = llE (llN n) := rfl
theorem str_assoc (a b c : Str) : a ++ b ++ c = a ++ (b ++ c) := by
  show (⟨(a.cps ++ b.cps) ++ c.cps⟩ : Str) = ⟨a.cps ++ (b.cps ++ c.cps)⟩
  rw [Array.append_assoc]
theorem words_ok {w : Str} {ps : List Pw} (h : (St.sim w ps).ok) : g__law_words [(St.sim w ps).d] = .ok (.sh, .str (St.sim w ps).line) := by
  obtain ⟨h1, _, h5, h6⟩ := h
  have e : g__law_words [(St.sim w ps).d] = lwE (lwN 11) [.tuple (.str w :: (ps.map fun p => (p.d, p.wr)).map (·.1))] := by
    rw [List.map_map]
    rfl
  rw [e, lw_tup (m := wl 4) (h1.le (by have := wl_pos 4; omega)) (fun p hp => by
    obtain ⟨q, hq, rfl⟩ := List.mem_map.mp hp
    have := pw_wr (h6 q hq) (n := 11) (by omega)
    exact ⟨this.1.2, this.2⟩) (by
      rw [List.length_map]
      have w4 : wl 4 ≤ 2600 := by decide
      exact Nat.le_trans (Nat.mul_le_mul (show ps.length + 1 ≤ 3 by omega) (show wl 4 + 1 ≤ 2601 by omega)) (by decide)), List.map_map]
  rfl
theorem sepI_one {x : Str} {A : List Str} : sepI x [A] = A := by
  unfold sepI
  rw [List.length_singleton, sepA_succ, sepA_zero]
  simp
theorem sepI_two {x : Str} {A B : List Str} : sepI x [A, B] = A ++ [x] ++ B := by
  unfold sepI
  rw [show [A, B].length = 1 + 1 from rfl, sepA_succ, show (1 : Nat) = 0 + 1 from rfl, sepA_succ, sepA_zero]
  simp
theorem cat_sl {s t : Tag} {xs ys : List Str} (h : (s.kid.jn t.kid).root = .ow) (hl : xs.length + ys.length ≤ 16000000) : evBin .add (s, sl xs) (t, sl ys) = .ok (.ow, sl (xs ++ ys)) := by
  rw [cat_list (by rw [List.length_map, List.length_map]; exact hl), h, sl_app]
def llI (b : Bd) (k : Nat) (i : Nat) (e : PV.Env) : Prop := ∃ a4 a5 : Slot, e = [.sh (.list b.ds), .sh (.int k), .ow (sl (accL b k i)), .sh (.str (pad k)), a4, a5]
def llI2 (b : Bd) (k : Nat) (s : St) (acc : List Str) (i : Nat) (e : PV.Env) : Prop := ∃ a5 : Slot, e = [.sh (.list b.ds), .sh (.int k), .ow (sl (fbA s k acc i)), .sh (.str (pad k)), .sh s.d, a5]
theorem ll_ok {g : List D → R TD} {b : Bd} {k : Nat} (hb : b.ok) (hk : k ≤ 20) (ht : b.tot ≤ 300000) (h : ∀ c : Bd, c.ok → c.nd + 1 ≤ b.nd → c.tot ≤ b.tot → g [.list c.ds, .int ((k : Int) + 1)] = .ok (.ow, sl (c.lns (k + 1)))) :
    llE g [.list b.ds, .int k] = .ok (.ow, sl (b.lns k)) := by
  obtain ⟨n1, n2, n3, n4, n5, n6⟩ := s_if_ne
  refine def_is rfl ?_
  unfold b__law_lines
  have lk : (Gam.add G__law_words "_law_lines" g) "_law_lines" = some g := if_pos rfl
  have lk2 : (Gam.add G__law_words "_law_lines" g) "_law_words" = some g__law_words := rfl
  generalize Gam.add G__law_words "_law_lines" g = Γ at lk lk2
  have pf := pad_fine k hk
  rw [ss_cons]; simp -implicitDefEqProofs
  rw [ss_cons]; simp -implicitDefEqProofs [ev_pad hk]
  have f_end : Fine 10 "end" := Fine.of _ (by decide)
  have f_cho : Fine 10 "choose" := Fine.of _ (by decide)
  have f_or : Fine 10 "or" := Fine.of _ (by decide)
  have f_if : Fine 10 "if" := Fine.of _ (by decide)
  have f_loop : Fine 10 "loop" := Fine.of _ (by decide)
  have f_else : Fine 10 "else" := Fine.of _ (by decide)
  have w4 : wl 4 ≤ 2600 := by decide
  refine s_for (t := .sh) (ds := b.toL.map St.d) (I := llI b k) (by rw [frz_cons]; rfl) (by simp -implicitDefEqProofs [Bd.ds_eq]) rfl ⟨_, _, rfl⟩ ?_ ?_
  · rintro i d e hd ⟨a4, a5, rfl⟩
    rw [List.getElem?_map, Option.map_eq_some_iff] at hd
    obtain ⟨s, hs, rfl⟩ := hd
    have hsm := List.mem_of_getElem? hs
    have sok := Bd.ok_mem hb s hsm
    have snd := Bd.nd_mem s hsm
    have stt := Bd.tot_mem s hsm
    have al := accL_len (k := k) (i := i) hb
    have lf := line_fine sok
    have sl8 := St.lc (k := k) sok
    refine ⟨_, by simp -implicitDefEqProofs; rfl, ?_⟩
    have l1 : (accL b k i).length < lim := by show _ < 16000000; omega
    have e1 := accL_succ (k := k) hs
    generalize accL b k i = acc at al l1 e1
    cases s with
    | sim w ps =>
      have hw := words_ok sok
      obtain ⟨z1, ⟨z2, z3, z4⟩, z5, z6⟩ := sok
      have hd : (St.sim w ps).d = .tuple (.str w :: ps.map Pw.d) := rfl
      refine s_if (t := false) (by simp -implicitDefEqProofs [hd, z4]) (fun z => by cases z) fun _ => ?_
      rw [List.append_nil]
      refine s_if (t := false) (by simp -implicitDefEqProofs [hd, z2, z3]) (fun z => by cases z) fun _ => ?_
      rw [List.append_nil, ss_cons]
      simp -implicitDefEqProofs [frz_cons, lk2, hw, cat_fine pf lf (by decide), l1]
      exact ⟨.sh (St.sim w ps).d, a5, by rw [sl_snoc, e1]; rfl⟩
    | ife c x y =>
      have hc := (co_wr (t := c) (n := 12) sok.1 (by have := sok.2.1; omega) (by have := sok.2.1; omega)).2
      have gw : g__law_words = lwN 12 := rfl
      have fc := c.wfine sok.1 sok.2.1
      have hd : (St.ife c x y).d = .tuple [.str "if", c.d, .list x.ds, .list y.ds] := rfl
      have snd : max x.nd y.nd + 1 ≤ b.nd := snd
      have stt : 1 + (x.tot + y.tot) ≤ b.tot := stt
      have gx := h x sok.2.2.1 (by omega) (by omega)
      have gy := h y sok.2.2.2 (by omega) (by omega)
      have lx := Bd.lc (k := k + 1) sok.2.2.1
      have ly := Bd.lc (k := k + 1) sok.2.2.2
      refine s_if (t := false) (by simp -implicitDefEqProofs [hd, n5]) (fun z => by cases z) fun _ => ?_
      rw [List.append_nil]
      refine s_if (t := true) (by simp -implicitDefEqProofs [hd]) (fun _ => ?_) fun z => by cases z
      rw [List.append_nil]
      have el : pad k ++ Str.ofString "if" ++ Str.ofString " " ++ c.wr = pad k ++ (St.ife c x y).line := by
        rw [str_assoc, str_assoc]
        show _ = pad k ++ ((("if" : Str) ++ (" " : Str)) ++ c.wr)
        rw [str_assoc]
      have e2 : acc ++ (St.ife c x y).lns k = acc ++ [pad k ++ (St.ife c x y).line] ++ x.lns (k + 1) ++ [pad k ++ Str.ofString "else"] ++ y.lns (k + 1) ++ [pad k ++ Str.ofString "end"] := by
        show acc ++ ((pad k ++ (St.ife c x y).line) :: (sepI (pad k ++ "else") [x.lns (k + 1), y.lns (k + 1)] ++ [pad k ++ "end"])) = _
        rw [sepI_two]
        simp
      obtain ⟨X0, h0⟩ : ∃ X, X = acc ++ [pad k ++ (St.ife c x y).line] := ⟨_, rfl⟩
      obtain ⟨X1, h1⟩ : ∃ X, X = X0 ++ x.lns (k + 1) := ⟨_, rfl⟩
      obtain ⟨X2, h2⟩ : ∃ X, X = X1 ++ [pad k ++ Str.ofString "else"] := ⟨_, rfl⟩
      obtain ⟨X3, h3⟩ : ∃ X, X = X2 ++ y.lns (k + 1) := ⟨_, rfl⟩
      have m0 : X0.length = acc.length + 1 := by rw [h0]; simp
      have m1 : X1.length = X0.length + (x.lns (k + 1)).length := by rw [h1]; simp
      have m2 : X2.length = X1.length + 1 := by rw [h2]; simp
      have m3 : X3.length = X2.length + (y.lns (k + 1)).length := by rw [h3]; simp
      have l3 : X3.length < lim := by show _ < 16000000; omega
      have c1 := cat_sl (s := .rt) (t := .ow) (xs := X0) (ys := x.lns (k + 1)) rfl (by omega)
      have c2 := cat_sl (s := .rt) (t := .ow) (xs := X1) (ys := [pad k ++ Str.ofString "else"]) rfl (by rw [List.length_singleton]; omega)
      have c3 := cat_sl (s := .ow) (t := .ow) (xs := X2) (ys := y.lns (k + 1)) rfl (by omega)
      rw [← h0, ← h1, ← h2, ← h3] at e2
      rw [← h1] at c1
      rw [← h2] at c2
      rw [← h3] at c3
      refine s_step (J := fun e => e = [.sh (.list b.ds), .sh (.int k), .ow (sl X0), .sh (.str (pad k)), .sh (St.ife c x y).d, a5]) (by
        simp -implicitDefEqProofs [hd, lk2, gw, hc, cat_fine pf f_if (by decide), cat_fine (pf.add f_if) fine_sp (by decide), cat_fine ((pf.add f_if).add fine_sp) fc (by omega), l1, el, h0]) ?_
      rintro _ rfl
      refine s_step (J := fun e => e = [.sh (.list b.ds), .sh (.int k), .ow (sl X1), .sh (.str (pad k)), .sh (St.ife c x y).d, a5]) (by
        simp -implicitDefEqProofs [hd, lk, gx, c1]) ?_
      rintro _ rfl
      refine s_if (t := true) (by simp -implicitDefEqProofs [hd]) (fun _ => ?_) fun z => by cases z
      rw [List.cons_append, List.nil_append]
      refine s_step (J := fun e => e = [.sh (.list b.ds), .sh (.int k), .ow (sl X3), .sh (.str (pad k)), .sh (St.ife c x y).d, a5]) (by
        have c2 : evBin .add (.rt, .list (X1.map .str)) (.ow, .list [.str (pad k ++ Str.ofString "else")]) = .ok (.ow, sl X2) := c2
        simp -implicitDefEqProofs [hd, lk, gy, cat_fine pf f_else (by decide), c2, c3]) ?_
      rintro _ rfl
      rw [ss_cons]
      simp -implicitDefEqProofs [cat_fine pf f_end (by decide), l3]
      exact ⟨.sh (St.ife c x y).d, a5, by rw [sl_snoc, e1, e2]⟩
    | lop c x =>
      have hc := (co_wr (t := c) (n := 12) sok.1 (by have := sok.2.1; omega) (by have := sok.2.1; omega)).2
      have gw : g__law_words = lwN 12 := rfl
      have fc := c.wfine sok.1 sok.2.1
      have hd : (St.lop c x).d = .tuple [.str "loop", c.d, .list x.ds] := rfl
      have snd : x.nd + 1 ≤ b.nd := snd
      have stt : 1 + x.tot ≤ b.tot := stt
      have gx := h x sok.2.2 (by omega) (by omega)
      have lx := Bd.lc (k := k + 1) sok.2.2
      refine s_if (t := false) (by simp -implicitDefEqProofs [hd, n6]) (fun z => by cases z) fun _ => ?_
      rw [List.append_nil]
      refine s_if (t := true) (by simp -implicitDefEqProofs [hd, n1]) (fun _ => ?_) fun z => by cases z
      rw [List.append_nil]
      have el : pad k ++ Str.ofString "loop" ++ Str.ofString " " ++ c.wr = pad k ++ (St.lop c x).line := by
        rw [str_assoc, str_assoc]
        show _ = pad k ++ ((("loop" : Str) ++ (" " : Str)) ++ c.wr)
        rw [str_assoc]
      have e2 : acc ++ (St.lop c x).lns k = acc ++ [pad k ++ (St.lop c x).line] ++ x.lns (k + 1) ++ [pad k ++ Str.ofString "end"] := by
        show acc ++ ((pad k ++ (St.lop c x).line) :: (sepI (pad k ++ "or") [x.lns (k + 1)] ++ [pad k ++ "end"])) = _
        rw [sepI_one]
        simp
      obtain ⟨X0, h0⟩ : ∃ X, X = acc ++ [pad k ++ (St.lop c x).line] := ⟨_, rfl⟩
      obtain ⟨X1, h1⟩ : ∃ X, X = X0 ++ x.lns (k + 1) := ⟨_, rfl⟩
      have m0 : X0.length = acc.length + 1 := by rw [h0]; simp
      have m1 : X1.length = X0.length + (x.lns (k + 1)).length := by rw [h1]; simp
      have l3 : X1.length < lim := by show _ < 16000000; omega
      have c1 := cat_sl (s := .rt) (t := .ow) (xs := X0) (ys := x.lns (k + 1)) rfl (by omega)
      rw [← h0, ← h1] at e2
      rw [← h1] at c1
      refine s_step (J := fun e => e = [.sh (.list b.ds), .sh (.int k), .ow (sl X0), .sh (.str (pad k)), .sh (St.lop c x).d, a5]) (by
        simp -implicitDefEqProofs [hd, lk2, gw, hc, cat_fine pf f_loop (by decide), cat_fine (pf.add f_loop) fine_sp (by decide), cat_fine ((pf.add f_loop).add fine_sp) fc (by omega), l1, el, h0]) ?_
      rintro _ rfl
      refine s_step (J := fun e => e = [.sh (.list b.ds), .sh (.int k), .ow (sl X1), .sh (.str (pad k)), .sh (St.lop c x).d, a5]) (by
        simp -implicitDefEqProofs [hd, lk, gx, c1]) ?_
      rintro _ rfl
      refine s_if (t := false) (by simp -implicitDefEqProofs [hd, n1]) (fun z => by cases z) fun _ => ?_
      rw [List.nil_append, ss_cons]
      simp -implicitDefEqProofs [cat_fine pf f_end (by decide), l3]
      exact ⟨.sh (St.lop c x).d, a5, by rw [sl_snoc, e1, e2]⟩
    | cho bs =>
      have hd : (St.cho bs).d = .tuple [.str "choose", .list bs.ds] := rfl
      have btw : (St.cho bs).btw = "or" := by
        show (if ("choose" : Str) = "if" then ("else" : Str) else "or") = "or"
        rw [if_neg n2]
      have bdl : (St.cho bs).bds.length ≤ 6 := sok.2.1
      have bd0 : 0 < (St.cho bs).bds.length := sok.1
      refine s_if (t := true) (by simp -implicitDefEqProofs [hd]) (fun _ => ?_) fun z => by cases z
      rw [List.append_nil]
      refine s_step (J := fun e => e = [.sh (.list b.ds), .sh (.int k), .ow (sl (fbA (St.cho bs) k acc 0)), .sh (.str (pad k)), .sh (St.cho bs).d, a5]) (by
        simp -implicitDefEqProofs [cat_fine pf f_cho (by decide), l1]
        simp [fbA, sepA_zero, St.line]) ?_
      rintro _ rfl
      refine s_for (t := .sh) (ds := ranged 0 (St.cho bs).bds.length) (I := llI2 b k (St.cho bs) acc) rfl (by have bdl2 : bs.toL.length ≤ 6 := bdl; simp -implicitDefEqProofs (disch := omega) [hd, Bds.ds_eq, small_nat]; rfl) rfl ⟨_, rfl⟩ ?_ ?_
      · rintro j d e hd2 ⟨a5, rfl⟩
        have hj : j < (St.cho bs).bds.length := by have := (List.getElem?_eq_some_iff.mp hd2).1; rw [ranged_len] at this; omega
        rw [ranged_get (by omega)] at hd2
        obtain rfl := Option.some.inj hd2
        obtain ⟨c, hc⟩ : ∃ c, (St.cho bs).bds[j]? = some c := ⟨_, List.getElem?_eq_getElem hj⟩
        obtain ⟨cok, cnd, ctt⟩ := St.bds_ok sok c (List.mem_of_getElem? hc)
        have eg := h c cok (by omega) (by omega)
        have fl := fbA_len (k := k) (acc := acc) sok (Nat.le_of_lt hj)
        have fs := fbA_succ (k := k) (acc := acc) hc
        have cl := Bd.lc (k := k + 1) cok
        have l2 : (fbA (St.cho bs) k acc j).length < lim := by show _ < 16000000; omega
        rw [btw] at fs
        refine ⟨_, by simp -implicitDefEqProofs; rfl, s_if1 (t := decide (0 < j)) (J := fun e => e = [.sh (.list b.ds), .sh (.int k), .ow (sl (fbA (St.cho bs) k acc j ++ (if 0 < j then [pad k ++ Str.ofString "or"] else []))), .sh (.str (pad k)), .sh (St.cho bs).d, .sh (.int j)]) (by simp -implicitDefEqProofs) (fun q => ?_) (fun q => ?_) ?_⟩
        · rw [if_pos (of_decide_eq_true q), ss_cons]
          simp -implicitDefEqProofs [cat_fine pf f_or (by decide), l2]
        · rw [if_neg (of_decide_eq_false q), ss_nil]
          simp -implicitDefEqProofs
        rintro _ rfl
        have le : (if 0 < j then [pad k ++ Str.ofString "or"] else []).length ≤ 1 := by split <;> simp
        generalize (if 0 < j then [pad k ++ Str.ofString "or"] else []) = ext at fs le
        have ct := cat_sl (s := .rt) (t := .ow) (xs := fbA (St.cho bs) k acc j ++ ext) (ys := c.lns (k + 1)) rfl (by rw [List.length_append]; omega)
        rw [List.append_assoc, ← fs] at ct
        have ix : evIx (.sh, .list bs.ds) (.int (j : Int)) = .ok (.sh, .list c.ds) := ixl_at (xs := bs.ds) (d := .list c.ds) (n := j) rfl (by
          rw [Bds.ds_eq, List.getElem?_map, show bs.toL[j]? = some c from hc]
          rfl)
        have hm := List.map_append (f := PyData.str) (l₁ := fbA (St.cho bs) k acc j) (l₂ := ext)
        generalize fbA (St.cho bs) k acc j ++ ext = W at ct hm
        rw [ss_cons]; simp -implicitDefEqProofs [hd, ix, lk, eg, ct]
        exact ⟨_, rfl⟩
      · rintro _ ⟨a5, rfl⟩
        rw [ranged_len, Int.sub_zero, Int.toNat_natCast]
        have fl := fbA_len (k := k) (acc := acc) sok (Nat.le_refl _)
        have l3 : (fbA (St.cho bs) k acc (St.cho bs).bds.length).length < lim := by show _ < 16000000; omega
        rw [fbA_all sok, if_neg (by omega)] at e1
        rw [ss_cons]
        simp -implicitDefEqProofs [cat_fine pf f_end (by decide), l3]
        exact ⟨.sh (St.cho bs).d, a5, by rw [sl_snoc, e1]⟩
  · rintro _ ⟨a4, a5, rfl⟩
    rw [List.length_map, accL_all, ss_cons]
    simp -implicitDefEqProofs
theorem ll_all : ∀ (n : Nat) {b : Bd} {k : Nat}, b.ok → b.nd < n → k + n ≤ 20 → b.tot ≤ 300000 → llN n [.list b.ds, .int k] = .ok (.ow, sl (b.lns k))
  | 0, _, _, _, h, _, _ => absurd h (Nat.not_lt_zero _)
  | n + 1, b, k, hb, h, hk, ht => by
    rw [llN_succ]
    refine ll_ok hb (by omega) ht fun c cok cnd ctt => ?_
    have := ll_all n (b := c) (k := k + 1) cok (by omega) (by omega) (by omega)
    simpa using this

/-! programs -/
structure Vr where
  nm : Str
  a : Int
  b : Int
  c : Int
def Vr.d (v : Vr) : D := .tuple [.str v.nm, .int v.a, .int v.b, .int v.c]
def Vr.ok (v : Vr) : Prop := Fine 25 v.nm ∧ (-400 ≤ v.a ∧ v.a ≤ 400) ∧ (-400 ≤ v.b ∧ v.b ≤ 400) ∧ -400 ≤ v.c ∧ v.c ≤ 400
def Vr.ps (v : Vr) : List (D × Str) := [(.str v.nm, v.nm), (.int v.a, istr v.a), (.int v.b, istr v.b), (.int v.c, istr v.c)]
def Vr.tx (v : Vr) : Str := Txt.join " " (v.ps.map (·.2))
def cD : Option Int → D | none => .none | some i => .int i
def cS : Option Int → Str | none => "any" | some i => istr i
structure Kd where
  nm : Str
  cnt : Option Int
  vs : List Vr
  bd : Bd
def Kd.d (k : Kd) : D := .tuple [.str k.nm, cD k.cnt, .list (k.vs.map Vr.d), .list k.bd.ds]
def Kd.ok (k : Kd) : Prop := Fine 25 k.nm ∧ (∀ i, k.cnt = some i → 0 ≤ i ∧ i ≤ 400) ∧ k.vs.length ≤ 3 ∧ (∀ v ∈ k.vs, v.ok) ∧ k.bd.ok ∧ k.bd.nd ≤ 8
def hdr (k : Kd) : Str := ("kind " : Str) ++ k.nm ++ (" " : Str) ++ cS k.cnt
def lcl (v : Vr) : Str := ("  " : Str) ++ (("local" : Str) ++ (" " : Str) ++ v.tx)
def shr (v : Vr) : Str := ("share" : Str) ++ (" " : Str) ++ v.tx
def Kd.ls (k : Kd) : List Str := [hdr k] ++ k.vs.map lcl ++ (k.bd.lns 1 ++ [("end" : Str)])
structure Pg where
  sh : List Vr
  lo : List Str
  be : List Str
  ki : List Kd
def Pg.d (p : Pg) : D := .tuple [.list (p.sh.map Vr.d), sl p.lo, sl p.be, .list (p.ki.map Kd.d)]
def Pg.ls0 (p : Pg) : List Str := p.sh.map shr ++ p.lo.map (fun x => ("lock " : Str) ++ x) ++ p.be.map (fun x => ("bell " : Str) ++ x)
def Pg.ls (p : Pg) (i : Nat) : List Str := p.ls0 ++ (p.ki.take i).flatMap Kd.ls
def Pg.ok (p : Pg) : Prop := p.sh.length ≤ 4 ∧ (∀ v ∈ p.sh, v.ok) ∧ p.lo.length ≤ 6 ∧ (∀ x ∈ p.lo, Fine 25 x) ∧ p.be.length ≤ 3 ∧ (∀ x ∈ p.be, Fine 25 x) ∧ p.ki.length ≤ 4 ∧ (∀ k ∈ p.ki, k.ok) ∧ (p.ki.map fun k => k.bd.tot).sum ≤ 96
theorem Vr.ps_ok {v : Vr} (h : v.ok) : ∀ p ∈ v.ps, (∀ t, evBi .str [(t, p.1)] = .ok (.sh, .str p.2)) ∧ Fine 25 p.2 := fun p hp => by
  obtain ⟨h1, ⟨a1, a2⟩, ⟨b1, b2⟩, c1, c2⟩ := h
  simp only [Vr.ps, List.mem_cons, List.not_mem_nil, or_false] at hp
  rcases hp with rfl | rfl | rfl | rfl
  · exact ⟨fun t => rfl, h1⟩
  · exact ⟨fun t => str_istr a1 a2, (istr_fine a1 a2).le (by decide)⟩
  · exact ⟨fun t => str_istr b1 b2, (istr_fine b1 b2).le (by decide)⟩
  · exact ⟨fun t => str_istr c1 c2, (istr_fine c1 c2).le (by decide)⟩
theorem Vr.d_ps (v : Vr) : v.d = .tuple (v.ps.map (·.1)) := rfl
theorem tx_fine {v : Vr} (h : v.ok) : Fine 200 v.tx := by
  have := fine_join fine_sp (m := 25) (ys := v.ps.map (·.2)) fun y hy => by
    obtain ⟨p, hp, rfl⟩ := List.mem_map.mp hy
    exact (Vr.ps_ok h p hp).2
  exact this.le (by show 4 * (25 + 1) ≤ 200; decide)
theorem parts_ok {G : Gam} {v : Vr} (h : v.ok) {own : List (Str × Nat)} {i j : Nat} {env env2 : PV.Env} (he : env[i]? = some (.sh v.d)) (hw : ∀ d, bindT (.nm j) (.sh, d) (wipeE env (own.map (·.2))) = some ((wipeE env (own.map (·.2))).set j (.sh d))) (hj : j < (wipeE env (own.map (·.2))).length) :
    ev G (.cpr own (.nm j) (.tup (.var i)) .nil (.bi .str (.cons (.var j) .nil))) env = .ok (.ow, sl (v.ps.map (·.2))) := by
  have hi := Vr.ps_ok h
  have := e_map (G := G) (own := own) (tg := .nm j) (src := .tup (.var i)) (c := .nil) (e := .bi .str (.cons (.var j) .nil)) (env := env) (t := .sh) (l := v.ps) (w := fun p => p.1) (h := fun p => .str p.2) (by
      rw [Vr.d_ps] at he
      simp -implicitDefEqProofs [he]) (by show 4 ≤ 16000000; decide) fun p hp => by
    have h1 := (hi p hp).1
    have h2 : (((wipeE env (own.map (·.2))).set j (.sh p.1))[j]?) = some (.sh p.1) := by rw [List.getElem?_set_self hj]
    unfold cprItem
    simp -implicitDefEqProofs [hw, h2, h1]
  rw [this]
  simp [sl]
theorem join_cons {w : Str} {v : Vr} : Txt.join " " (w :: v.ps.map (·.2)) = w ++ (" " : Str) ++ v.tx := by
  unfold Vr.tx
  rw [jn_eq, jn_eq]
  rfl
theorem fv_ok {w : Str} {v : Vr} (hw : Fine 10 w) (h : v.ok) : g_format_variable [.str w, v.d] = .ok (.sh, .str (w ++ (" " : Str) ++ v.tx)) := by
  refine def_is rfl ?_
  unfold b_format_variable
  have hp := parts_ok (G := G_format_body) h (own := [("part", 2)]) (i := 1) (j := 2) (env := [.sh (.str w), .sh v.d, .no]) (env2 := []) rfl (fun d => rfl) (by simp [wipeE])
  have ct : evBin .add (.ow, .list [.str w]) (.ow, sl (v.ps.map (·.2))) = .ok (.ow, sl (w :: v.ps.map (·.2))) := cat_sl (xs := [w]) rfl (by rw [List.length_map]; show 1 + 4 ≤ 16000000; decide)
  have ej := ev_join (m := 25) (sep := " ") (ys := w :: v.ps.map (·.2)) (fun y hy => by
    rcases List.mem_cons.mp hy with rfl | hy
    · exact Nat.le_trans hw.2 (by decide)
    · obtain ⟨p, hp, rfl⟩ := List.mem_map.mp hy
      exact (Vr.ps_ok h p hp).2.2) (by rw [List.length_cons, List.length_map]; show 5 * _ ≤ 16000000; decide +kernel)
  rw [join_cons] at ej
  rw [ss_cons]
  simp -implicitDefEqProofs only [y_ret, frz_nil, x_join, List.map_cons, List.map_nil, List.length_cons, List.length_nil, List.replicate, List.cons_append, List.nil_append, Nat.reduceAdd, Nat.reduceSub, x_bin, hp]
  simp -implicitDefEqProofs [ct, ej]
theorem sepA_mem {x : Str} {l : List (List Str)} {y : Str} : ∀ {j : Nat}, y ∈ sepA x l j → y = x ∨ ∃ a ∈ l, y ∈ a
  | 0, h => by rw [sepA_zero] at h; cases h
  | j + 1, h => by
    rw [sepA_succ] at h
    rcases List.mem_append.mp h with h | h
    · exact sepA_mem h
    · rcases List.mem_append.mp h with h | h
      · split at h
        · exact Or.inl (List.mem_singleton.mp h)
        · cases h
      · rw [List.getD_eq_getElem?_getD] at h
        cases q : l[j]? with
        | none => rw [q] at h; cases h
        | some a => rw [q] at h; exact Or.inr ⟨a, List.mem_of_getElem? q, h⟩
theorem padw {k : Nat} {w : Str} (hk : k ≤ 20) (h : Fine 10 w) : Fine 9100 (pad k ++ w) := ((pad_fine k hk).add h).le (by decide)
mutual
theorem St.lf : ∀ {s : St} {k : Nat}, s.ok → k + s.nd ≤ 20 → ∀ y ∈ s.lns k, Fine 9100 y
  | .sim w ps, k, h, hk, y, hy => by
    have hk : k + 0 ≤ 20 := hk
    rw [show y = pad k ++ (St.sim w ps).line from List.mem_singleton.mp hy]
    exact ((pad_fine k (by omega)).add (line_fine h)).le (by decide)
  | .ife c a b, k, h, hk, y, hy => by
    have hk : k + (max a.nd b.nd + 1) ≤ 20 := hk
    have hy : y ∈ (pad k ++ (St.ife c a b).line) :: (sepI (pad k ++ "else") [a.lns (k + 1), b.lns (k + 1)] ++ [pad k ++ "end"]) := hy
    rcases List.mem_cons.mp hy with rfl | hy
    · exact ((pad_fine k (by omega)).add (line_fine h)).le (by decide)
    · rcases List.mem_append.mp hy with hy | hy
      · rcases sepA_mem hy with rfl | ⟨l, hl, hy⟩
        · exact padw (by omega) (Fine.of _ (by decide))
        · simp only [List.mem_cons, List.not_mem_nil, or_false] at hl
          rcases hl with rfl | rfl
          · exact Bd.lf (k := k + 1) h.2.2.1 (by omega) y hy
          · exact Bd.lf (k := k + 1) h.2.2.2 (by omega) y hy
      · rw [List.mem_singleton.mp hy]
        exact padw (by omega) (Fine.of _ (by decide))
  | .lop c a, k, h, hk, y, hy => by
    have hk : k + (a.nd + 1) ≤ 20 := hk
    have hy : y ∈ (pad k ++ (St.lop c a).line) :: (sepI (pad k ++ "or") [a.lns (k + 1)] ++ [pad k ++ "end"]) := hy
    rcases List.mem_cons.mp hy with rfl | hy
    · exact ((pad_fine k (by omega)).add (line_fine h)).le (by decide)
    · rcases List.mem_append.mp hy with hy | hy
      · rcases sepA_mem hy with rfl | ⟨l, hl, hy⟩
        · exact padw (by omega) (Fine.of _ (by decide))
        · simp only [List.mem_cons, List.not_mem_nil, or_false] at hl
          subst hl
          exact Bd.lf (k := k + 1) h.2.2 (by omega) y hy
      · rw [List.mem_singleton.mp hy]
        exact padw (by omega) (Fine.of _ (by decide))
  | .cho bs, k, h, hk, y, hy => by
    have hk : k + (bs.nd + 1) ≤ 20 := hk
    have hy : y ∈ (pad k ++ "choose") :: (sepI (pad k ++ "or") (bs.ll (k + 1)) ++ [pad k ++ "end"]) := hy
    rcases List.mem_cons.mp hy with rfl | hy
    · exact padw (by omega) (Fine.of _ (by decide))
    · rcases List.mem_append.mp hy with hy | hy
      · rcases sepA_mem hy with rfl | ⟨l, hl, hy⟩
        · exact padw (by omega) (Fine.of _ (by decide))
        · exact Bds.lf (k := k + 1) h.2.2 (by omega) l hl y hy
      · rw [List.mem_singleton.mp hy]
        exact padw (by omega) (Fine.of _ (by decide))
theorem Bd.lf : ∀ {b : Bd} {k : Nat}, b.ok → k + b.nd ≤ 20 → ∀ y ∈ b.lns k, Fine 9100 y
  | .nil, k, h, hk, y, hy => by cases hy
  | .cons s r, k, h, hk, y, hy => by
    have hk : k + max s.nd r.nd ≤ 20 := hk
    rcases List.mem_append.mp (show y ∈ s.lns k ++ r.lns k from hy) with hy | hy
    · exact St.lf h.1 (by omega) y hy
    · exact Bd.lf h.2 (by omega) y hy
theorem Bds.lf : ∀ {b : Bds} {k : Nat}, b.ok → k + b.nd ≤ 20 → ∀ l ∈ b.ll k, ∀ y ∈ l, Fine 9100 y
  | .nil, k, h, hk, l, hl, y, hy => by cases hl
  | .cons s r, k, h, hk, l, hl, y, hy => by
    have hk : k + max s.nd r.nd ≤ 20 := hk
    rcases List.mem_cons.mp (show l ∈ s.lns k :: r.ll k from hl) with rfl | hl
    · exact Bd.lf h.1 (by omega) y hy
    · exact Bds.lf h.2 (by omega) l hl y hy
end
theorem hdr_fine {k : Kd} (h : k.ok) : Fine 200 (hdr k) := by
  obtain ⟨h1, h2, -⟩ := h
  have h3 : Fine 10 (cS k.cnt) := by
    cases q : k.cnt with
    | none => exact Fine.of _ (by decide)
    | some i => have := h2 i q; exact (istr_fine (by omega) (by omega)).le (by decide)
  exact (Fine.add (Fine.add (Fine.add (Fine.of (n := 5) "kind " (by decide)) h1) fine_sp) h3).le (by decide)
theorem lcl_fine {v : Vr} (h : v.ok) : Fine 300 (lcl v) := (Fine.add (Fine.of (n := 2) "  " (by decide)) (Fine.add (Fine.add (Fine.of (n := 5) "local" (by decide)) fine_sp) (tx_fine h))).le (by decide)
theorem shr_fine {v : Vr} (h : v.ok) : Fine 300 (shr v) := (Fine.add (Fine.add (Fine.of (n := 5) "share" (by decide)) fine_sp) (tx_fine h)).le (by decide)
theorem Kd.lf {k : Kd} (h : k.ok) : ∀ y ∈ k.ls, Fine 9100 y := fun y hy => by
  unfold Kd.ls at hy
  rcases List.mem_append.mp hy with hy | hy
  · rcases List.mem_append.mp hy with hy | hy
    · rw [List.mem_singleton.mp hy]; exact (hdr_fine h).le (by decide)
    · obtain ⟨v, hv, rfl⟩ := List.mem_map.mp hy
      exact (lcl_fine (h.2.2.2.1 v hv)).le (by decide)
  · rcases List.mem_append.mp hy with hy | hy
    · exact Bd.lf h.2.2.2.2.1 (by have := h.2.2.2.2.2; omega) y hy
    · rw [List.mem_singleton.mp hy]; exact Fine.of _ (by decide)
theorem Kd.ll {k : Kd} (h : k.ok) : k.ls.length ≤ 5 + 8 * k.bd.tot := by
  have := Bd.lc (k := 1) h.2.2.2.2.1
  have := h.2.2.1
  simp only [Kd.ls, List.length_append, List.length_map, List.length_cons, List.length_nil]
  omega
theorem Pg.lf {p : Pg} (h : p.ok) {i : Nat} : ∀ y ∈ p.ls i, Fine 9100 y := fun y hy => by
  obtain ⟨h1, h2, h3, h4, h5, h6, h7, h8⟩ := h
  unfold Pg.ls Pg.ls0 at hy
  rcases List.mem_append.mp hy with hy | hy
  · rcases List.mem_append.mp hy with hy | hy
    · rcases List.mem_append.mp hy with hy | hy
      · obtain ⟨v, hv, rfl⟩ := List.mem_map.mp hy
        exact (shr_fine (h2 v hv)).le (by decide)
      · obtain ⟨v, hv, rfl⟩ := List.mem_map.mp hy
        exact (Fine.add (Fine.of (n := 5) "lock " (by decide)) (h4 v hv)).le (by decide)
    · obtain ⟨v, hv, rfl⟩ := List.mem_map.mp hy
      exact (Fine.add (Fine.of (n := 5) "bell " (by decide)) (h6 v hv)).le (by decide)
  · obtain ⟨k, hk, hy⟩ := List.mem_flatMap.mp hy
    exact Kd.lf (h8.1 k (List.mem_of_mem_take hk)) y hy
theorem Pg.ll {p : Pg} (h : p.ok) (i : Nat) : (p.ls i).length ≤ 801 := by
  obtain ⟨h1, h2, h3, h4, h5, h6, h7, h8, h9⟩ := h
  have h10 : (p.ki.flatMap Kd.ls).length ≤ 5 * p.ki.length + 8 * (p.ki.map fun k => k.bd.tot).sum := by
    clear h7 h9
    generalize p.ki = l at h8
    induction l with
    | nil => simp
    | cons k r ih =>
      have a := ih fun x hx => h8 x (List.mem_cons_of_mem _ hx)
      have b := Kd.ll (h8 k List.mem_cons_self)
      simp only [List.flatMap_cons, List.map_cons, List.sum_cons, List.length_cons, List.length_append]
      omega
  have h11 : ((p.ki.take i).flatMap Kd.ls).length ≤ (p.ki.flatMap Kd.ls).length := by
    have : p.ki.flatMap Kd.ls = (p.ki.take i).flatMap Kd.ls ++ (p.ki.drop i).flatMap Kd.ls := by rw [← List.flatMap_append, List.take_append_drop]
    rw [this, List.length_append]
    omega
  simp only [Pg.ls, Pg.ls0, List.length_append, List.length_map]
  omega
theorem Pg.tots {p : Pg} (h : p.ok) : ∀ k ∈ p.ki, k.bd.tot ≤ 96 := fun k hk => by
  have h9 := h.2.2.2.2.2.2.2.2
  generalize p.ki = l at hk h9
  induction l with
  | nil => cases hk
  | cons x r ih =>
    simp only [List.map_cons, List.sum_cons] at h9
    rcases List.mem_cons.mp hk with rfl | hk
    · omega
    · exact ih hk (by omega)

/-! programs written -/
theorem e_mapS {γ : Type} {G : Gam} {env : PV.Env} {own : List (Str × Nat)} {tg : Tg} {src : Src} {c : Tes} {e : Ex} {t : Tag} {l : List γ} {w : γ → D} {h : γ → Str} (hs : evSrc G src env = .ok (t, l.map w)) (hl : l.length ≤ 16000000)
    (hi : ∀ x ∈ l, cprItem G tg c e (wipeE env (own.map (·.2))) t.kid (w x) = .ok (some (.str (h x)))) (he : isPr e = false := by rfl) : ev G (.cpr own tg src c e) env = .ok (.ow, sl (l.map h)) := by
  rw [e_map (h := fun x => .str (h x)) hs hl hi he]
  simp [sl]
theorem emp_app (a : Str) : Str.empty ++ a = a := by
  show (⟨#[] ++ a.cps⟩ : Str) = a
  rw [Array.empty_append]
def Pg.tx (p : Pg) : Str := Txt.join "" ((p.ls p.ki.length).map fun l => l ++ ("\n" : Str))
theorem Pg.ls_succ {p : Pg} {i : Nat} {k : Kd} (h : p.ki[i]? = some k) : p.ls (i + 1) = p.ls i ++ [hdr k] ++ k.vs.map lcl ++ k.bd.lns 1 ++ [("end" : Str)] := by
  unfold Pg.ls
  rw [List.take_succ, h, List.flatMap_append]
  simp [Kd.ls]
theorem ev_join_tx {p : Pg} (h : p.ok) : evJoin "" (sl ((p.ls p.ki.length).map fun l => l ++ ("\n" : Str))) = .ok (.sh, .str p.tx) := by
  have hl := Pg.ll h p.ki.length
  refine ev_join (m := 9101) (fun y hy => ?_) ?_
  · obtain ⟨x, hx, rfl⟩ := List.mem_map.mp hy
    exact ((Pg.lf h x hx).add (Fine.of (n := 1) "\n" (by decide))).2
  · rw [List.length_map]
    have e : (("" : String) : Str).length = 0 := by decide +kernel
    rw [e]
    exact Nat.le_trans (Nat.mul_le_mul_right _ hl) (by decide)
theorem fs_hdr {G : Gam} {env : PV.Env} {x : Str} {i : Nat} (hx : Fine 25 x) (he : env[i]? = some (.sh (.str x))) : ev G (.fst (.cons (.cst (.str "kind ")) (.cons (.var i) (.cons (.cst (.str " ")) .nil)))) env = .ok (.sh, .str (("kind " : Str) ++ x ++ (" " : Str))) := by
  have l1 : ("kind " : Str).length = 5 := by decide +kernel
  have l2 : (" " : Str).length = 1 := by decide +kernel
  have lx := hx.2
  have a1 : ("kind " : Str).length ≤ lim := by rw [l1]; show _ ≤ 16000000; omega
  have a2 : x.length ≤ lim := by show _ ≤ 16000000; omega
  have a3 : (("kind " : Str) ++ x).length ≤ lim := by rw [Str.length_append, l1]; show _ ≤ 16000000; omega
  have a4 : (" " : Str).length ≤ lim := by rw [l2]; show _ ≤ 16000000; omega
  have a5 : (("kind " : Str) ++ x ++ (" " : Str)).length ≤ lim := by rw [Str.length_append, Str.length_append, l1, l2]; show _ ≤ 16000000; omega
  have fm : ∀ z : Str, z.length ≤ lim → fmtD (.str z) = some z := fun z hz => if_pos hz
  simp -implicitDefEqProofs [he, fm _ a1, fm _ a2, fm _ a4, emp_app, a1, a3, a5]
def fpI (p : Pg) (i : Nat) (e : PV.Env) : Prop := ∃ a6 a7 a8 a9 a10 a11 a12 : Slot, e = [.sh p.d, .sh (.list (p.sh.map Vr.d)), .sh (sl p.lo), .sh (sl p.be), .sh (.list (p.ki.map Kd.d)), .ow (sl (p.ls i)), a6, a7, a8, a9, a10, a11, a12]
theorem format_ok {p : Pg} (h : p.ok) : g_format_program [p.d] = .ok (.sh, .str p.tx) := by
  have hok := h
  obtain ⟨h1, h2, h3, h4, h5, h6, h7, h8, h9⟩ := h
  have gf : g_format_body = fbN 12 := rfl
  have f_lock : Fine 10 "lock " := Fine.of _ (by decide)
  have f_bell : Fine 10 "bell " := Fine.of _ (by decide)
  have f_sp : Fine 10 "  " := Fine.of _ (by decide)
  have f_nl : Fine 10 "\n" := Fine.of _ (by decide)
  have f_loc : Fine 10 "local" := Fine.of _ (by decide)
  refine def_is rfl ?_
  unfold b_format_program
  refine s_step (J := fun e => e = [.sh p.d, .sh (.list (p.sh.map Vr.d)), .sh (sl p.lo), .sh (sl p.be), .sh (.list (p.ki.map Kd.d)), .no, .no, .no, .no, .no, .no, .no, .no]) (by
    simp -implicitDefEqProofs [frz_cons, Pg.d]) ?_
  rintro _ rfl
  refine s_asg rfl (e_mapS (l := p.sh) (w := Vr.d) (h := shr) (t := .sh) (by simp -implicitDefEqProofs) (by omega) fun v hv => by
    simp -implicitDefEqProofs [cprItem, wipeE, fv_ok (w := "share") (Fine.of _ (by decide)) (h2 v hv)]
    rfl) rfl ?_
  refine s_step (J := fun e => e = [.sh p.d, .sh (.list (p.sh.map Vr.d)), .sh (sl p.lo), .sh (sl p.be), .sh (.list (p.ki.map Kd.d)), .ow (sl p.ls0), .no, .no, .no, .no, .no, .no, .no]) (by
    have c1 := cat_sl (s := .rt) (t := .ow) (xs := p.sh.map shr) (ys := p.lo.map fun x => ("lock " : Str) ++ x) rfl (by rw [List.length_map, List.length_map]; omega)
    have c2 := cat_sl (s := .ow) (t := .ow) (xs := p.sh.map shr ++ p.lo.map fun x => ("lock " : Str) ++ x) (ys := p.be.map fun x => ("bell " : Str) ++ x) rfl (by rw [List.length_append, List.length_map, List.length_map, List.length_map]; omega)
    have k1 := fun z6 => e_mapS (G := G_format_variable) (own := [("name", 6)]) (tg := .nm 6) (src := .lst (.var 2)) (c := .nil) (e := .bin .add (.cst (.str "lock ")) (.var 6)) (env := [.sh p.d, .sh (.list (p.sh.map Vr.d)), .sh (sl p.lo), .sh (sl p.be), .sh (.list (p.ki.map Kd.d)), .ow (sl (p.sh.map shr)), z6, .no, .no, .no, .no, .no, .no]) (l := p.lo) (w := .str) (h := fun x => ("lock " : Str) ++ x) (t := .sh) (by simp -implicitDefEqProofs) (by omega) fun x hx => by
      simp -implicitDefEqProofs [cprItem, wipeE, cat_fine f_lock (h4 x hx) (by decide)]
    have k2 := fun z6 => e_mapS (G := G_format_variable) (own := [("name", 6)]) (tg := .nm 6) (src := .lst (.var 3)) (c := .nil) (e := .bin .add (.cst (.str "bell ")) (.var 6)) (env := [.sh p.d, .sh (.list (p.sh.map Vr.d)), .sh (sl p.lo), .sh (sl p.be), .sh (.list (p.ki.map Kd.d)), .ow (sl (p.sh.map shr)), z6, .no, .no, .no, .no, .no, .no]) (l := p.be) (w := .str) (h := fun x => ("bell " : Str) ++ x) (t := .sh) (by simp -implicitDefEqProofs) (by omega) fun x hx => by
      simp -implicitDefEqProofs [cprItem, wipeE, cat_fine f_bell (h6 x hx) (by decide)]
    show Sat _ (evS G_format_variable _ _ [.sh p.d, .sh (.list (p.sh.map Vr.d)), .sh (sl p.lo), .sh (sl p.be), .sh (.list (p.ki.map Kd.d)), .ow (sl (p.sh.map shr)), .no, .no, .no, .no, .no, .no, .no])
    simp -implicitDefEqProofs only [y_asg, frz_nil, x_bin, x_var, at_0, at_s, b_ok, k1, k2, c1, c2, o_ok, put_ow, List.set_cons_succ, List.set_cons_zero]
    exact ⟨rfl⟩) ?_
  rintro _ rfl
  have e0 : p.ls0 = p.ls 0 := by unfold Pg.ls; rw [List.take_zero, List.flatMap_nil, List.append_nil]
  rw [e0]
  refine s_for (t := .sh) (ds := p.ki.map Kd.d) (I := fpI p) (by rw [frz_cons]; rfl) (by simp -implicitDefEqProofs) rfl ⟨_, _, _, _, _, _, _, rfl⟩ ?_ ?_
  · rintro i d e hd ⟨a6, a7, a8, a9, a10, a11, a12, rfl⟩
    rw [List.getElem?_map, Option.map_eq_some_iff] at hd
    obtain ⟨k, hk, rfl⟩ := hd
    have km := List.mem_of_getElem? hk
    obtain ⟨q1, q2, q3, q4, q5, q6⟩ := h8 k km
    have q7 := Pg.tots hok k km
    have es := Pg.ls_succ hk
    have hl := Pg.ll hok i
    have bl := Bd.lc (k := 1) q5
    have bt4 : ∀ {env : PV.Env}, bindT (.tp [6, 7, 8, 9]) (.sh, k.d) env = some ((((env.set 6 (.sh (.str k.nm))).set 7 (.sh (cD k.cnt))).set 8 (.sh (.list (k.vs.map Vr.d)))).set 9 (.sh (.list k.bd.ds))) := fun {env} => rfl
    obtain ⟨X0, e0⟩ : ∃ X, X = p.ls i := ⟨_, rfl⟩
    obtain ⟨X1, e1⟩ : ∃ X, X = X0 ++ [hdr k] := ⟨_, rfl⟩
    obtain ⟨X2, e2⟩ : ∃ X, X = X1 ++ k.vs.map lcl := ⟨_, rfl⟩
    obtain ⟨X3, e3⟩ : ∃ X, X = X2 ++ k.bd.lns 1 := ⟨_, rfl⟩
    obtain ⟨X4, e4⟩ : ∃ X, X = X3 ++ [("end" : Str)] := ⟨_, rfl⟩
    rw [← e0] at hl
    rw [← e0, ← e1, ← e2, ← e3, ← e4] at es
    rw [← e0]
    have m1 : X1.length = X0.length + 1 := by rw [e1]; simp
    have m2 : X2.length = X1.length + k.vs.length := by rw [e2]; simp
    have m3 : X3.length = X2.length + (k.bd.lns 1).length := by rw [e3]; simp
    have c2 := cat_sl (s := .rt) (t := .ow) (xs := X1) (ys := k.vs.map lcl) rfl (by rw [List.length_map]; omega)
    have c3 := cat_sl (s := .rt) (t := .ow) (xs := X2) (ys := k.bd.lns 1) rfl (by omega)
    have c4 := cat_sl (s := .ow) (t := .ow) (xs := X3) (ys := [("end" : Str)]) rfl (by rw [List.length_singleton]; omega)
    rw [← e2] at c2
    rw [← e3] at c3
    rw [← e4] at c4
    have l0 : X0.length < lim := by show _ < 16000000; omega
    refine ⟨_, bt4, ?_⟩
    refine s_step (J := fun e => e = [.sh p.d, .sh (.list (p.sh.map Vr.d)), .sh (sl p.lo), .sh (sl p.be), .sh (.list (p.ki.map Kd.d)), .ow (sl X1), .sh (.str k.nm), .sh (cD k.cnt), .sh (.list (k.vs.map Vr.d)), .sh (.list k.bd.ds), a10, a11, a12]) (by
      have hc : ev G_format_variable (.ife (.val (.cmp .is (.var 7) (.cst .none))) (.cst (.str "any")) (.bi .str (.cons (.var 7) .nil))) [.sh p.d, .sh (.list (p.sh.map Vr.d)), .sh (sl p.lo), .sh (sl p.be), .sh (.list (p.ki.map Kd.d)), .ow (sl X0), .sh (.str k.nm), .sh (cD k.cnt), .sh (.list (k.vs.map Vr.d)), .sh (.list k.bd.ds), a10, a11, a12] = .ok (.sh, .str (cS k.cnt)) := by
        cases q : k.cnt with
        | none => simp -implicitDefEqProofs [cD, cS, isNone]
        | some i =>
          have := q2 i q
          simp -implicitDefEqProofs [cD, cS, isNone, str_istr (t := .sh) (i := i) (by omega) (by omega)]
      have fc : Fine 10 (cS k.cnt) := by
        cases q : k.cnt with
        | none => exact Fine.of _ (by decide)
        | some i => have := q2 i q; exact (istr_fine (by omega) (by omega)).le (by decide)
      have hh := fs_hdr (G := G_format_variable) (i := 6) (env := [.sh p.d, .sh (.list (p.sh.map Vr.d)), .sh (sl p.lo), .sh (sl p.be), .sh (.list (p.ki.map Kd.d)), .ow (sl X0), .sh (.str k.nm), .sh (cD k.cnt), .sh (.list (k.vs.map Vr.d)), .sh (.list k.bd.ds), a10, a11, a12]) q1 rfl
      have ca := cat_fine (s := .sh) (t := .sh) (Fine.add (Fine.add (Fine.of (n := 5) "kind " (by decide)) q1) fine_sp) fc (by decide)
      show Sat _ (evS G_format_variable _ _ [.sh p.d, .sh (.list (p.sh.map Vr.d)), .sh (sl p.lo), .sh (sl p.be), .sh (.list (p.ki.map Kd.d)), .ow (sl X0), .sh (.str k.nm), .sh (cD k.cnt), .sh (.list (k.vs.map Vr.d)), .sh (.list k.bd.ds), a10, a11, a12])
      simp -implicitDefEqProofs only [y_app, frz_nil, x_bin, b_ok, hh, hc, ca]
      simp -implicitDefEqProofs [l0, e1]
      rfl) ?_
    rintro _ rfl
    refine s_step (J := fun e => e = [.sh p.d, .sh (.list (p.sh.map Vr.d)), .sh (sl p.lo), .sh (sl p.be), .sh (.list (p.ki.map Kd.d)), .ow (sl X2), .sh (.str k.nm), .sh (cD k.cnt), .sh (.list (k.vs.map Vr.d)), .sh (.list k.bd.ds), a10, a11, a12]) (by
      have k1 := e_mapS (G := G_format_variable) (own := [("variable", 11)]) (tg := .nm 11) (src := .lst (.var 8)) (c := .nil) (e := .bin .add (.cst (.str "  ")) (.call "format_variable" (.cons (.cst (.str "local")) (.cons (.var 11) .nil)))) (env := [.sh p.d, .sh (.list (p.sh.map Vr.d)), .sh (sl p.lo), .sh (sl p.be), .sh (.list (p.ki.map Kd.d)), .ow (sl X1), .sh (.str k.nm), .sh (cD k.cnt), .sh (.list (k.vs.map Vr.d)), .sh (.list k.bd.ds), a10, a11, a12]) (l := k.vs) (w := Vr.d) (h := lcl) (t := .sh) (by simp -implicitDefEqProofs) (by omega) fun v hv => by
        simp -implicitDefEqProofs [cprItem, wipeE, fv_ok f_loc (q4 v hv), cat_fine f_sp (Fine.add (Fine.add f_loc fine_sp) (tx_fine (q4 v hv))) (by decide)]
        rfl
      simp -implicitDefEqProofs only [y_asg, frz_nil, x_bin, x_var, at_0, at_s, b_ok, k1, c2, o_ok, put_ow, List.set_cons_succ, List.set_cons_zero]
      exact ⟨rfl⟩) ?_
    rintro _ rfl
    have gb : fbN 12 [.list k.bd.ds, .int 1] = .ok (.ow, sl (k.bd.lns 1)) := fb_all 12 (b := k.bd) (k := 1) q5 (by omega) (by omega) (by omega)
    have c4 : evBin .add (.ow, .list (X3.map .str)) (.ow, .list [.str "end"]) = .ok (.ow, sl X4) := c4
    rw [ss_cons]; simp -implicitDefEqProofs [frz_cons, gf, gb, c3, c4]
    exact ⟨.sh (.str k.nm), .sh (cD k.cnt), .sh (.list (k.vs.map Vr.d)), .sh (.list k.bd.ds), a10, a11, a12, by rw [es]⟩
  · rintro _ ⟨a6, a7, a8, a9, a10, a11, a12, rfl⟩
    rw [List.length_map, ss_cons]
    have hl := Pg.ll hok p.ki.length
    have k1 := e_mapS (G := G_format_variable) (own := [("line", 12)]) (tg := .nm 12) (src := .lst (.var 5)) (c := .nil) (e := .bin .add (.var 12) (.cst (.str "\n"))) (env := [.sh p.d, .sh (.list (p.sh.map Vr.d)), .sh (sl p.lo), .sh (sl p.be), .sh (.list (p.ki.map Kd.d)), .ow (sl (p.ls p.ki.length)), a6, a7, a8, a9, a10, a11, a12]) (l := p.ls p.ki.length) (w := .str) (h := fun l => l ++ ("\n" : Str)) (t := .rt) (by simp -implicitDefEqProofs) (by omega) fun x hx => by
      simp -implicitDefEqProofs [cprItem, wipeE, cat_fine (Pg.lf hok x hx) f_nl (by decide)]
    simp -implicitDefEqProofs only [y_ret, frz_nil, x_join, k1]
    simp -implicitDefEqProofs [ev_join_tx hok]

/-! the law's text -/
theorem ltx_share {v : Vr} : ("share " : Str) ++ v.tx = shr v := by
  have e : ("share " : Str) = ("share" : Str) ++ (" " : Str) := by decide +kernel
  rw [e]
  rfl
theorem ltx_local {v : Vr} : ("  local " : Str) ++ v.tx = lcl v := by
  have e : ("  local " : Str) = ("  " : Str) ++ (("local" : Str) ++ (" " : Str)) := by decide +kernel
  rw [e, str_assoc]
  rfl
theorem ltx_parts {G : Gam} {v : Vr} (h : v.ok) {e0 e1 e2 e3 e5 e6 e7 : Slot} : ev G (.join (.cst (.str " ")) (.cpr [("_law_part", 5)] (.nm 5) (.tup (.var 4)) .nil (.bi .str (.cons (.var 5) .nil)))) [e0, e1, e2, e3, .sh v.d, e5, e6, e7] = .ok (.sh, .str v.tx) := by
  have hp := parts_ok (G := G) h (own := [("_law_part", 5)]) (i := 4) (j := 5) (env := [e0, e1, e2, e3, .sh v.d, e5, e6, e7]) (env2 := []) rfl (fun d => rfl) (by simp [wipeE])
  have ej := ev_join (m := 25) (sep := " ") (ys := v.ps.map (·.2)) (fun y hy => by
    obtain ⟨p, hp, rfl⟩ := List.mem_map.mp hy
    exact (Vr.ps_ok h p hp).2.2) (by rw [List.length_map]; show 4 * _ ≤ 16000000; decide +kernel)
  simp -implicitDefEqProofs only [x_join, hp]
  simp -implicitDefEqProofs [ej]
  rfl
def ltI (p : Pg) (i : Nat) (e : PV.Env) : Prop := ∃ a2 a3 a4 a5 a6 a7 : Slot, e = [.sh p.d, .ow (sl (p.ls i)), a2, a3, a4, a5, a6, a7]
theorem lawtext_ok {p : Pg} (h : p.ok) : g__law_text [p.d] = .ok (.sh, .str p.tx) := by
  have hok := h
  obtain ⟨h1, h2, h3, h4, h5, h6, h7, h8, h9⟩ := h
  have gf : g__law_lines = llN 12 := rfl
  have f_lock : Fine 10 "lock " := Fine.of _ (by decide)
  have f_bell : Fine 10 "bell " := Fine.of _ (by decide)
  have f_kind : Fine 10 "kind " := Fine.of _ (by decide)
  have f_share : Fine 10 "share " := Fine.of _ (by decide)
  have f_local : Fine 10 "  local " := Fine.of _ (by decide)
  have f_nl : Fine 10 "\n" := Fine.of _ (by decide)
  refine def_is rfl ?_
  unfold b__law_text
  have i0 : evIx (.sh, p.d) (.int 0) = .ok (.sh, .list (p.sh.map Vr.d)) := rfl
  have i1 : evIx (.sh, p.d) (.int 1) = .ok (.sh, sl p.lo) := ixt1
  have i2 : evIx (.sh, p.d) (.int 2) = .ok (.sh, sl p.be) := ixt2
  have i3 : evIx (.sh, p.d) (.int 3) = .ok (.sh, .list (p.ki.map Kd.d)) := ixt3
  refine s_asg rfl (e_mapS (l := p.sh) (w := Vr.d) (h := shr) (t := .sh) (by simp -implicitDefEqProofs [i0]) (by omega) fun v hv => by
    have := fun G e0 e1 e2 e3 e5 e6 e7 => ltx_parts (G := G) (h2 v hv) (e0 := e0) (e1 := e1) (e2 := e2) (e3 := e3) (e5 := e5) (e6 := e6) (e7 := e7)
    simp -implicitDefEqProofs only [frz_nil, cprItem, wipeE, List.map_cons, List.map_nil, List.cons_append, List.nil_append, List.length_cons, List.length_nil, List.replicate, Nat.reduceAdd, Nat.reduceSub, List.set_cons_succ, List.set_cons_zero, nt_sh, bt_nm, x_ta0, b_ok, x_bin, this, x_cst, cst_str, cat_fine f_share (tx_fine (h2 v hv)) (by decide : 10 + 200 ≤ 16000000), ltx_share, kid_sh]
    rfl) rfl ?_
  refine s_step (J := fun e => e = [.sh p.d, .ow (sl p.ls0), .no, .no, .no, .no, .no, .no]) (by
    have c1 := cat_sl (s := .rt) (t := .ow) (xs := p.sh.map shr) (ys := p.lo.map fun x => ("lock " : Str) ++ x) rfl (by rw [List.length_map, List.length_map]; omega)
    have c2 := cat_sl (s := .ow) (t := .ow) (xs := p.sh.map shr ++ p.lo.map fun x => ("lock " : Str) ++ x) (ys := p.be.map fun x => ("bell " : Str) ++ x) rfl (by rw [List.length_append, List.length_map, List.length_map, List.length_map]; omega)
    have k1 := fun z6 => e_mapS (G := G__law_lines) (own := [("_law_name", 6)]) (tg := .nm 6) (src := .lst (.ix (.var 0) (.cst (.int 1)))) (c := .nil) (e := .bin .add (.cst (.str "lock ")) (.var 6)) (env := [.sh p.d, .ow (sl (p.sh.map shr)), .no, .no, .no, .no, z6, .no]) (l := p.lo) (w := .str) (h := fun x => ("lock " : Str) ++ x) (t := .sh) (by simp -implicitDefEqProofs [i1]) (by omega) fun x hx => by
      simp -implicitDefEqProofs [cprItem, wipeE, cat_fine f_lock (h4 x hx) (by decide)]
    have k2 := fun z6 => e_mapS (G := G__law_lines) (own := [("_law_name", 6)]) (tg := .nm 6) (src := .lst (.ix (.var 0) (.cst (.int 2)))) (c := .nil) (e := .bin .add (.cst (.str "bell ")) (.var 6)) (env := [.sh p.d, .ow (sl (p.sh.map shr)), .no, .no, .no, .no, z6, .no]) (l := p.be) (w := .str) (h := fun x => ("bell " : Str) ++ x) (t := .sh) (by simp -implicitDefEqProofs [i2]) (by omega) fun x hx => by
      simp -implicitDefEqProofs [cprItem, wipeE, cat_fine f_bell (h6 x hx) (by decide)]
    show Sat _ (evS G__law_lines _ _ [.sh p.d, .ow (sl (p.sh.map shr)), .no, .no, .no, .no, .no, .no])
    simp -implicitDefEqProofs only [y_asg, frz_nil, x_bin, x_var, at_0, at_s, b_ok, k1, k2, c1, c2, o_ok, put_ow, List.set_cons_succ, List.set_cons_zero]
    exact ⟨rfl⟩) ?_
  rintro _ rfl
  have e0 : p.ls0 = p.ls 0 := by unfold Pg.ls; rw [List.take_zero, List.flatMap_nil, List.append_nil]
  rw [e0]
  refine s_for (t := .sh) (ds := p.ki.map Kd.d) (I := ltI p) rfl (by simp -implicitDefEqProofs [i3]) rfl ⟨_, _, _, _, _, _, rfl⟩ ?_ ?_
  · rintro i d e hd ⟨a2, a3, a4, a5, a6, a7, rfl⟩
    rw [List.getElem?_map, Option.map_eq_some_iff] at hd
    obtain ⟨k, hk, rfl⟩ := hd
    have km := List.mem_of_getElem? hk
    obtain ⟨q1, q2, q3, q4, q5, q6⟩ := h8 k km
    have q7 := Pg.tots hok k km
    have es := Pg.ls_succ hk
    have hl := Pg.ll hok i
    have bl := Bd.lc (k := 1) q5
    obtain ⟨X0, e0⟩ : ∃ X, X = p.ls i := ⟨_, rfl⟩
    obtain ⟨X1, e1⟩ : ∃ X, X = X0 ++ [hdr k] := ⟨_, rfl⟩
    obtain ⟨X2, e2⟩ : ∃ X, X = X1 ++ k.vs.map lcl := ⟨_, rfl⟩
    obtain ⟨X3, e3⟩ : ∃ X, X = X2 ++ k.bd.lns 1 := ⟨_, rfl⟩
    obtain ⟨X4, e4⟩ : ∃ X, X = X3 ++ [("end" : Str)] := ⟨_, rfl⟩
    rw [← e0] at hl
    rw [← e0, ← e1, ← e2, ← e3, ← e4] at es
    rw [← e0]
    have m1 : X1.length = X0.length + 1 := by rw [e1]; simp
    have m2 : X2.length = X1.length + k.vs.length := by rw [e2]; simp
    have m3 : X3.length = X2.length + (k.bd.lns 1).length := by rw [e3]; simp
    have c2 := cat_sl (s := .rt) (t := .ow) (xs := X1) (ys := k.vs.map lcl) rfl (by rw [List.length_map]; omega)
    have c3 := cat_sl (s := .rt) (t := .ow) (xs := X2) (ys := k.bd.lns 1) rfl (by omega)
    have c4 := cat_sl (s := .ow) (t := .ow) (xs := X3) (ys := [("end" : Str)]) rfl (by rw [List.length_singleton]; omega)
    rw [← e2] at c2
    rw [← e3] at c3
    rw [← e4] at c4
    have l0 : X0.length < lim := by show _ < 16000000; omega
    have j0 : evIx (.sh, k.d) (.int 0) = .ok (.sh, .str k.nm) := ixt0
    have j1 : evIx (.sh, k.d) (.int 1) = .ok (.sh, cD k.cnt) := by rw [show k.d = .tuple [.str k.nm, cD k.cnt, .list (k.vs.map Vr.d), .list k.bd.ds] from rfl, ixt1]; cases k.cnt <;> rfl
    have j2 : evIx (.sh, k.d) (.int 2) = .ok (.sh, .list (k.vs.map Vr.d)) := ixt2
    have j3 : evIx (.sh, k.d) (.int 3) = .ok (.sh, .list k.bd.ds) := ixt3
    have fc : Fine 10 (cS k.cnt) := by
      cases q : k.cnt with
      | none => exact Fine.of _ (by decide)
      | some i => have := q2 i q; exact (istr_fine (by omega) (by omega)).le (by decide)
    refine ⟨[.sh p.d, .ow (sl X0), .sh k.d, a3, a4, a5, a6, a7], rfl, ?_⟩
    rw [ss_cons]; simp -implicitDefEqProofs
    refine s_if1 (t := !isNone (cD k.cnt)) (J := fun e => e = [.sh p.d, .ow (sl X0), .sh k.d, .sh (.str (cS k.cnt)), a4, a5, a6, a7]) (by simp -implicitDefEqProofs [j1]) (fun q => ?_) (fun q => ?_) ?_
    · cases z : k.cnt with
      | none => rw [z] at q; cases q
      | some i =>
        have := q2 i z
        rw [ss_cons]; simp -implicitDefEqProofs [j1, z, cD, cS, str_istr (t := .sh) (i := i) (by omega) (by omega)]
    · cases z : k.cnt with
      | none => simp -implicitDefEqProofs [cS]
      | some i => rw [z] at q; cases q
    rintro _ rfl
    refine s_step (J := fun e => e = [.sh p.d, .ow (sl X1), .sh k.d, .sh (.str (cS k.cnt)), a4, a5, a6, a7]) (by
      simp -implicitDefEqProofs [j0, cat_fine f_kind q1 (by decide), cat_fine (Fine.add f_kind q1) fine_sp (by decide), cat_fine (Fine.add (Fine.add f_kind q1) fine_sp) fc (by decide), l0, e1, hdr]) ?_
    rintro _ rfl
    refine s_step (J := fun e => e = [.sh p.d, .ow (sl X2), .sh k.d, .sh (.str (cS k.cnt)), a4, a5, a6, a7]) (by
      have k1 := e_mapS (G := G__law_lines) (own := [("_law_variable_here", 4)]) (tg := .nm 4) (src := .lst (.ix (.var 2) (.cst (.int 2)))) (c := .nil) (e := .bin .add (.cst (.str "  local ")) (.join (.cst (.str " ")) (.cpr [("_law_part", 5)] (.nm 5) (.tup (.var 4)) .nil (.bi .str (.cons (.var 5) .nil))))) (env := [.sh p.d, .ow (sl X1), .sh k.d, .sh (.str (cS k.cnt)), a4, a5, a6, a7]) (l := k.vs) (w := Vr.d) (h := lcl) (t := .sh) (by simp -implicitDefEqProofs [j2]) (by omega) fun v hv => by
        have := fun G e0 e1 e2 e3 e5 e6 e7 => ltx_parts (G := G) (q4 v hv) (e0 := e0) (e1 := e1) (e2 := e2) (e3 := e3) (e5 := e5) (e6 := e6) (e7 := e7)
        simp -implicitDefEqProofs only [frz_nil, cprItem, wipeE, List.map_cons, List.map_nil, List.cons_append, List.nil_append, List.length_cons, List.length_nil, List.replicate, Nat.reduceAdd, Nat.reduceSub, List.set_cons_succ, List.set_cons_zero, nt_sh, bt_nm, x_ta0, b_ok, x_bin, this, x_cst, cst_str, cat_fine f_local (tx_fine (q4 v hv)) (by decide : 10 + 200 ≤ 16000000), ltx_local, kid_sh]
        rfl
      simp -implicitDefEqProofs only [y_asg, frz_nil, x_bin, x_var, at_0, at_s, b_ok, k1, c2, o_ok, put_ow, List.set_cons_succ, List.set_cons_zero]
      exact ⟨rfl⟩) ?_
    rintro _ rfl
    have gb : llN 12 [.list k.bd.ds, .int 1] = .ok (.ow, sl (k.bd.lns 1)) := ll_all 12 (b := k.bd) (k := 1) q5 (by omega) (by omega) (by omega)
    have c4 : evBin .add (.ow, .list (X3.map .str)) (.ow, .list [.str "end"]) = .ok (.ow, sl X4) := c4
    rw [ss_cons]; simp -implicitDefEqProofs [j3, gf, gb, c3, c4]
    exact ⟨.sh k.d, .sh (.str (cS k.cnt)), a4, a5, a6, a7, by rw [es]⟩
  · rintro _ ⟨a2, a3, a4, a5, a6, a7, rfl⟩
    rw [List.length_map, ss_cons]
    have hl := Pg.ll hok p.ki.length
    have k1 := e_mapS (G := G__law_lines) (own := [("_law_line", 7)]) (tg := .nm 7) (src := .lst (.var 1)) (c := .nil) (e := .bin .add (.var 7) (.cst (.str "\n"))) (env := [.sh p.d, .ow (sl (p.ls p.ki.length)), a2, a3, a4, a5, a6, a7]) (l := p.ls p.ki.length) (w := .str) (h := fun l => l ++ ("\n" : Str)) (t := .rt) (by simp -implicitDefEqProofs) (by omega) fun x hx => by
      simp -implicitDefEqProofs [cprItem, wipeE, cat_fine (Pg.lf hok x hx) f_nl (by decide)]
    simp -implicitDefEqProofs only [y_ret, frz_nil, x_join, k1]
    simp -implicitDefEqProofs [ev_join_tx hok]

/-! what a body holds, counted -/
def totE (g : List D → R TD) : List D → R TD := evDef (Gam.add G__law_parts "_law_total" g) 10000 3 1 b__law_total
def totN (n : Nat) : List D → R TD := gRec G__law_parts "_law_total" 10000 3 1 b__law_total n
theorem totN_succ (n : Nat) : totN (n + 1) = totE (totN n) := rfl
def rstE (g : List D → R TD) : List D → R TD := evDef (Gam.add G__law_total "_law_rests" g) 10000 4 1 b__law_rests
def rstN (n : Nat) : List D → R TD := gRec G__law_total "_law_rests" 10000 4 1 b__law_rests n
theorem rstN_succ (n : Nat) : rstN (n + 1) = rstE (rstN n) := rfl
theorem lparts_ok {s : St} (h : s.ok) : ∃ t : Tag, (t = .sh ∨ t = .ow) ∧ g__law_parts [s.d] = .ok (t, .list (s.bds.map fun b => .list b.ds)) := by
  have e : g__law_parts = fun ds => evDef G__law_names 10000 1 1 b__law_parts ds := rfl
  obtain ⟨n1, n2, n3, n4, n5, n6⟩ := s_if_ne
  cases s with
  | sim w ps =>
    obtain ⟨h1, ⟨h2, h3, h4⟩, h5, h6⟩ := h
    refine ⟨.ow, Or.inr rfl, def_is rfl ?_⟩
    unfold b__law_parts
    simp only [St.d]
    refine s_if (t := false) (by simp -implicitDefEqProofs [h2]) (fun z => by cases z) fun _ => ?_
    refine s_if (t := false) (by simp -implicitDefEqProofs [h3]) (fun z => by cases z) fun _ => ?_
    refine s_if (t := false) (by simp -implicitDefEqProofs [h4]) (fun z => by cases z) fun _ => ?_
    rw [List.nil_append, ss_cons]
    simp -implicitDefEqProofs [St.bds]
  | ife c a b =>
    refine ⟨.ow, Or.inr rfl, def_is rfl ?_⟩
    unfold b__law_parts
    simp only [St.d]
    refine s_if (t := true) (by simp -implicitDefEqProofs) (fun _ => ?_) (fun z => by cases z)
    rw [List.cons_append, ss_cons]
    simp -implicitDefEqProofs [St.bds]
  | lop c a =>
    refine ⟨.ow, Or.inr rfl, def_is rfl ?_⟩
    unfold b__law_parts
    simp only [St.d]
    refine s_if (t := false) (by simp -implicitDefEqProofs [n1]) (fun z => by cases z) fun _ => ?_
    refine s_if (t := true) (by simp -implicitDefEqProofs) (fun _ => ?_) (fun z => by cases z)
    rw [List.cons_append, ss_cons]
    simp -implicitDefEqProofs [St.bds]
  | cho bs =>
    refine ⟨.sh, Or.inl rfl, def_is rfl ?_⟩
    unfold b__law_parts
    simp only [St.d]
    refine s_if (t := false) (by simp -implicitDefEqProofs [n2]) (fun z => by cases z) fun _ => ?_
    refine s_if (t := false) (by simp -implicitDefEqProofs [n3]) (fun z => by cases z) fun _ => ?_
    refine s_if (t := true) (by simp -implicitDefEqProofs) (fun _ => ?_) (fun z => by cases z)
    rw [List.cons_append, ss_cons]
    simp -implicitDefEqProofs [St.bds, Bds.ds_eq]
theorem St.tot_bds {s : St} : s.tot = 1 + (s.bds.map Bd.tot).sum := by
  cases s with
  | sim w ps => rfl
  | ife c a b => simp [St.tot, St.bds]
  | lop c a => simp [St.tot, St.bds]
  | cho bs => simp [St.tot, St.bds, Bds.tot_eq]
mutual
def St.rst : St → Nat
  | .sim w _ => if w = "rest" then 1 else 0
  | .ife _ a b => a.rst + b.rst
  | .lop _ a => a.rst
  | .cho bs => bs.rst
def Bd.rst : Bd → Nat | .nil => 0 | .cons s r => s.rst + r.rst
def Bds.rst : Bds → Nat | .nil => 0 | .cons b r => b.rst + r.rst
end
theorem Bd.rst_eq : ∀ b : Bd, b.rst = (b.toL.map St.rst).sum
  | .nil => rfl
  | .cons s r => by simp [Bd.rst, Bd.toL, Bd.rst_eq r]
theorem Bds.rst_eq : ∀ b : Bds, b.rst = (b.toL.map Bd.rst).sum
  | .nil => rfl
  | .cons s r => by simp [Bds.rst, Bds.toL, Bds.rst_eq r]
theorem rest_ne : ("if" : Str) ≠ "rest" ∧ ("loop" : Str) ≠ "rest" ∧ ("choose" : Str) ≠ "rest" := by decide +kernel
theorem St.rst_bds {s : St} : s.rst = (if s.wd = "rest" then 1 else 0) + (s.bds.map Bd.rst).sum := by
  obtain ⟨n1, n2, n3⟩ := rest_ne
  cases s with
  | sim w ps =>
    show (if w = "rest" then 1 else 0) = (if w = "rest" then 1 else 0) + 0
    rfl
  | ife c a b => simp [St.rst, St.bds, St.wd, n1]
  | lop c a => simp [St.rst, St.bds, St.wd, n2]
  | cho bs => simp [St.rst, St.bds, St.wd, n3, Bds.rst_eq]
theorem sum_cast (l : List Nat) : (l.map fun n : Nat => (n : Int)).sum = ((l.sum : Nat) : Int) := by
  induction l with
  | nil => rfl
  | cons a r ih => simp [ih]
theorem Bd.llen {b : Bd} (h : b.tot ≤ 300000) : b.toL.length ≤ 16000000 := by have := b.len_tot; omega
theorem St.blen {s : St} (h : s.ok) : s.bds.length ≤ 6 := by
  cases s with
  | sim w ps => exact Nat.zero_le _
  | ife c a b => show 2 ≤ 6; omega
  | lop c a => show 1 ≤ 6; omega
  | cho bs => exact h.2.1
theorem tot_ok {g : List D → R TD} {b : Bd} (hb : b.ok) (ht : b.tot ≤ 300000) (h : ∀ c : Bd, c.ok → c.nd + 1 ≤ b.nd → c.tot ≤ b.tot → g [.list c.ds] = .ok (.sh, .int (c.tot : Int))) : totE g [.list b.ds] = .ok (.sh, .int (b.tot : Int)) := by
  refine def_is rfl ?_
  unfold b__law_total
  have lk : (Gam.add G__law_parts "_law_total" g) "_law_total" = some g := if_pos rfl
  have lk2 : (Gam.add G__law_parts "_law_total" g) "_law_parts" = some g__law_parts := rfl
  generalize Gam.add G__law_parts "_law_total" g = Γ at lk lk2
  have ec := e_map (G := Γ) (own := [("_law_statement_here", 1)]) (tg := .nm 1) (src := .lst (.var 0)) (c := .nil) (e := .bin .add (.cst (.int 1)) (.bi .sum (.cons (.cpr [("_law_part", 2)] (.nm 2) (.lst (.call "_law_parts" (.cons (.var 1) .nil))) .nil (.call "_law_total" (.cons (.var 2) .nil))) .nil))) (env := [.sh (.list b.ds), .no, .no]) (t := .sh) (l := b.toL) (w := St.d) (h := fun s => .int (s.tot : Int)) (by simp -implicitDefEqProofs [Bd.ds_eq]) (Bd.llen ht) fun s hs => by
    have sok := Bd.ok_mem hb s hs
    have snd := Bd.nd_mem s hs
    have stt := Bd.tot_mem s hs
    obtain ⟨t, tt, ep⟩ := lparts_ok sok
    have k2 := e_map (G := Γ) (own := [("_law_part", 2)]) (tg := .nm 2) (src := .lst (.call "_law_parts" (.cons (.var 1) .nil))) (c := .nil) (e := .call "_law_total" (.cons (.var 2) .nil)) (env := [.sh (.list b.ds), .sh s.d, .no]) (t := t) (l := s.bds) (w := fun b => .list b.ds) (h := fun c => .int (c.tot : Int)) (by
        rcases tt with rfl | rfl <;> simp -implicitDefEqProofs [lk2, ep]) (by have := St.blen sok; show _ ≤ 16000000; omega) fun c hc => by
      obtain ⟨cok, cnd, ctt⟩ := St.bds_ok sok c hc
      rcases tt with rfl | rfl <;> simp -implicitDefEqProofs [cprItem, wipeE, lk, h c cok (by omega) (by omega)]
    have sm : evBi .sum [(.ow, .list (s.bds.map fun c => .int (c.tot : Int)))] = .ok (.sh, .int (((s.bds.map Bd.tot).sum : Nat) : Int)) := by
      have := sum_map (t := .ow) (s.bds.map fun c => (c.tot : Int))
      rw [show il (s.bds.map fun c => (c.tot : Int)) = .list (s.bds.map fun c => .int (c.tot : Int)) by simp [il]] at this
      rw [this, ← sum_cast, List.map_map]
      rfl
    rw [St.tot_bds]
    simp -implicitDefEqProofs only [frz_nil, cprItem, wipeE, List.map_cons, List.map_nil, List.cons_append, List.nil_append, List.length_cons, List.length_nil, List.replicate, Nat.reduceAdd, Nat.reduceSub, List.set_cons_succ, List.set_cons_zero, nt_sh, bt_nm, x_ta0, b_ok, x_bin, x_cst, cst_int, x_bi, x_nil, x_cons, k2, sm, kid_sh]
    simp -implicitDefEqProofs
  have sm : evBi .sum [(.ow, .list (b.toL.map fun s => .int (s.tot : Int)))] = .ok (.sh, .int (b.tot : Int)) := by
    have := sum_map (t := .ow) (b.toL.map fun c => (c.tot : Int))
    rw [show il (b.toL.map fun c => (c.tot : Int)) = .list (b.toL.map fun c => .int (c.tot : Int)) by simp [il]] at this
    rw [this, Bd.tot_eq, ← sum_cast, List.map_map]
    rfl
  rw [ss_cons]
  simp -implicitDefEqProofs only [y_ret, frz_nil, List.map_cons, List.map_nil, List.length_cons, List.length_nil, List.replicate, List.cons_append, List.nil_append, Nat.reduceAdd, Nat.reduceSub, x_bi, x_nil, x_cons, ec, b_ok, sm]
  simp -implicitDefEqProofs
def rsI (b : Bd) (i : Nat) (e : PV.Env) : Prop := ∃ a2 a3 : Slot, e = [.sh (.list b.ds), .sh (.int (((b.toL.take i).map St.rst).sum : Nat)), a2, a3]
theorem rst_ok {g : List D → R TD} {b : Bd} (hb : b.ok) (ht : b.tot ≤ 300000) (h : ∀ c : Bd, c.ok → c.nd + 1 ≤ b.nd → c.tot ≤ b.tot → g [.list c.ds] = .ok (.sh, .int (c.rst : Int))) : rstE g [.list b.ds] = .ok (.sh, .int (b.rst : Int)) := by
  refine def_is rfl ?_
  unfold b__law_rests
  have lk : (Gam.add G__law_total "_law_rests" g) "_law_rests" = some g := if_pos rfl
  have lk2 : (Gam.add G__law_total "_law_rests" g) "_law_parts" = some g__law_parts := rfl
  generalize Gam.add G__law_total "_law_rests" g = Γ at lk lk2
  rw [ss_cons]; simp -implicitDefEqProofs
  refine s_for (t := .sh) (ds := b.toL.map St.d) (I := rsI b) (by rw [frz_cons]; rfl) (by simp -implicitDefEqProofs [Bd.ds_eq]) rfl ⟨_, _, rfl⟩ ?_ ?_
  · rintro i d e hd ⟨a2, a3, rfl⟩
    rw [List.getElem?_map, Option.map_eq_some_iff] at hd
    obtain ⟨s, hs, rfl⟩ := hd
    have hsm := List.mem_of_getElem? hs
    have sok := Bd.ok_mem hb s hsm
    have snd := Bd.nd_mem s hsm
    have stt := Bd.tot_mem s hsm
    obtain ⟨t, tt, ep⟩ := lparts_ok sok
    have es : ((b.toL.take (i + 1)).map St.rst).sum = ((b.toL.take i).map St.rst).sum + s.rst := by
      rw [List.take_succ, hs]
      simp
    generalize ((b.toL.take i).map St.rst).sum = m at es
    obtain ⟨tl, etl⟩ := s.d_wd
    have k2 := fun z => e_map (G := Γ) (own := [("_law_part", 3)]) (tg := .nm 3) (src := .lst (.call "_law_parts" (.cons (.var 2) .nil))) (c := .nil) (e := .call "_law_rests" (.cons (.var 3) .nil)) (env := [.sh (.list b.ds), .sh (.int m), .sh s.d, z]) (t := t) (l := s.bds) (w := fun b => .list b.ds) (h := fun c => .int (c.rst : Int)) (by
        rcases tt with rfl | rfl <;> simp -implicitDefEqProofs [lk2, ep]) (by have := St.blen sok; show _ ≤ 16000000; omega) fun c hc => by
      obtain ⟨cok, cnd, ctt⟩ := St.bds_ok sok c hc
      rcases tt with rfl | rfl <;> simp -implicitDefEqProofs [cprItem, wipeE, lk, h c cok (by omega) (by omega)]
    have sm : evBi .sum [(.ow, .list (s.bds.map fun c => .int (c.rst : Int)))] = .ok (.sh, .int (((s.bds.map Bd.rst).sum : Nat) : Int)) := by
      have := sum_map (t := .ow) (s.bds.map fun c => (c.rst : Int))
      rw [show il (s.bds.map fun c => (c.rst : Int)) = .list (s.bds.map fun c => .int (c.rst : Int)) by simp [il]] at this
      rw [this, ← sum_cast, List.map_map]
      rfl
    have ix : evIx (.sh, s.d) (.int 0) = .ok (.sh, .str s.wd) := by rw [etl]; exact ixt0
    refine ⟨[.sh (.list b.ds), .sh (.int m), .sh s.d, a3], rfl, ?_⟩
    rw [ss_cons]
    simp -implicitDefEqProofs only [y_asg, frz_nil, x_bin, x_var, x_bi, x_nil, x_cons, x_cmp, x_ix, x_cst, cst_int, cst_str, at_0, at_s, b_ok, k2, sm, ix, eq_strs, isInt_int]
    simp -implicitDefEqProofs
    refine ⟨.sh s.d, a3, ?_⟩
    rw [es, St.rst_bds]
    by_cases q : s.wd = "rest" <;> simp [q] <;> omega
  · rintro _ ⟨a2, a3, rfl⟩
    rw [List.length_map, List.take_length, ← Bd.rst_eq, ss_cons]
    simp -implicitDefEqProofs
theorem tot_all : ∀ (n : Nat) {b : Bd}, b.ok → b.nd < n → b.tot ≤ 300000 → totN n [.list b.ds] = .ok (.sh, .int (b.tot : Int)) ∧ rstN n [.list b.ds] = .ok (.sh, .int (b.rst : Int))
  | 0, _, _, h, _ => absurd h (Nat.not_lt_zero _)
  | n + 1, b, hb, h, ht => by
    rw [totN_succ, rstN_succ]
    exact ⟨tot_ok hb ht fun c cok cnd ctt => (tot_all n (b := c) cok (by omega) (by omega)).1, rst_ok hb ht fun c cok cnd ctt => (tot_all n (b := c) cok (by omega) (by omega)).2⟩
/-- a kind's room -/
def Vr.wd (v : Vr) : Int := v.b - v.a + 1
def Kd.room (k : Kd) : Int := (k.vs.map Vr.wd).foldl (· * ·) ((k.bd.tot : Int) + 2 + (k.bd.rst : Int))
def roI (k : Kd) (i : Nat) (e : PV.Env) : Prop := ∃ a2 : Slot, e = [.sh k.d, .sh (.int (((k.vs.take i).map Vr.wd).foldl (· * ·) ((k.bd.tot : Int) + 2 + (k.bd.rst : Int)))), a2]
theorem room_ok {k : Kd} (h : k.ok) (ht : k.bd.tot ≤ 300000) : g__law_room [k.d] = .ok (.sh, .int k.room) := by
  obtain ⟨q1, q2, q3, q4, q5, q6⟩ := h
  refine def_is rfl ?_
  unfold b__law_room
  have g1 : g__law_total [.list k.bd.ds] = .ok (.sh, .int (k.bd.tot : Int)) := (tot_all 12 q5 (by omega) ht).1
  have g2 : g__law_rests [.list k.bd.ds] = .ok (.sh, .int (k.bd.rst : Int)) := (tot_all 12 q5 (by omega) ht).2
  have j2 : evIx (.sh, k.d) (.int 2) = .ok (.sh, .list (k.vs.map Vr.d)) := ixt2
  have j3 : evIx (.sh, k.d) (.int 3) = .ok (.sh, .list k.bd.ds) := ixt3
  rw [ss_cons]; simp -implicitDefEqProofs [j3, g1, g2]
  refine s_for (t := .sh) (ds := k.vs.map Vr.d) (I := roI k) rfl (by simp -implicitDefEqProofs [j2]) rfl ⟨_, rfl⟩ ?_ ?_
  · rintro i d e hd ⟨a2, rfl⟩
    rw [List.getElem?_map, Option.map_eq_some_iff] at hd
    obtain ⟨v, hv, rfl⟩ := hd
    have vok := q4 v (List.mem_of_getElem? hv)
    obtain ⟨w1, ⟨w2, w3⟩, ⟨w4, w5⟩, w6, w7⟩ := vok
    have es : ((k.vs.take (i + 1)).map Vr.wd).foldl (· * ·) ((k.bd.tot : Int) + 2 + (k.bd.rst : Int)) = ((k.vs.take i).map Vr.wd).foldl (· * ·) ((k.bd.tot : Int) + 2 + (k.bd.rst : Int)) * v.wd := by
      rw [List.take_succ, hv]
      simp
    generalize ((k.vs.take i).map Vr.wd).foldl (· * ·) ((k.bd.tot : Int) + 2 + (k.bd.rst : Int)) = m at es
    have i2 : evIx (.sh, v.d) (.int 2) = .ok (.sh, .int v.b) := ixt2
    have i1 : evIx (.sh, v.d) (.int 1) = .ok (.sh, .int v.a) := ixt1
    refine ⟨[.sh k.d, .sh (.int m), .sh v.d], rfl, ?_⟩
    rw [ss_cons]; simp -implicitDefEqProofs (disch := omega) [i1, i2, mul_r]
    exact ⟨.sh v.d, by rw [es]; rfl⟩
  · rintro _ ⟨a2, rfl⟩
    rw [List.length_map, List.take_length, ss_cons]
    simp -implicitDefEqProofs
    rfl

/-! bodies drawn -/
structure Wk where
  V : List Str
  L : List Str
  B : List Str
  T : List Str
  N : List Str
def Wk.d (w : Wk) : D := .tuple [sl w.V, sl w.L, sl w.B, sl w.T, sl w.N]
def Fnl (l : List Str) : Prop := (∀ s ∈ l, Fine 25 s) ∧ l.length ≤ 1000
structure Wk.ok (w : Wk) : Prop where
  v : Fnl w.V
  l : Fnl w.L
  b : Fnl w.B
  t : Fnl w.T ∧ 0 < w.T.length
  n : Fnl w.N ∧ 0 < w.N.length
def hel (H : List Str) (x : Str) : Bool := H.any fun t => decide (t = x)
def fre (w : Wk) (H : List Str) : List Str := w.L.filter fun x => !hel H x
def qd (d f : Nat) : Nat := 3 * 2 ^ f * 13 ^ d
theorem qd_f {d f : Nat} : qd d (f + 1) = 2 * qd d f := by unfold qd; rw [Nat.pow_succ]; rw [Nat.mul_comm (2 ^ f) 2, ← Nat.mul_assoc 3 2, Nat.mul_comm 3 2, Nat.mul_assoc 2 3, Nat.mul_assoc 2]
theorem qd_d {d f : Nat} : qd (d + 1) f = 13 * qd d f := by unfold qd; rw [Nat.pow_succ, ← Nat.mul_assoc, Nat.mul_comm]
theorem qd_pos {d f : Nat} : 3 ≤ qd d f := by
  unfold qd
  have h1 : 0 < 2 ^ f := Nat.pow_pos (by decide)
  have h2 : 0 < 13 ^ d := Nat.pow_pos (by decide)
  exact Nat.le_trans (Nat.le_mul_of_pos_right 3 h1) (Nat.le_mul_of_pos_right _ h2)
theorem qd_mono {d f g : Nat} (h : f ≤ g) : qd d f ≤ qd d g := by
  induction h with
  | refl => exact Nat.le_refl _
  | step _ ih => rw [qd_f]; omega
theorem nin_strs {n : Nat} {s : Str} {xs : List Str} (h : Fine n s) (hx : ∀ s ∈ xs, PyData.strOk s = true) : evCmp .nin (.str s) (sl xs) = .ok (!hel xs s) := by
  have e := in_strs h hx
  have e1 := (gB_ok (show gB (both (.str s) (sl xs)) ((xs.map PyData.str).any fun z => PyData.eqv z (.str s)) = _ from e))
  show gB (both (.str s) (sl xs)) (!((xs.map PyData.str).any fun z => PyData.eqv z (.str s))) = _
  rw [e1.2]
  have : both (.str s) (sl xs) = true := e1.1
  rw [this]
  rfl
def Bd.app : Bd → Bd → Bd | .nil, y => y | .cons s r, y => .cons s (r.app y)
theorem Bd.app_ds : ∀ {x y : Bd}, (x.app y).ds = x.ds ++ y.ds
  | .nil, y => rfl
  | .cons s r, y => by simp [Bd.app, Bd.ds, Bd.app_ds (x := r)]
theorem Bd.app_ok : ∀ {x y : Bd}, x.ok → y.ok → (x.app y).ok
  | .nil, y, _, h => h
  | .cons s r, y, h, k => ⟨h.1, Bd.app_ok h.2 k⟩
theorem Bd.app_nd {n : Nat} : ∀ {x y : Bd}, x.nd ≤ n → y.nd ≤ n → (x.app y).nd ≤ n
  | .nil, y, _, h => h
  | .cons s r, y, h, k => by
    have h : max s.nd r.nd ≤ n := h
    have := Bd.app_nd (x := r) (y := y) (n := n) (by omega) k
    show max s.nd (r.app y).nd ≤ n
    omega
theorem Bd.app_tot : ∀ {x y : Bd}, (x.app y).tot = x.tot + y.tot
  | .nil, y => by simp [Bd.app, Bd.tot]
  | .cons s r, y => by simp [Bd.app, Bd.tot, Bd.app_tot (x := r)]; omega
theorem Bd.ds_len {b : Bd} : b.ds.length ≤ b.tot := by rw [Bd.ds_eq, List.length_map]; exact b.len_tot
def BodyP (w : Wk) (H : List Str) (d cnt : Nat) (g : List D → R TD) : Prop := ∀ c : Int, ∃ b : Bd, b.ok ∧ b.nd ≤ d ∧ b.tot + 2 * cnt ≤ cnt * qd d (fre w H).length ∧ g [.int c, .int cnt, .int d, w.d, sl H] = .ok (.ow, .list b.ds)
def StmtP (w : Wk) (H : List Str) (d : Nat) (g : List D → R TD) : Prop := ∀ c : Int, ∃ b : Bd, b.ok ∧ b.nd ≤ d ∧ b.tot + 2 ≤ qd d (fre w H).length ∧ g [.int c, .int d, w.d, sl H] = .ok (.ow, .list b.ds)
def NestP (w : Wk) (H : List Str) (d : Nat) (g : List D → R TD) : Prop := ∀ L : List Int, L.length = 5 → (∀ j < 5, 0 ≤ gi L j ∧ gi L j < 1000000000) → ∃ s : St, s.ok ∧ s.nd ≤ d ∧ s.tot + 2 ≤ qd d (fre w H).length ∧ g [il L, .int d, w.d, sl H] = .ok (.sh, s.d)
theorem rep1 {x : D} : ∀ n : Nat, (List.replicate n [x]).flatten = List.replicate n x
  | 0 => rfl
  | n + 1 => by rw [List.replicate_succ, List.flatten_cons, rep1 n, List.replicate_succ]; rfl
def bdI (c : Int) (cnt d : Nat) (W H : D) (L : List Int) (Q : Nat) (i : Nat) (e : PV.Env) : Prop := ∃ (b : Bd) (z : Slot), e = [.sh (.int c), .sh (.int cnt), .sh (.int d), .sh W, .sh H, .ow (il L), .ow (.list b.ds), z] ∧ b.ok ∧ b.nd ≤ d ∧ b.tot + 2 * i ≤ i * Q
theorem body_ok {Γ : Gam} {gs : List D → R TD} {w : Wk} {H : List Str} {d cnt : Nat} (lk1 : Γ "_law_draws" = some g__law_draws) (lk2 : Γ "_law_statement" = some gs) (hs : StmtP w H d gs) (hc : cnt ≤ 10) (hq : qd d (fre w H).length ≤ 40000) : BodyP w H d cnt (evDef Γ 10000 8 5 b__law_body) := fun c => by
  suffices hh : ∃ o e, evDef Γ 10000 8 5 b__law_body [.int c, .int cnt, .int d, w.d, sl H] = .ok (o, e) ∧ o = .ow ∧ ∃ b : Bd, e = .list b.ds ∧ b.ok ∧ b.nd ≤ d ∧ b.tot + 2 * cnt ≤ cnt * qd d (fre w H).length by
    obtain ⟨_, _, e, rfl, b, rfl, q1, q2, q3⟩ := hh
    exact ⟨b, q1, q2, q3, e⟩
  refine def_ret rfl ?_
  unfold b__law_body
  have hQ := qd_pos (d := d) (f := (fre w H).length)
  obtain ⟨Q, eQ⟩ : ∃ Q, Q = qd d (fre w H).length := ⟨_, rfl⟩
  unfold StmtP at hs
  rw [← eQ] at hs hq hQ ⊢
  obtain ⟨L, lL, bL, eL⟩ := draws_ok c (((cnt : Int) + 1) :: List.replicate cnt 1000000000) (fun l hl => by
    rcases List.mem_cons.mp hl with rfl | hl
    · omega
    · rw [List.eq_of_mem_replicate hl]; decide) (by rw [List.length_cons, List.length_replicate]; omega)
  have lL : L.length = cnt + 1 := by rw [lL, List.length_cons, List.length_replicate]
  have b0 : 0 ≤ gi L 0 ∧ gi L 0 < (cnt : Int) + 1 := bL 0 (by rw [List.length_cons]; omega)
  have el : il (((cnt : Int) + 1) :: List.replicate cnt 1000000000) = .list (.int ((cnt : Int) + 1) :: List.replicate cnt (.int 1000000000)) := by simp [il]
  rw [el] at eL
  have rp : evBin .mul (.ow, .list [.int 1000000000]) (.sh, .int (cnt : Int)) = .ok (.ow, .list (List.replicate cnt (.int 1000000000))) := by
    rw [rep_list (by omega) (by omega) (by rw [List.length_singleton]; omega)]
    rw [Int.toNat_natCast, rep1]
  have ct : evBin .add (.ow, .list [.int ((cnt : Int) + 1)]) (.ow, .list (List.replicate cnt (.int 1000000000))) = .ok (.ow, .list (.int ((cnt : Int) + 1) :: List.replicate cnt (.int 1000000000))) := by
    rw [cat_list (by rw [List.length_singleton, List.length_replicate]; show _ ≤ 16000000; omega)]
    rfl
  rw [ss_cons]; simp -implicitDefEqProofs [pow9, frz_cons, rp, ct, lk1, eL]
  rw [ss_cons]; simp -implicitDefEqProofs
  refine s_for (t := .sh) (ds := ranged 0 (gi L 0)) (I := bdI c cnt d w.d (sl H) L Q) rfl (by simp -implicitDefEqProofs (disch := omega) [ixi, small_nat]) rfl ⟨.nil, _, rfl, trivial, Nat.zero_le _, by simp [Bd.tot]⟩ ?_ ?_
  · rintro i dd e hd ⟨b, z, rfl, k1, k2, k3⟩
    have hi : i < (gi L 0).toNat := by have := (List.getElem?_eq_some_iff.mp hd).1; rwa [ranged_len, Int.sub_zero] at this
    rw [ranged_get (by omega)] at hd
    obtain rfl := Option.some.inj hd
    obtain ⟨b2, p1, p2, p3, p4⟩ := hs (gi L (1 + i))
    have bt : b.tot ≤ 400000 := Nat.le_trans (Nat.le_trans (Nat.le_add_right _ _) k3) (Nat.le_trans (Nat.mul_le_mul (show i ≤ 10 by omega) hq) (by decide))
    have ct2 : evBin .add (.rt, .list b.ds) (.ow, .list b2.ds) = .ok (.ow, .list (b.app b2).ds) := by
      rw [cat_list (by
        have h1 := Bd.ds_len (b := b)
        have h2 := Bd.ds_len (b := b2)
        show _ ≤ 16000000
        omega), Bd.app_ds]
      rfl
    have ei : ((1 : Int) + (i : Int)).toNat = 1 + i := by omega
    refine ⟨_, by simp -implicitDefEqProofs; rfl, ?_⟩
    have ix : evIx (.rt, il L) (.int (1 + (0 + (i : Int)))) = .ok (.sh, .int (gi L (1 + i))) := by
      rw [ixi (by omega) (by omega)]
      congr 3
      congr 1
      omega
    have ix2 : evIx (.rt, il L) (.int (1 + (i : Int))) = .ok (.sh, .int (gi L (1 + i))) := by
      rw [ixi (by omega) (by omega), ei]
    rw [ss_cons]; simp -implicitDefEqProofs [frz_cons, ix, ix2, lk2, p4, ct2]
    refine ⟨b.app b2, _, rfl, Bd.app_ok k1 p1, Bd.app_nd k2 p2, ?_⟩
    have e : (i + 1) * Q = i * Q + Q := Nat.succ_mul i Q
    rw [Bd.app_tot, e]
    omega
  · rintro _ ⟨b, z, rfl, k1, k2, k3⟩
    rw [ranged_len, Int.sub_zero] at k3
    rw [ss_cons]; simp -implicitDefEqProofs
    refine ⟨b, rfl, k1, k2, ?_⟩
    have hm : (gi L 0).toNat ≤ cnt := by omega
    generalize (gi L 0).toNat = m at k3 hm
    obtain ⟨x, rfl⟩ : ∃ x, cnt = m + x := ⟨cnt - m, by omega⟩
    rw [Nat.add_mul]
    have : x * 2 ≤ x * Q := Nat.mul_le_mul_left _ (by omega)
    omega

/-! statements drawn -/
theorem w_ok : ∀ w ∈ (["set", "acquire", "release", "rest", "wake", "start", "check", "await", "mark", "skip"] : List Str), (PyData.strOk w = true ∧ w.length ≤ 25) ∧ w ≠ "if" ∧ w ≠ "loop" ∧ w ≠ "choose" := by decide +kernel
theorem sim_ok {w : Str} {ps : List Pw} (hw : w ∈ (["set", "acquire", "release", "rest", "wake", "start", "check", "await", "mark", "skip"] : List Str)) (hl : ps.length ≤ 2) (h : ∀ p ∈ ps, p.fin) : (St.sim w ps).ok := ⟨(w_ok w hw).1, (w_ok w hw).2, hl, h⟩
theorem sim1 {w : Str} {ps : List Pw} {Q d : Nat} (hw : w ∈ (["set", "acquire", "release", "rest", "wake", "start", "check", "await", "mark", "skip"] : List Str)) (hl : ps.length ≤ 2) (h : ∀ p ∈ ps, p.fin) (hQ : 3 ≤ Q) {e : List D} (he : e = [.tuple (.str w :: ps.map Pw.d)]) : ∃ b : Bd, e = b.ds ∧ b.ok ∧ b.nd ≤ d ∧ b.tot + 2 ≤ Q :=
  ⟨.cons (.sim w ps) .nil, he, ⟨sim_ok hw hl h, trivial⟩, Nat.zero_le _, hQ⟩
def stI (c : Int) (d : Nat) (W H : D) (L : List Int) (F : D) (e : PV.Env) : Prop := ∃ z : Slot, e = [.sh (.int c), .sh (.int d), .sh W, .sh H, .ow (il L), .sh (.int (gi L 0)), .ow F, z]
theorem fre_snoc {w : Wk} {H : List Str} {x : Str} (hx : x ∈ fre w H) : (fre w (H ++ [x])).length + 1 ≤ (fre w H).length := by
  have e : fre w (H ++ [x]) = (fre w H).filter fun y => decide (x ≠ y) := by
    unfold fre
    rw [List.filter_filter]
    congr 1
    funext y
    unfold hel
    rw [List.any_append]
    by_cases q : x = y <;> simp [q]
  rw [e]
  have : ((fre w H).filter fun y => decide (x ≠ y)).length < (fre w H).length := by
    rw [List.length_filter_lt_length_iff_exists]
    exact ⟨x, hx, by simp⟩
  omega
theorem stmt_ok {Γ : Gam} {gb gn : List D → R TD} {w : Wk} {H : List Str} {d : Nat} (hw : w.ok) (hH : ∀ s ∈ H, Fine 25 s) (hHl : H.length ≤ 1000) (lk1 : Γ "_law_draws" = some g__law_draws) (lk2 : Γ "_law_value" = some g__law_value) (lk3 : Γ "_law_condition" = some g__law_condition)
    (lk4 : Γ "_law_body" = some gb) (lk5 : Γ "_law_nested" = some gn) (hb : ∀ x ∈ fre w H, BodyP w (H ++ [x]) d 2 gb) (hn : 0 < d → NestP w H d gn) (hq : qd d (fre w H).length ≤ 40000) : StmtP w H d (evDef Γ 10000 8 4 b__law_statement) := fun c => by
  suffices hh : ∃ o e, evDef Γ 10000 8 4 b__law_statement [.int c, .int d, w.d, sl H] = .ok (o, e) ∧ o = .ow ∧ ∃ b : Bd, e = .list b.ds ∧ b.ok ∧ b.nd ≤ d ∧ b.tot + 2 ≤ qd d (fre w H).length by
    obtain ⟨_, _, e, rfl, b, rfl, q1, q2, q3⟩ := hh
    exact ⟨b, q1, q2, q3, e⟩
  refine def_ret rfl ?_
  unfold b__law_statement
  have hQ := qd_pos (d := d) (f := (fre w H).length)
  obtain ⟨⟨vF, vL⟩, ⟨lF, lL'⟩, ⟨bF, bL'⟩, ⟨⟨tF, tL⟩, t0⟩, ⟨nF, nL⟩, n0⟩ := hw
  obtain ⟨L, lL, bL, eL⟩ := draws_ok c [18, 60, 1000000000, 1000000000, 1000000000] (by decide) (by decide)
  have lL : L.length = 5 := lL
  have b0 : 0 ≤ gi L 0 ∧ gi L 0 < 18 := bL 0 (by decide)
  have b1 : 0 ≤ gi L 1 ∧ gi L 1 < 60 := bL 1 (by decide)
  have b2 : 0 ≤ gi L 2 ∧ gi L 2 < 1000000000 := bL 2 (by decide)
  have b3 : 0 ≤ gi L 3 ∧ gi L 3 < 1000000000 := bL 3 (by decide)
  have b4 : 0 ≤ gi L 4 ∧ gi L 4 < 1000000000 := bL 4 (by decide)
  simp only [il, List.map_cons, List.map_nil] at eL
  have j0 : evIx (.sh, w.d) (.int 0) = .ok (.sh, sl w.V) := ixt0
  have j1 : evIx (.sh, w.d) (.int 1) = .ok (.sh, sl w.L) := ixt1
  have j2 : evIx (.sh, w.d) (.int 2) = .ok (.sh, sl w.B) := ixt2
  have j3 : evIx (.sh, w.d) (.int 3) = .ok (.sh, sl w.T) := ixt3
  have j4 : evIx (.sh, w.d) (.int 4) = .ok (.sh, sl w.N) := by
    show evIx (.sh, .tuple [sl w.V, sl w.L, sl w.B, sl w.T, sl w.N]) (.int 4) = _
    simp [evIx, L2.atI, L2.ixN]
  have i0 : ∀ t, evIx (t, il L) (.int 0) = .ok (.sh, .int (gi L 0)) := fun t => ixi (by omega) (by omega)
  have i1 : ∀ t, evIx (t, il L) (.int 1) = .ok (.sh, .int (gi L 1)) := fun t => ixi (by omega) (by omega)
  have i2 : ∀ t, evIx (t, il L) (.int 2) = .ok (.sh, .int (gi L 2)) := fun t => ixi (by omega) (by omega)
  have pick : ∀ (X : List Str) (t : Tag), 0 < X.length → evBin .mod (.sh, .int (gi L 1)) (.sh, .int (X.length : Int)) = .ok (.sh, .int (gi L 1 % (X.length : Int))) ∧ evIx (t, sl X) (.int (gi L 1 % (X.length : Int))) = .ok (.sh, .str (gs X (gi L 1 % (X.length : Int)).toNat)) ∧ gs X (gi L 1 % (X.length : Int)).toNat ∈ X := fun X t hX => by
    have m1 : 0 ≤ gi L 1 % (X.length : Int) ∧ gi L 1 % (X.length : Int) < X.length := ⟨Int.emod_nonneg _ (by omega), Int.emod_lt_of_pos _ (by omega)⟩
    exact ⟨mod_int (by omega), ixz m1.1 m1.2, gs_mem (by omega)⟩
  rw [ss_cons]; simp -implicitDefEqProofs [pow9, frz_cons, lk1, eL]
  rw [ss_cons]; simp -implicitDefEqProofs [i0]
  refine s_step (J := stI c d w.d (sl H) L (sl (fre w H))) ?_ ?_
  · rw [y_asg, frz_nil, e_filter (t := .sh) (l := w.L) (w := .str) (h := .str) (p := fun x => !hel H x) (by simp -implicitDefEqProofs [j1]) (by show _ ≤ 16000000; omega) (fun x hx => by
      have := nin_strs (lF x hx) (xs := H) fun s hs => (hH s hs).1
      cases q : hel H x <;> rw [q] at this <;> simp -implicitDefEqProofs [cprItem, wipeE, this])]
    exact ⟨⟨_, rfl⟩⟩
  rintro _ ⟨z, rfl⟩
  have fmem : ∀ x ∈ fre w H, x ∈ w.L := fun x hx => (List.mem_filter.mp hx).1
  have fl : (fre w H).length ≤ 1000 := Nat.le_trans (List.length_filter_le _ _) lL'
  have hfs := fun x (hx : x ∈ fre w H) => fre_snoc (H := H) hx
  obtain ⟨F, eF⟩ : ∃ F, F = fre w H := ⟨_, rfl⟩
  rw [← eF] at hq hQ fmem fl hfs hb ⊢
  refine s_if (t := decide (gi L 0 < 4) && decide (0 < (w.V.length : Int))) (by by_cases q : gi L 0 < 4 <;> by_cases q2 : 0 < w.V.length <;> simp -implicitDefEqProofs [q, q2, j0]) (fun c1 => ?_) fun c1 => ?_
  · rw [Bool.and_eq_true, decide_eq_true_eq, decide_eq_true_eq] at c1
    have h0 : 0 < w.V.length := by omega
    obtain ⟨p1, p2, p3⟩ := pick w.V .sh h0
    obtain ⟨t, a1, a2, a3⟩ := value_gen w.V (by omega) 12 (gi L 2) 2 (by omega) (by omega)
    have a3 : g__law_value [.int (gi L 2), sl w.V, .int 2] = .ok (.sh, t.d) := a3
    rw [List.cons_append, ss_cons]; simp -implicitDefEqProofs [j0, i1, i2, p1, p2, lk2, a3]
    refine sim1 (w := "set") (ps := [.n _, .v t]) (by simp) (Nat.le_refl 2) (fun p hp => ?_) hQ rfl
    simp only [List.mem_cons, List.not_mem_nil, or_false] at hp
    rcases hp with rfl | rfl
    · exact vF _ p3
    · exact ⟨Va.infin vF a2, by omega⟩
  rw [List.nil_append]
  refine s_if (t := decide (gi L 0 < 7) && decide (0 < (F.length : Int))) (by by_cases q : gi L 0 < 7 <;> by_cases q2 : 0 < F.length <;> simp -implicitDefEqProofs [q, q2]) (fun c2 => ?_) fun c2 => ?_
  · rw [Bool.and_eq_true, decide_eq_true_eq, decide_eq_true_eq] at c2
    have h0 : 0 < F.length := by omega
    obtain ⟨p1, p2, p3⟩ := pick F .rt h0
    generalize gs F (gi L 1 % (F.length : Int)).toNat = x at p2 p3
    obtain ⟨b, k1, k2, k3, k4⟩ := hb x p3 (gi L 2)
    have hf := hfs x p3
    have qm := qd_mono (d := d) (f := (fre w (H ++ [x])).length + 1) hf
    rw [qd_f] at qm
    have bl := Bd.ds_len (b := b)
    have ch : evBin .add (.sh, sl H) (.ow, .list [.str x]) = .ok (.ow, sl (H ++ [x])) := cat_sl (ys := [x]) rfl (by rw [List.length_singleton]; omega)
    have ca : evBin .add (.ow, .list [.tuple [.str "acquire", .str x]]) (.ow, .list b.ds) = .ok (.ow, .list (.tuple [.str "acquire", .str x] :: b.ds)) := by
      rw [cat_list (by rw [List.length_singleton]; show _ ≤ 16000000; omega)]
      rfl
    have cr : evBin .add (.ow, .list (.tuple [.str "acquire", .str x] :: b.ds)) (.ow, .list [.tuple [.str "release", .str x]]) = .ok (.ow, .list (.tuple [.str "acquire", .str x] :: b.ds ++ [.tuple [.str "release", .str x]])) := by
      rw [cat_list (by rw [List.length_singleton, List.length_cons]; show _ ≤ 16000000; omega)]
      rfl
    have k4 : gb [.int (gi L 2), .int 2, .int d, w.d, sl (H ++ [x])] = .ok (.ow, .list b.ds) := k4
    rw [List.cons_append, ss_cons]; simp -implicitDefEqProofs [i1, p1, p2]
    rw [ss_cons]; simp -implicitDefEqProofs [frz_cons, i2, lk4, ch, k4, ca, cr]
    refine ⟨.cons (.sim "acquire" [.n x]) (b.app (.cons (.sim "release" [.n x]) .nil)), ?_, ?_, ?_, ?_⟩
    · simp only [Bd.ds, Bd.app_ds]
      rfl
    · have f1 : ∀ p ∈ [Pw.n x], p.fin := fun p hp => by rw [List.mem_singleton.mp hp]; exact lF x (fmem x p3)
      exact ⟨sim_ok (by simp) (by show 1 ≤ 2; omega) f1, Bd.app_ok k1 ⟨sim_ok (by simp) (by show 1 ≤ 2; omega) f1, trivial⟩⟩
    · have := Bd.app_nd (x := b) (y := .cons (.sim "release" [.n x]) .nil) k2 (Nat.zero_le d)
      show max 0 _ ≤ d
      omega
    · show 1 + (b.app (.cons (.sim "release" [.n x]) .nil)).tot + 2 ≤ _
      rw [Bd.app_tot]
      show 1 + (b.tot + 1) + 2 ≤ _
      omega
  rw [List.nil_append]
  refine s_if (t := decide (gi L 0 = 7) && (decide (0 < (w.B.length : Int)) && decide ((H.length : Int) = 0))) (by by_cases q : gi L 0 = 7 <;> by_cases q2 : 0 < w.B.length <;> by_cases q3 : H.length = 0 <;> simp -implicitDefEqProofs [q, q2, q3, j2]) (fun c3 => ?_) fun c3 => ?_
  · rw [Bool.and_eq_true, Bool.and_eq_true, decide_eq_true_eq, decide_eq_true_eq] at c3
    obtain ⟨p1, p2, p3⟩ := pick w.B .sh (by omega)
    rw [List.cons_append, ss_cons]; simp -implicitDefEqProofs [j2, i1, p1, p2]
    refine sim1 (w := "rest") (ps := [.n _]) (by simp) (by show 1 ≤ 2; omega) (fun p hp => ?_) hQ rfl
    rw [List.mem_singleton.mp hp]
    exact bF _ p3
  rw [List.nil_append]
  refine s_if (t := decide (gi L 0 = 8) && decide (0 < (w.B.length : Int))) (by by_cases q : gi L 0 = 8 <;> by_cases q2 : 0 < w.B.length <;> simp -implicitDefEqProofs [q, q2, j2]) (fun c4 => ?_) fun c4 => ?_
  · rw [Bool.and_eq_true, decide_eq_true_eq, decide_eq_true_eq] at c4
    obtain ⟨p1, p2, p3⟩ := pick w.B .sh (by omega)
    rw [List.cons_append, ss_cons]; simp -implicitDefEqProofs [j2, i1, p1, p2]
    refine sim1 (w := "wake") (ps := [.n _]) (by simp) (by show 1 ≤ 2; omega) (fun p hp => ?_) hQ rfl
    rw [List.mem_singleton.mp hp]
    exact bF _ p3
  rw [List.nil_append]
  refine s_if (t := decide (gi L 0 = 9)) (by simp -implicitDefEqProofs) (fun c5 => ?_) fun c5 => ?_
  · obtain ⟨p1, p2, p3⟩ := pick w.T .sh t0
    rw [List.cons_append, ss_cons]; simp -implicitDefEqProofs [j3, i1, p1, p2]
    refine sim1 (w := "start") (ps := [.n _]) (by simp) (by show 1 ≤ 2; omega) (fun p hp => ?_) hQ rfl
    rw [List.mem_singleton.mp hp]
    exact tF _ p3
  rw [List.nil_append]
  obtain ⟨t, a1, a2, a3⟩ := cond_gen w.V (by omega) 12 (gi L 2) 2 (by omega) (by omega)
  have a3 : g__law_condition [.int (gi L 2), sl w.V, .int 2] = .ok (.sh, t.d) := a3
  have tf : (Pw.c t).fin := ⟨Co.infin vF a2, by omega⟩
  refine s_if (t := decide (gi L 0 = 10)) (by simp -implicitDefEqProofs) (fun c6 => ?_) fun c6 => ?_
  · rw [List.cons_append, ss_cons]; simp -implicitDefEqProofs [j0, i2, lk3, a3]
    refine sim1 (w := "check") (ps := [.c t]) (by simp) (by show 1 ≤ 2; omega) (fun p hp => ?_) hQ rfl
    rw [List.mem_singleton.mp hp]
    exact tf
  rw [List.nil_append]
  refine s_if (t := decide (gi L 0 = 11)) (by simp -implicitDefEqProofs) (fun c7 => ?_) fun c7 => ?_
  · rw [List.cons_append, ss_cons]; simp -implicitDefEqProofs [j0, i2, lk3, a3]
    refine sim1 (w := "await") (ps := [.c t]) (by simp) (by show 1 ≤ 2; omega) (fun p hp => ?_) hQ rfl
    rw [List.mem_singleton.mp hp]
    exact tf
  rw [List.nil_append]
  refine s_if (t := decide (gi L 0 = 12)) (by simp -implicitDefEqProofs) (fun c8 => ?_) fun c8 => ?_
  · obtain ⟨p1, p2, p3⟩ := pick w.N .sh n0
    rw [List.cons_append, ss_cons]; simp -implicitDefEqProofs [j4, i1, p1, p2]
    refine sim1 (w := "mark") (ps := [.n _]) (by simp) (by show 1 ≤ 2; omega) (fun p hp => ?_) hQ rfl
    rw [List.mem_singleton.mp hp]
    exact nF _ p3
  rw [List.nil_append]
  refine s_if (t := decide (13 < gi L 0) && decide (0 < (d : Int))) (by by_cases q : 13 < gi L 0 <;> by_cases q2 : 0 < d <;> simp -implicitDefEqProofs [q, q2]) (fun c9 => ?_) fun c9 => ?_
  · rw [Bool.and_eq_true, decide_eq_true_eq, decide_eq_true_eq] at c9
    obtain ⟨s, k1, k2, k3, k4⟩ := hn (by omega) L lL (fun j hj => by
      match j, hj with
      | 0, _ => omega
      | 1, _ => omega
      | 2, _ => exact b2
      | 3, _ => exact b3
      | 4, _ => exact b4)
    rw [← eF] at k3
    rw [List.cons_append, ss_cons]; simp -implicitDefEqProofs [frz_cons, lk5, k4]
    refine ⟨.cons s .nil, rfl, ⟨k1, trivial⟩, ?_, ?_⟩
    · show max s.nd 0 ≤ d
      omega
    · show s.tot + 0 + 2 ≤ _
      omega
  rw [List.nil_append, ss_cons]; simp -implicitDefEqProofs
  exact sim1 (w := "skip") (ps := []) (by simp) (Nat.zero_le _) (fun p hp => nomatch hp) hQ rfl

/-! nested statements drawn -/
theorem Bds.nd_le {d : Nat} : ∀ {l : List Bd}, (∀ b ∈ l, b.nd ≤ d) → (Bds.ofL l).nd ≤ d
  | [], _ => Nat.zero_le _
  | b :: r, h => by
    have h1 := h b List.mem_cons_self
    have h2 := Bds.nd_le (l := r) fun x hx => h x (List.mem_cons_of_mem _ hx)
    show max b.nd (Bds.ofL r).nd ≤ d
    omega
theorem Bds.tot_le {q : Nat} : ∀ {l : List Bd}, (∀ b ∈ l, b.tot + 4 ≤ 2 * q) → (Bds.ofL l).tot + 4 * l.length ≤ l.length * (2 * q)
  | [], _ => by simp [Bds.ofL, Bds.tot]
  | b :: r, h => by
    have h1 := h b List.mem_cons_self
    have h2 := Bds.tot_le (l := r) fun x hx => h x (List.mem_cons_of_mem _ hx)
    show b.tot + (Bds.ofL r).tot + 4 * (r.length + 1) ≤ (r.length + 1) * (2 * q)
    have e : (r.length + 1) * (2 * q) = r.length * (2 * q) + 2 * q := Nat.succ_mul _ _
    omega
theorem nest_ok {Γ : Gam} {gb : List D → R TD} {w : Wk} {H : List Str} {d : Nat} (hw : w.ok) (lk3 : Γ "_law_condition" = some g__law_condition)
    (lk4 : Γ "_law_body" = some gb) (hb : BodyP w H d 2 gb) (hq : qd d (fre w H).length ≤ 40000) : NestP w H (d + 1) (evDef Γ 10000 8 4 b__law_nested) := fun L lL bL => by
  suffices hh : ∃ o e, evDef Γ 10000 8 4 b__law_nested [il L, .int ((d + 1 : Nat) : Int), w.d, sl H] = .ok (o, e) ∧ o = .sh ∧ ∃ s : St, e = s.d ∧ s.ok ∧ s.nd ≤ d + 1 ∧ s.tot + 2 ≤ qd (d + 1) (fre w H).length by
    obtain ⟨_, _, e, rfl, s, rfl, q1, q2, q3⟩ := hh
    exact ⟨s, q1, q2, q3, e⟩
  refine def_ret rfl ?_
  unfold b__law_nested
  have hQ := qd_pos (d := d) (f := (fre w H).length)
  obtain ⟨⟨vF, vL⟩, -, -, -, -⟩ := hw
  have j0 : evIx (.sh, w.d) (.int 0) = .ok (.sh, sl w.V) := ixt0
  have i0 : evIx (.sh, il L) (.int 0) = .ok (.sh, .int (gi L 0)) := ixi (by omega) (by omega)
  have i1 : evIx (.sh, il L) (.int 1) = .ok (.sh, .int (gi L 1)) := ixi (by omega) (by omega)
  have i2 : evIx (.sh, il L) (.int 2) = .ok (.sh, .int (gi L 2)) := ixi (by omega) (by omega)
  have i3 : evIx (.sh, il L) (.int 3) = .ok (.sh, .int (gi L 3)) := ixi (by omega) (by omega)
  have i4 : evIx (.sh, il L) (.int 4) = .ok (.sh, .int (gi L 4)) := ixi (by omega) (by omega)
  obtain ⟨t, a1, a2, a3⟩ := cond_gen w.V (by omega) 12 (gi L 2) 2 (by omega) (by omega)
  have a3 : g__law_condition [.int (gi L 2), sl w.V, .int 2] = .ok (.sh, t.d) := a3
  have tf : t.fin ∧ t.dep ≤ 4 := ⟨Co.infin vF a2, by omega⟩
  obtain ⟨x, x1, x2, x3, x4⟩ := hb (gi L 3)
  obtain ⟨y, y1, y2, y3, y4⟩ := hb (gi L 4)
  have x4 : gb [.int (gi L 3), .int 2, .int d, w.d, sl H] = .ok (.ow, .list x.ds) := x4
  have y4 : gb [.int (gi L 4), .int 2, .int d, w.d, sl H] = .ok (.ow, .list y.ds) := y4
  obtain ⟨f, hfa⟩ : ∃ f : Int → Bd, ∀ c : Int, (f c).ok ∧ (f c).nd ≤ d ∧ (f c).tot + 4 ≤ 2 * qd d (fre w H).length ∧ gb [.int c, .int 2, .int d, w.d, sl H] = .ok (.ow, .list (f c).ds) := ⟨fun c => Classical.choose (hb c), fun c => Classical.choose_spec (hb c)⟩
  have hf : ∀ c : Int, gb [.int c, .int 2, .int d, w.d, sl H] = .ok (.ow, .list (f c).ds) := fun c => (hfa c).2.2.2
  clear hb
  rw [qd_d]
  generalize qd d (fre w H).length = q at *
  have ed : (((d + 1 : Nat) : Int) - 1) = (d : Int) := by omega
  rw [ss_cons]; simp -implicitDefEqProofs only [List.map_cons, List.map_nil, List.length_cons, List.length_nil, List.replicate, List.cons_append, List.nil_append, Nat.reduceAdd, Nat.reduceSub]
  simp -implicitDefEqProofs [j0, i2, lk3, a3]
  have ed2 : ((d : Int) + 1 - 1) = (d : Int) := by omega
  rw [ss_cons]; simp -implicitDefEqProofs [frz_cons, i3, lk4, ed2, x4]
  refine s_if (t := decide (gi L 0 = 14)) (by simp -implicitDefEqProofs [i0]) (fun c1 => ?_) fun c1 => ?_
  · rw [List.cons_append, ss_cons]; simp -implicitDefEqProofs [frz_cons, i4, lk4, ed2, y4]
    refine ⟨.ife t x y, rfl, ⟨tf.1, tf.2, x1, y1⟩, ?_, ?_⟩
    · show max x.nd y.nd + 1 ≤ d + 1
      omega
    · show 1 + (x.tot + y.tot) + 2 ≤ _
      omega
  rw [List.nil_append]
  refine s_if (t := decide (gi L 0 = 15)) (by simp -implicitDefEqProofs [i0]) (fun c2 => ?_) fun c2 => ?_
  · rw [List.cons_append, ss_cons]; simp -implicitDefEqProofs [frz_cons]
    refine ⟨.lop t x, rfl, ⟨tf.1, tf.2, x1⟩, ?_, ?_⟩
    · show x.nd + 1 ≤ d + 1
      omega
    · show 1 + x.tot + 2 ≤ _
      omega
  rw [List.nil_append]
  have m6 : 0 ≤ gi L 1 % 6 ∧ gi L 1 % 6 < 6 := ⟨Int.emod_nonneg _ (by decide), Int.emod_lt_of_pos _ (by decide)⟩
  have e8 : evIx (.ow, .list [.int 1, .int 1, .int 2, .int 2, .int 3, .int 6]) (.int (gi L 1 % 6)) = .ok (.sh, .int (gi [1, 1, 2, 2, 3, 6] (gi L 1 % 6).toNat)) := ixi (ns := [1, 1, 2, 2, 3, 6]) m6.1 m6.2
  have s8 : 1 ≤ gi [1, 1, 2, 2, 3, 6] (gi L 1 % 6).toNat ∧ gi [1, 1, 2, 2, 3, 6] (gi L 1 % 6).toNat ≤ 6 := by
    have : ∀ n : Nat, n < 6 → 1 ≤ gi [1, 1, 2, 2, 3, 6] n ∧ gi [1, 1, 2, 2, 3, 6] n ≤ 6 := by decide +kernel
    exact this _ (by omega)
  generalize gi [1, 1, 2, 2, 3, 6] (gi L 1 % 6).toNat = m at s8 e8
  have em : evBin .mod (.sh, .int (gi L 1)) (.sh, .int 6) = .ok (.sh, .int (gi L 1 % 6)) := mod_int (by decide)
  obtain ⟨bl, ebl⟩ : ∃ bl : List Bd, bl = (List.range m.toNat).map fun k : Nat => f (gi L 3 + (k : Int)) := ⟨_, rfl⟩
  have bll : bl.length = m.toNat := by rw [ebl, List.length_map, List.length_range]
  have hbm : ∀ b ∈ bl, b.ok ∧ b.nd ≤ d ∧ b.tot + 4 ≤ 2 * q := fun b hbb => by
    rw [ebl] at hbb
    obtain ⟨k, _, rfl⟩ := List.mem_map.mp hbb
    exact ⟨(hfa _).1, (hfa _).2.1, (hfa _).2.2.1⟩
  have ec : ∀ z7 : Slot, ev Γ (.cpr [("_law_k", 7)] (.nm 7) (.rg1 (.ix (.lst (.cons (.cst (.int 1)) (.cons (.cst (.int 1)) (.cons (.cst (.int 2)) (.cons (.cst (.int 2)) (.cons (.cst (.int 3)) (.cons (.cst (.int 6)) .nil))))))) (.bin .mod (.bi .int (.cons (.ix (.var 0) (.cst (.int 1))) .nil)) (.cst (.int 6))))) .nil (.call "_law_body" (.cons (.bin .add (.ix (.var 0) (.cst (.int 3))) (.var 7)) (.cons (.cst (.int 2)) (.cons (.bin .sub (.var 1) (.cst (.int 1))) (.cons (.var 2) (.cons (.var 3) .nil)))))))
      [.sh (il L), .sh (.int ((d : Int) + 1)), .sh w.d, .sh (sl H), .sh t.d, .ow (.list x.ds), .no, z7] = .ok (.ow, .list (bl.map fun b => .list b.ds)) := fun z7 => by
    rw [e_rng (j := m) (u := .sh) (h := fun k : Nat => .list (f (gi L 3 + (k : Int))).ds) (by simp -implicitDefEqProofs [i1, em, e8]) (by omega) (by omega) (fun k hk => by
      have := hf (gi L 3 + (k : Int))
      simp -implicitDefEqProofs [cprItem, wipeE, i3, lk4, ed2, this]), ebl, List.map_map]
    rfl
  refine s_step (J := fun e => e = [.sh (il L), .sh (.int ((d : Int) + 1)), .sh w.d, .sh (sl H), .sh t.d, .ow (.list x.ds), .ow (.list (bl.map fun b => .list b.ds)), .no]) ?_ ?_
  · rw [y_asg]
    simp -implicitDefEqProofs only [frz_cons, frz_nil, at_0, at_s]
    rw [ec]
    exact ⟨rfl⟩
  rintro _ rfl
  rw [ss_cons]; simp -implicitDefEqProofs [frz_cons]
  have tl := Bds.tot_le (q := q) (l := bl) fun b hb => (hbm b hb).2.2
  have nl := Bds.nd_le (d := d) (l := bl) fun b hb => (hbm b hb).2.1
  refine ⟨.cho (Bds.ofL bl), ?_, ⟨?_, ?_, Bds.ok_of fun b hb => (hbm b hb).1⟩, ?_, ?_⟩
  · show PyData.tuple [.str "choose", .list (bl.map fun b => .list b.ds)] = .tuple [.str "choose", .list (Bds.ofL bl).ds]
    rw [Bds.ds_eq, Bds.toL_of]
  · rw [Bds.toL_of, bll]; omega
  · rw [Bds.toL_of, bll]; omega
  · show (Bds.ofL bl).nd + 1 ≤ d + 1
    omega
  · show 1 + (Bds.ofL bl).tot + 2 ≤ _
    have : bl.length * (2 * q) ≤ 6 * (2 * q) := Nat.mul_le_mul_right _ (by omega)
    omega
theorem all_gen {w : Wk} (hw : w.ok) : ∀ n : Nat, (∀ d H cnt, 2 + 2 * (fre w H).length + 3 * d ≤ n → (∀ s ∈ H, Fine 25 s) → H.length + (fre w H).length ≤ 1000 → qd d (fre w H).length ≤ 40000 → cnt ≤ 10 → ∃ g, gm__law_body n "_law_body" = some g ∧ BodyP w H d cnt g) ∧
    (∀ d H, 1 + 2 * (fre w H).length + 3 * d ≤ n → (∀ s ∈ H, Fine 25 s) → H.length + (fre w H).length ≤ 1000 → qd d (fre w H).length ≤ 40000 → ∃ g, gm__law_body n "_law_statement" = some g ∧ StmtP w H d g) ∧
    (∀ d H, 3 * (d + 1) + 2 * (fre w H).length ≤ n → (∀ s ∈ H, Fine 25 s) → H.length + (fre w H).length ≤ 1000 → qd (d + 1) (fre w H).length ≤ 40000 → ∃ g, gm__law_body n "_law_nested" = some g ∧ NestP w H (d + 1) g)
  | 0 => ⟨fun d H cnt h => absurd h (by omega), fun d H h => absurd h (by omega), fun d H h => absurd h (by omega)⟩
  | n + 1 => by
    obtain ⟨ih1, ih2, ih3⟩ := all_gen hw n
    refine ⟨fun d H cnt h hH hl hq hc => ?_, fun d H h hH hl hq => ?_, fun d H h hH hl hq => ?_⟩
    · obtain ⟨gs, e1, e2⟩ := ih2 d H (by omega) hH hl hq
      exact ⟨_, lkm__law_body n, body_ok (lko__law_body__law_draws n) e1 e2 hc hq⟩
    · refine ⟨_, lkm__law_statement n, ?_⟩
      have n0 : n ≠ 0 ∨ (fre w H).length = 0 ∧ d = 0 := by omega
      have hbx : ∃ gb, gm__law_body n "_law_body" = some gb ∧ ∀ x ∈ fre w H, BodyP w (H ++ [x]) d 2 gb := by
        cases n with
        | zero =>
          refine ⟨_, rfl, fun x hx => ?_⟩
          have := List.length_pos_of_mem hx
          omega
        | succ m =>
          refine ⟨_, lkm__law_body m, fun x hx => ?_⟩
          have hf := fre_snoc hx
          have hx2 := hw.l.1 x (List.mem_filter.mp hx).1
          obtain ⟨g, e1, e2⟩ := ih1 d (H ++ [x]) 2 (by omega) (fun s hs => by
            rcases List.mem_append.mp hs with hs | hs
            · exact hH s hs
            · rw [List.mem_singleton.mp hs]; exact hx2) (by rw [List.length_append, List.length_singleton]; omega) (Nat.le_trans (qd_mono (by omega)) hq) (by decide)
          rw [lkm__law_body] at e1
          obtain rfl := Option.some.inj e1
          exact e2
      have hnx : ∃ gn, gm__law_body n "_law_nested" = some gn ∧ (0 < d → NestP w H d gn) := by
        cases n with
        | zero => exact ⟨_, rfl, fun hd => by omega⟩
        | succ m =>
          refine ⟨_, lkm__law_nested m, fun hd => ?_⟩
          obtain ⟨d2, rfl⟩ : ∃ d2, d = d2 + 1 := ⟨d - 1, by omega⟩
          obtain ⟨g, e1, e2⟩ := ih3 d2 H (by omega) hH hl hq
          rw [lkm__law_nested] at e1
          obtain rfl := Option.some.inj e1
          exact e2
      obtain ⟨gb, eb, hb⟩ := hbx
      obtain ⟨gn, en, hn⟩ := hnx
      exact stmt_ok hw hH (by omega) (lko__law_body__law_draws n) (lko__law_body__law_value n) (lko__law_body__law_condition n) eb en hb hn hq
    · rw [qd_d] at hq
      obtain ⟨gb, e1, e2⟩ := ih1 d H 2 (by omega) hH hl (by omega) (by decide)
      exact ⟨_, lkm__law_nested n, nest_ok hw (lko__law_body__law_condition n) e1 e2 (by omega)⟩
theorem body_gen {w : Wk} (hw : w.ok) (hl : w.L.length ≤ 6) (c : Int) : ∃ b : Bd, b.ok ∧ b.nd ≤ 2 ∧ b.tot ≤ 130000 ∧ g__law_body [.int c, .int 4, .int 2, w.d, .list []] = .ok (.ow, .list b.ds) := by
  have hf : (fre w []).length ≤ 6 := Nat.le_trans (List.length_filter_le _ _) hl
  have hq : qd 2 (fre w []).length ≤ 32448 := Nat.le_trans (qd_mono hf) (by decide)
  obtain ⟨g, e1, e2⟩ := (all_gen hw 25).1 2 [] 4 (by omega) (fun s hs => nomatch hs) (by simp; omega) (by omega) (by decide)
  rw [show gm__law_body 25 "_law_body" = some g__law_body from rfl] at e1
  obtain rfl := Option.some.inj e1
  obtain ⟨b, k1, k2, k3, k4⟩ := e2 c
  exact ⟨b, k1, k2, by omega, k4⟩
theorem vr_mk {s : Str} {a b c : Int} (hs : Fine 25 s) (ha : -400 ≤ a ∧ a ≤ 400) (hb : -400 ≤ b ∧ b ≤ 400) (hc : -400 ≤ c ∧ c ≤ 400) : (Vr.mk s a b c).ok := ⟨hs, ha, hb, hc⟩
theorem var_ok {s : Str} {first size chosen : Int} (hs : Fine 25 s) (h1 : 1 ≤ size) (h2 : size ≤ 20) : ∃ v : Vr, v.nm = s ∧ v.ok ∧ v.wd = size ∧ g__law_variable [.str s, .int first, .int size, .int chosen] = .ok (.sh, v.d) := by
  have m1 : 0 ≤ first % (200 - size) ∧ first % (200 - size) < 200 - size := ⟨Int.emod_nonneg _ (by omega), Int.emod_lt_of_pos _ (by omega)⟩
  have m2 : 0 ≤ chosen % size ∧ chosen % size < size := ⟨Int.emod_nonneg _ (by omega), Int.emod_lt_of_pos _ (by omega)⟩
  refine ⟨⟨s, first % (200 - size) - 99, first % (200 - size) - 99 + size - 1, first % (200 - size) - 99 + chosen % size⟩, rfl, vr_mk hs ⟨by omega, by omega⟩ ⟨by omega, by omega⟩ ⟨by omega, by omega⟩, ?_, def_is rfl ?_⟩
  · show first % (200 - size) - 99 + size - 1 - (first % (200 - size) - 99) + 1 = size
    omega
  · unfold b__law_variable
    rw [ss_cons]; simp -implicitDefEqProofs (disch := omega) [mod_int]
    rw [ss_cons]; simp -implicitDefEqProofs (disch := omega) [mod_int, frz_cons]
    rfl

/-! kinds drawn -/
theorem slLt {t : Tag} {xs : List D} {b : Int} (h1 : 0 ≤ b) : evSl (t, .list xs) none (some b) = .ok (t.kid.root, .list (xs.take b.toNat)) := by
  show PV.R.ok (t.kid.root, PyData.list (cutD xs none (some b))) = _
  unfold cutD
  have e1 : HT.sIx xs.length 0 none = 0 := rfl
  have e2 : HT.sIx xs.length xs.length (some b) = min b.toNat xs.length := by
    show (if b < 0 then _ else min b.toNat _) = _
    rw [if_neg (by omega)]
  rw [e1, e2, List.drop_zero, Nat.sub_zero]
  congr 3
  rw [Nat.min_comm, List.take_eq_take_iff]
  omega
theorem slLm {t : Tag} {xs : List D} {a b : Int} (h1 : 0 ≤ a) (h2 : a ≤ b) : evSl (t, .list xs) (some a) (some b) = .ok (t.kid.root, .list ((xs.drop a.toNat).take (b.toNat - a.toNat))) := by
  show PV.R.ok (t.kid.root, PyData.list (cutD xs (some a) (some b))) = _
  unfold cutD
  have e1 : HT.sIx xs.length 0 (some a) = min a.toNat xs.length := by
    show (if a < 0 then _ else min a.toNat _) = _
    rw [if_neg (by omega)]
  have e2 : HT.sIx xs.length xs.length (some b) = min b.toNat xs.length := by
    show (if b < 0 then _ else min b.toNat _) = _
    rw [if_neg (by omega)]
  rw [e1, e2]
  congr 3
  by_cases q : a.toNat ≤ xs.length
  · rw [Nat.min_eq_left q, List.take_eq_take_iff, List.length_drop]
    omega
  · rw [List.drop_eq_nil_of_le (by omega), List.drop_eq_nil_of_le (by omega)]
    simp
theorem and_3b : ∀ n : Nat, n < 300 → 0 ≤ Builtin.bitAnd (n : Int) 3 ∧ Builtin.bitAnd (n : Int) 3 < 4 := by decide +kernel
def wrp (k : Nat) (b : Bd) : Bd := match k with
  | 0 => .cons (.ife (.b true) b .nil) .nil
  | 1 => .cons (.cho (.cons .nil (.cons b .nil))) .nil
  | 2 => .cons (.lop (.b false) b) .nil
  | _ => .cons (.sim "skip" []) (.cons (.ife (.b false) .nil b) .nil)
theorem wrp_ok {k : Nat} {b : Bd} (h : b.ok) : (wrp k b).ok ∧ (wrp k b).nd ≤ b.nd + 1 ∧ (wrp k b).tot ≤ b.tot + 2 := by
  match k with
  | 0 => exact ⟨⟨⟨trivial, Nat.zero_le _, h, trivial⟩, trivial⟩, by show max (max b.nd 0 + 1) 0 ≤ _; omega, by show 1 + (b.tot + 0) + 0 ≤ _; omega⟩
  | 1 => exact ⟨⟨⟨by show 0 < 2; omega, by show 2 ≤ 6; omega, trivial, h, trivial⟩, trivial⟩, by show max (max 0 (max b.nd 0) + 1) 0 ≤ _; omega, by show 1 + (0 + (b.tot + 0)) + 0 ≤ _; omega⟩
  | 2 => exact ⟨⟨⟨trivial, Nat.zero_le _, h⟩, trivial⟩, by show max (b.nd + 1) 0 ≤ _; omega, by show 1 + b.tot + 0 ≤ _; omega⟩
  | n + 3 => exact ⟨⟨sim_ok (by simp) (Nat.zero_le _) (fun p hp => nomatch hp), ⟨trivial, Nat.zero_le _, trivial, h⟩, trivial⟩, by show max 0 (max (max 0 b.nd + 1) 0) ≤ _; omega, by show 1 + (1 + (0 + b.tot) + 0) ≤ _; omega⟩
def kwI (e1 : List Slot) (z11 : Slot) (i : Nat) (e : PV.Env) : Prop := ∃ (b : Bd) (z9 z10 : Slot), e = e1 ++ [z9, z10, z11] ∧ (z9 = .ow (.list b.ds) ∨ z9 = .sh (.list b.ds)) ∧ b.ok ∧ b.nd ≤ 2 + i ∧ b.tot ≤ 130000 + 2 * i
theorem kind_ok {c : Int} {nm : Str} {cnt : Option Int} {own : List Str} {w : Wk} (hw : w.ok) (hl : w.L.length ≤ 6) (hV : w.V.length ≤ 100) (hn : Fine 25 nm) (hc : ∀ i, cnt = some i → 0 ≤ i ∧ i ≤ 400) (hol : own.length = 3) (ho : ∀ s ∈ own, Fine 25 s) :
    ∃ k : Kd, k.ok ∧ (∀ v ∈ k.vs, 1 ≤ v.wd) ∧ k.bd.tot ≤ 140000 ∧ g__law_kind [.int c, .str nm, cD cnt, sl own, w.d] = .ok (.sh, k.d) := by
  suffices hh : ∃ o e, g__law_kind [.int c, .str nm, cD cnt, sl own, w.d] = .ok (o, e) ∧ o = .sh ∧ ∃ k : Kd, e = k.d ∧ k.ok ∧ (∀ v ∈ k.vs, 1 ≤ v.wd) ∧ k.bd.tot ≤ 140000 by
    obtain ⟨_, _, e, rfl, k, rfl, q1, q2, q3⟩ := hh
    exact ⟨k, q1, q2, q3, e⟩
  refine def_ret rfl ?_
  unfold b__law_kind
  obtain ⟨L, lL, bL, eL⟩ := draws_ok c [7, 200, 3, 3, 200, 2, 2, 200, 1000000000] (by decide) (by decide)
  have lL : L.length = 9 := lL
  have b0 : 0 ≤ gi L 0 ∧ gi L 0 < 7 := bL 0 (by decide)
  have b1 : 0 ≤ gi L 1 ∧ gi L 1 < 200 := bL 1 (by decide)
  have b2 : 0 ≤ gi L 2 ∧ gi L 2 < 3 := bL 2 (by decide)
  have b3 : 0 ≤ gi L 3 ∧ gi L 3 < 3 := bL 3 (by decide)
  have b4 : 0 ≤ gi L 4 ∧ gi L 4 < 200 := bL 4 (by decide)
  have b5 : 0 ≤ gi L 5 ∧ gi L 5 < 2 := bL 5 (by decide)
  have b6 : 0 ≤ gi L 6 ∧ gi L 6 < 2 := bL 6 (by decide)
  simp only [il, List.map_cons, List.map_nil] at eL
  have i0 : ∀ t, evIx (t, il L) (.int 0) = .ok (.sh, .int (gi L 0)) := fun t => ixi (by omega) (by omega)
  have i1 : ∀ t, evIx (t, il L) (.int 1) = .ok (.sh, .int (gi L 1)) := fun t => ixi (by omega) (by omega)
  have i2 : ∀ t, evIx (t, il L) (.int 2) = .ok (.sh, .int (gi L 2)) := fun t => ixi (by omega) (by omega)
  have i3 : ∀ t, evIx (t, il L) (.int 3) = .ok (.sh, .int (gi L 3)) := fun t => ixi (by omega) (by omega)
  have i4 : ∀ t, evIx (t, il L) (.int 4) = .ok (.sh, .int (gi L 4)) := fun t => ixi (by omega) (by omega)
  have i5 : ∀ t, evIx (t, il L) (.int 5) = .ok (.sh, .int (gi L 5)) := fun t => ixi (by omega) (by omega)
  have i6 : ∀ t, evIx (t, il L) (.int 6) = .ok (.sh, .int (gi L 6)) := fun t => ixi (by omega) (by omega)
  have i7 : ∀ t, evIx (t, il L) (.int 7) = .ok (.sh, .int (gi L 7)) := fun t => ixi (by omega) (by omega)
  have i8 : ∀ t, evIx (t, il L) (.int 8) = .ok (.sh, .int (gi L 8)) := fun t => ixi (by omega) (by omega)
  have o0 : evIx (.sh, sl own) (.int 0) = .ok (.sh, .str (gs own 0)) := ixz (by omega) (by omega)
  have o1 : evIx (.sh, sl own) (.int 1) = .ok (.sh, .str (gs own 1)) := ixz (by omega) (by omega)
  have o2 : evIx (.sh, sl own) (.int 2) = .ok (.sh, .str (gs own 2)) := ixz (by omega) (by omega)
  have f0 := ho _ (gs_mem (l := own) (n := 0) (by omega))
  have f1 := ho _ (gs_mem (l := own) (n := 1) (by omega))
  have f2 := ho _ (gs_mem (l := own) (n := 2) (by omega))
  have j0 : evIx (.sh, w.d) (.int 0) = .ok (.sh, sl w.V) := ixt0
  have j1 : evIx (.sh, w.d) (.int 1) = .ok (.sh, sl w.L) := ixt1
  have j2 : evIx (.sh, w.d) (.int 2) = .ok (.sh, sl w.B) := ixt2
  have j3 : evIx (.sh, w.d) (.int 3) = .ok (.sh, sl w.T) := ixt3
  have j4 : evIx (.sh, w.d) (.int 4) = .ok (.sh, sl w.N) := by
    show evIx (.sh, .tuple [sl w.V, sl w.L, sl w.B, sl w.T, sl w.N]) (.int 4) = _
    simp [evIx, L2.atI, L2.ixN]
  rw [ss_cons]; simp -implicitDefEqProofs [pow9, frz_cons, eL]
  obtain ⟨sz, s1, s2, hz⟩ : ∃ sz : Int, 1 ≤ sz ∧ sz ≤ 12 ∧ ev G__law_variable (.ix (.lst (.cons (.bin .add (.cst (.int 1)) (.ix (.var 5) (.cst (.int 2)))) (.cons (.cst (.int 12)) .nil))) (.bin .mul (.bi .int (.cons (.cmp .eq (.ix (.var 5) (.cst (.int 0))) (.cst (.int 3))) .nil)) (.ix (.var 5) (.cst (.int 6)))))
      [.sh (.int c), .sh (.str nm), .sh (cD cnt), .sh (sl own), .sh w.d, .ow (il L), .no, .no, .no, .no, .no, .no] = .ok (.sh, .int sz) := by
    by_cases q : gi L 0 = 3
    · have hm : (1 * gi L 6).toNat = (gi L 6).toNat := by omega
      refine ⟨gi [1 + gi L 2, 12] (gi L 6).toNat, ?_, ?_, ?_⟩
      · have : gi L 6 = 0 ∨ gi L 6 = 1 := by omega
        rcases this with h | h <;> rw [h]
        · show 1 ≤ 1 + gi L 2; omega
        · show (1 : Int) ≤ 12; omega
      · have : gi L 6 = 0 ∨ gi L 6 = 1 := by omega
        rcases this with h | h <;> rw [h]
        · show 1 + gi L 2 ≤ 12; omega
        · show (12 : Int) ≤ 12; omega
      · have e := ixi (t := .ow) (ns := [1 + gi L 2, 12]) (i := gi L 6) b6.1 b6.2
        simp only [il, List.map_cons, List.map_nil] at e
        simp -implicitDefEqProofs (disch := omega) [i0, i2, i6, q, mul_l, e]
    · refine ⟨1 + gi L 2, by omega, by omega, ?_⟩
      have e := ixi (t := .ow) (ns := [1 + gi L 2, 12]) (i := 0) (by omega) (by show (0 : Int) < 2; omega)
      simp only [il, List.map_cons, List.map_nil] at e
      simp -implicitDefEqProofs (disch := omega) [i0, i2, i6, q, mul_l, e]
      rfl
  refine s_asg rfl hz rfl ?_
  obtain ⟨v0, v01, v02, v03, v04⟩ := var_ok (first := gi L 1) (chosen := gi L 3) f0 s1 (by omega)
  obtain ⟨v1, v11, v12, v13, v14⟩ := var_ok (size := 1 + gi L 5) (first := gi L 4) (chosen := gi L 6) f1 (by omega) (by omega)
  obtain ⟨v2, v21, v22, v23, v24⟩ := var_ok (size := 1) (first := gi L 7) (chosen := 0) f2 (by omega) (by omega)
  show Sat _ (evSs G__law_variable _ _ [.sh (.int c), .sh (.str nm), .sh (cD cnt), .sh (sl own), .sh w.d, .ow (il L), .sh (.int sz), .no, .no, .no, .no, .no])
  have e7 : evIx (.ow, .list [.int 0, .int 0, .int 1, .int 1, .int 2, .int 2, .int 3]) (.int (gi L 0)) = .ok (.sh, .int (gi [0, 0, 1, 1, 2, 2, 3] (gi L 0).toNat)) := ixi (ns := [0, 0, 1, 1, 2, 2, 3]) b0.1 b0.2
  have s7 : 0 ≤ gi [0, 0, 1, 1, 2, 2, 3] (gi L 0).toNat := by
    have : ∀ n : Nat, n < 7 → 0 ≤ gi [0, 0, 1, 1, 2, 2, 3] n := by decide +kernel
    exact this _ (by omega)
  generalize gi [0, 0, 1, 1, 2, 2, 3] (gi L 0).toNat = m at e7 s7
  have es := slLt (t := .rt) (xs := [v0.d, v1.d, v2.d]) s7
  obtain ⟨vs, evs⟩ : ∃ vs : List Vr, vs = [v0, v1, v2].take m.toNat := ⟨_, rfl⟩
  have hvm : [v0.d, v1.d, v2.d].take m.toNat = vs.map Vr.d := by rw [evs, List.map_take]; rfl
  rw [hvm] at es
  have vsl : vs.length ≤ 3 := by rw [evs, List.length_take]; exact Nat.min_le_right _ _
  have vok : ∀ v ∈ vs, v.ok := fun v hv => by
    rw [evs] at hv
    have := List.mem_of_mem_take hv
    simp only [List.mem_cons, List.not_mem_nil, or_false] at this
    rcases this with rfl | rfl | rfl
    · exact v02
    · exact v12
    · exact v22
  rw [ss_cons]; simp -implicitDefEqProofs [frz_cons, o0, o1, i1, i3, i4, i5, i6, v04, v14]
  have vwd : ∀ v ∈ vs, 1 ≤ v.wd := fun v hv => by
    rw [evs] at hv
    have := List.mem_of_mem_take hv
    simp only [List.mem_cons, List.not_mem_nil, or_false] at this
    rcases this with rfl | rfl | rfl
    · omega
    · omega
    · omega
  have hl2 : (2 : Nat) < lim := by show 2 < 16000000; decide
  rw [ss_cons]; simp -implicitDefEqProofs [o2, i7, v24, hl2]
  rw [ss_cons]; simp -implicitDefEqProofs [e7, i0, es]
  obtain ⟨w2, ew2⟩ : ∃ w2 : Wk, w2 = ⟨w.V ++ vs.map Vr.nm, w.L, w.B, w.T, w.N⟩ := ⟨_, rfl⟩
  have hw2 : w2.ok := by
    rw [ew2]
    refine ⟨⟨fun s hs => ?_, ?_⟩, hw.l, hw.b, hw.t, hw.n⟩
    · rcases List.mem_append.mp hs with hs | hs
      · exact hw.v.1 s hs
      · obtain ⟨v, hv, rfl⟩ := List.mem_map.mp hs
        exact (vok v hv).1
    · show (w.V ++ vs.map Vr.nm).length ≤ 1000
      rw [List.length_append, List.length_map]
      omega
  refine s_step (J := fun e => e = [.sh (.int c), .sh (.str nm), .sh (cD cnt), .sh (sl own), .sh w.d, .ow (il L), .sh (.int sz), .ow (.list (vs.map Vr.d)), .sh w2.d, .no, .no, .no]) ?_ ?_
  · have k1 := fun z11 => e_mapS (G := G__law_variable) (own := [("_law_variable_here", 11)]) (tg := .nm 11) (src := .lst (.var 7)) (c := .nil) (e := .ix (.var 11) (.cst (.int 0))) (env := [.sh (.int c), .sh (.str nm), .sh (cD cnt), .sh (sl own), .sh w.d, .ow (il L), .sh (.int sz), .ow (.list (vs.map Vr.d)), .no, .no, .no, z11]) (l := vs) (w := Vr.d) (h := Vr.nm) (t := .rt) (by simp -implicitDefEqProofs) (by omega) fun v hv => by
      have : evIx (.sh, v.d) (.int 0) = .ok (.sh, .str v.nm) := ixt0
      simp -implicitDefEqProofs [cprItem, wipeE, this]
    have c1 := cat_sl (s := .sh) (t := .ow) (xs := w.V) (ys := vs.map Vr.nm) rfl (by rw [List.length_map]; omega)
    simp -implicitDefEqProofs only [y_asg, frz_nil, x_tup, x_cons, x_nil, x_bin, x_ix, x_cst, cst_int, x_var, at_0, at_s, b_ok, k1, c1, j0, j1, j2, j3, j4]
    rw [ew2]
    exact ⟨rfl⟩
  rintro _ rfl
  obtain ⟨b, q1, q2, q3, q4⟩ := body_gen hw2 (by rw [ew2]; exact hl) (gi L 8)
  rw [ss_cons]; simp -implicitDefEqProofs [frz_cons, i8, q4]
  have fin : ∀ (b : Bd) (z9 z10 z11 : Slot), (z9 = .ow (.list b.ds) ∨ z9 = .sh (.list b.ds)) → b.ok → b.nd ≤ 8 → b.tot ≤ 140000 → Sat (Ret (fun o e => o = Tag.sh ∧ ∃ k : Kd, e = k.d ∧ k.ok ∧ (∀ v ∈ k.vs, 1 ≤ v.wd) ∧ k.bd.tot ≤ 140000) NoX)
      (evSs G__law_variable 10000 [.ret [1, 2, 7, 9] (.tup (.cons (.var 1) (.cons (.var 2) (.cons (.var 7) (.cons (.var 9) .nil)))))] [.sh (.int c), .sh (.str nm), .sh (cD cnt), .sh (sl own), .sh w.d, .ow (il L), .sh (.int sz), .ow (.list (vs.map Vr.d)), .sh w2.d, z9, z10, z11]) := fun b z9 z10 z11 h9 hb1 hb2 hb3 => by
    have e9 : frz [1, 2, 7, 9] [.sh (.int c), .sh (.str nm), .sh (cD cnt), .sh (sl own), .sh w.d, .ow (il L), .sh (.int sz), .ow (.list (vs.map Vr.d)), .sh w2.d, z9, z10, z11] = [.sh (.int c), .sh (.str nm), .sh (cD cnt), .sh (sl own), .sh w.d, .ow (il L), .sh (.int sz), .sh (.list (vs.map Vr.d)), .sh w2.d, .sh (.list b.ds), z10, z11] := by
      rcases h9 with rfl | rfl <;> rfl
    rw [ss_cons, y_ret, e9]
    have hcd : nt .sh (cD cnt) = .sh := nt_sh
    simp -implicitDefEqProofs
    exact ⟨⟨nm, cnt, vs, b⟩, rfl, ⟨hn, hc, vsl, vok, hb1, hb2⟩, vwd, hb3⟩
  refine s_if (t := decide (gi L 1 % 4 = 0)) (by simp -implicitDefEqProofs (disch := omega) [i1, mod_int]) (fun _ => ?_) fun _ => ?_
  · rw [List.cons_append, List.nil_append]
    refine s_for (t := .sh) (ds := ranged 0 (1 + gi L 2 + gi L 3)) (I := kwI [.sh (.int c), .sh (.str nm), .sh (cD cnt), .sh (sl own), .sh w.d, .ow (il L), .sh (.int sz), .ow (.list (vs.map Vr.d)), .sh w2.d] .no) rfl (by simp -implicitDefEqProofs (disch := omega) [i2, i3, small_nat]) rfl ⟨b, _, _, rfl, Or.inl rfl, q1, by omega, by omega⟩ ?_ ?_
    · rintro i d e hd ⟨b, z9, z10, rfl, h9, p1, p2, p3⟩
      have hi : i < (1 + gi L 2 + gi L 3).toNat := by have := (List.getElem?_eq_some_iff.mp hd).1; rwa [ranged_len, Int.sub_zero] at this
      rw [ranged_get (by omega)] at hd
      obtain rfl := Option.some.inj hd
      refine ⟨_, by simp -implicitDefEqProofs; rfl, ?_⟩
      have hb : 0 ≤ Builtin.bitAnd (gi L 4 + (i : Int)) 3 ∧ Builtin.bitAnd (gi L 4 + (i : Int)) 3 < 4 := by
        have := and_3b (gi L 4 + (i : Int)).toNat (by omega)
        rwa [Int.toNat_of_nonneg (by omega)] at this
      have eb : evBin .band (.sh, .int (gi L 4 + (i : Int))) (.sh, .int 3) = .ok (.sh, .int (Builtin.bitAnd (gi L 4 + (i : Int)) 3)) := rfl
      generalize Builtin.bitAnd (gi L 4 + (i : Int)) 3 = z at hb eb
      have ei : evIx (.ow, .list [.list (wrp 0 b).ds, .list (wrp 1 b).ds, .list (wrp 2 b).ds, .list (wrp 3 b).ds]) (.int z) = .ok (.sh, .list (wrp z.toNat b).ds) := by
        have : z = 0 ∨ z = 1 ∨ z = 2 ∨ z = 3 := by omega
        rcases this with rfl | rfl | rfl | rfl
        · exact ixl_at (xs := [.list (wrp 0 b).ds, .list (wrp 1 b).ds, .list (wrp 2 b).ds, .list (wrp 3 b).ds]) (d := .list (wrp 0 b).ds) (n := 0) rfl rfl
        · exact ixl_at (xs := [.list (wrp 0 b).ds, .list (wrp 1 b).ds, .list (wrp 2 b).ds, .list (wrp 3 b).ds]) (d := .list (wrp 1 b).ds) (n := 1) rfl rfl
        · exact ixl_at (xs := [.list (wrp 0 b).ds, .list (wrp 1 b).ds, .list (wrp 2 b).ds, .list (wrp 3 b).ds]) (d := .list (wrp 2 b).ds) (n := 2) rfl rfl
        · exact ixl_at (xs := [.list (wrp 0 b).ds, .list (wrp 1 b).ds, .list (wrp 2 b).ds, .list (wrp 3 b).ds]) (d := .list (wrp 3 b).ds) (n := 3) rfl rfl
      obtain ⟨u1, u2, u3⟩ := wrp_ok (k := z.toNat) p1
      have e9 : frz [9] [.sh (.int c), .sh (.str nm), .sh (cD cnt), .sh (sl own), .sh w.d, .ow (il L), .sh (.int sz), .ow (.list (vs.map Vr.d)), .sh w2.d, z9, .sh (.int i), .no] = [.sh (.int c), .sh (.str nm), .sh (cD cnt), .sh (sl own), .sh w.d, .ow (il L), .sh (.int sz), .ow (.list (vs.map Vr.d)), .sh w2.d, .sh (.list b.ds), .sh (.int i), .no] := by
        rcases h9 with rfl | rfl <;> rfl
      simp only [wrp, Bd.ds, St.d, Bds.ds, Co.d, List.map_nil] at ei
      rw [ss_cons, y_asg, e9]
      simp -implicitDefEqProofs [i4, eb, ei]
      exact ⟨wrp z.toNat b, _, _, rfl, Or.inr rfl, u1, by omega, by omega⟩
    · rintro _ ⟨b, z9, z10, rfl, h9, p1, p2, p3⟩
      rw [ranged_len, Int.sub_zero] at p2 p3
      exact fin b z9 z10 _ h9 p1 (by omega) (by omega)
  · rw [List.nil_append]
    exact fin b _ _ _ (Or.inl rfl) q1 (by omega) (by omega)

/-! shares and programs drawn -/
theorem and1_ok {x : Int} (h : 0 ≤ x) : 0 ≤ Builtin.bitAnd x 1 ∧ Builtin.bitAnd x 1 ≤ 1 := by
  have e : Builtin.bitAnd x 1 = ((x.toNat &&& (1 : Int).toNat : Nat) : Int) := by
    unfold Builtin.bitAnd
    rw [decide_eq_true h, decide_eq_true (by decide : (0 : Int) ≤ 1)]
  have : x.toNat &&& (1 : Int).toNat ≤ 1 := Nat.and_le_right
  omega
def shJ (c : Int) (ns : List Str) (L : List Int) (e : PV.Env) : Prop := ∃ zs : List Int, e = [.sh (.int c), .sh (sl ns), .ow (il L), .ow (il zs), .no, .no] ∧ zs.length = 4 ∧ ∀ i < 4, 1 ≤ gi zs i ∧ gi zs i ≤ 20
theorem shares_ok {c : Int} {ns : List Str} (hl : ns.length = 30) (hf : ∀ s ∈ ns, Fine 25 s) : ∃ vs : List Vr, vs.length ≤ 4 ∧ (∀ v ∈ vs, v.ok) ∧ g__law_shares [.int c, sl ns] = .ok (.ow, .list (vs.map Vr.d)) := by
  suffices hh : ∃ o e, g__law_shares [.int c, sl ns] = .ok (o, e) ∧ o = .ow ∧ ∃ vs : List Vr, e = .list (vs.map Vr.d) ∧ vs.length ≤ 4 ∧ ∀ v ∈ vs, v.ok by
    obtain ⟨_, _, e, rfl, k, rfl, q1, q2⟩ := hh
    exact ⟨k, q1, q2, e⟩
  refine def_ret rfl ?_
  unfold b__law_shares
  obtain ⟨L, lL, bL, eL⟩ := draws_ok c [6, 200, 4, 4, 200, 3, 4, 200, 2, 2, 200, 2, 2] (by decide) (by decide)
  have lL : L.length = 13 := lL
  have b0 : 0 ≤ gi L 0 ∧ gi L 0 < 6 := bL 0 (by decide)
  have b2 : 0 ≤ gi L 2 ∧ gi L 2 < 4 := bL 2 (by decide)
  have b5 : 0 ≤ gi L 5 ∧ gi L 5 < 3 := bL 5 (by decide)
  have b8 : 0 ≤ gi L 8 ∧ gi L 8 < 2 := bL 8 (by decide)
  have b11 : 0 ≤ gi L 11 ∧ gi L 11 < 2 := bL 11 (by decide)
  simp only [il, List.map_cons, List.map_nil] at eL
  have i0 : ∀ t, evIx (t, il L) (.int 0) = .ok (.sh, .int (gi L 0)) := fun t => ixi (by omega) (by omega)
  have i2 : ∀ t, evIx (t, il L) (.int 2) = .ok (.sh, .int (gi L 2)) := fun t => ixi (by omega) (by omega)
  have i5 : ∀ t, evIx (t, il L) (.int 5) = .ok (.sh, .int (gi L 5)) := fun t => ixi (by omega) (by omega)
  have i8 : ∀ t, evIx (t, il L) (.int 8) = .ok (.sh, .int (gi L 8)) := fun t => ixi (by omega) (by omega)
  have i11 : ∀ t, evIx (t, il L) (.int 11) = .ok (.sh, .int (gi L 11)) := fun t => ixi (by omega) (by omega)
  rw [ss_cons]; simp -implicitDefEqProofs [frz_cons, eL]
  refine s_if1 (t := decide (gi L 0 < 4)) (J := shJ c ns L) (by simp -implicitDefEqProofs [i0]) (fun q => ?_) (fun q => ?_) ?_
  · obtain ⟨sz, s1, s2, hz⟩ : ∃ sz : Int, 1 ≤ sz ∧ sz ≤ 8 ∧ ev G__law_kind (.ix (.lst (.cons (.bin .add (.cst (.int 1)) (.ix (.var 2) (.cst (.int 2)))) (.cons (.bin .add (.cst (.int 5)) (.ix (.var 2) (.cst (.int 2)))) .nil))) (.bin .mul (.bi .int (.cons (.cmp .lt (.ix (.var 2) (.cst (.int 0))) (.cst (.int 3))) .nil)) (.ix (.var 2) (.cst (.int 8)))))
        [.sh (.int c), .sh (sl ns), .ow (il L), .no, .no, .no] = .ok (.sh, .int sz) := by
      have hix : ∀ z : Int, 0 ≤ z → z < 2 → ∃ sz : Int, 1 ≤ sz ∧ sz ≤ 8 ∧ evIx (.ow, .list [.int (1 + gi L 2), .int (5 + gi L 2)]) (.int z) = .ok (.sh, .int sz) := fun z h1 h2 => by
        refine ⟨gi [1 + gi L 2, 5 + gi L 2] z.toNat, ?_, ?_, ixi (ns := [1 + gi L 2, 5 + gi L 2]) h1 h2⟩
        · have : z = 0 ∨ z = 1 := by omega
          rcases this with h | h <;> rw [h]
          · show 1 ≤ 1 + gi L 2; omega
          · show 1 ≤ 5 + gi L 2; omega
        · have : z = 0 ∨ z = 1 := by omega
          rcases this with h | h <;> rw [h]
          · show 1 + gi L 2 ≤ 8; omega
          · show 5 + gi L 2 ≤ 8; omega
      by_cases q : gi L 0 < 3
      · obtain ⟨sz, s1, s2, e⟩ := hix (gi L 8) b8.1 b8.2
        exact ⟨sz, s1, s2, by simp -implicitDefEqProofs (disch := omega) [i0, i2, i8, q, mul_l, e]⟩
      · obtain ⟨sz, s1, s2, e⟩ := hix 0 (by omega) (by omega)
        exact ⟨sz, s1, s2, by simp -implicitDefEqProofs (disch := omega) [i0, i2, i8, q, mul_l, e]⟩
    rw [ss_cons]
    simp -implicitDefEqProofs only [y_asg, frz_nil, x_lst, x_cons, x_nil, hz, b_ok]
    simp -implicitDefEqProofs [i5]
    refine ⟨[sz, 1 + gi L 5, 1, 1], rfl, rfl, fun i hi => ?_⟩
    match i, hi with
    | 0, _ => exact ⟨by show 1 ≤ sz; omega, by show sz ≤ 20; omega⟩
    | 1, _ => exact ⟨by show 1 ≤ 1 + gi L 5; omega, by show 1 + gi L 5 ≤ 20; omega⟩
    | 2, _ => exact ⟨by show (1 : Int) ≤ 1; omega, by show (1 : Int) ≤ 20; omega⟩
    | 3, _ => exact ⟨by show (1 : Int) ≤ 1; omega, by show (1 : Int) ≤ 20; omega⟩
  · rw [ss_cons]; simp -implicitDefEqProofs (disch := omega) [i5, i8, i11, fdv_int]
    refine ⟨[1 + gi L 8, 2, 1 + gi L 11, 1 + gi L 5 / 2], rfl, rfl, fun i hi => ?_⟩
    match i, hi with
    | 0, _ => exact ⟨by show 1 ≤ 1 + gi L 8; omega, by show 1 + gi L 8 ≤ 20; omega⟩
    | 1, _ => exact ⟨by show (1 : Int) ≤ 2; omega, by show (2 : Int) ≤ 20; omega⟩
    | 2, _ => exact ⟨by show 1 ≤ 1 + gi L 11; omega, by show 1 + gi L 11 ≤ 20; omega⟩
    | 3, _ => exact ⟨by show 1 ≤ 1 + gi L 5 / 2; omega, by show 1 + gi L 5 / 2 ≤ 20; omega⟩
  rintro _ ⟨zs, rfl, z1, z2⟩
  have hv : ∀ k : Nat, ∃ v : Vr, k < 4 → v.ok ∧ g__law_variable [.str (gs ns k), .int (gi L (gi [1, 4, 7, 10] k).toNat), .int (gi zs k), .int (gi L (gi [3, 6, 9, 12] k).toNat)] = .ok (.sh, v.d) := fun k => by
    by_cases hk : k < 4
    · obtain ⟨v, v1, v2, v3, v4⟩ := var_ok (size := gi zs k) (first := gi L (gi [1, 4, 7, 10] k).toNat) (chosen := gi L (gi [3, 6, 9, 12] k).toNat) (hf _ (gs_mem (l := ns) (n := k) (by omega))) (z2 k hk).1 (z2 k hk).2
      exact ⟨v, fun _ => ⟨v2, v4⟩⟩
    · exact ⟨⟨"", 0, 0, 0⟩, fun h => absurd h hk⟩
  obtain ⟨f, hf2⟩ : ∃ f : Nat → Vr, ∀ k < 4, (f k).ok ∧ g__law_variable [.str (gs ns k), .int (gi L (gi [1, 4, 7, 10] k).toNat), .int (gi zs k), .int (gi L (gi [3, 6, 9, 12] k).toNat)] = .ok (.sh, (f k).d) := ⟨fun k => Classical.choose (hv k), fun k hk => Classical.choose_spec (hv k) hk⟩
  refine s_step (J := fun e => e = [.sh (.int c), .sh (sl ns), .ow (il L), .ow (il zs), .ow (.list (((List.range 4).map f).map Vr.d)), .no]) ?_ ?_
  · rw [y_asg, frz_nil, e_rng (j := 4) (u := .sh) (h := fun k => (f k).d) (by simp -implicitDefEqProofs) (by omega) (by omega) (fun k hk => by
      have hk : k < 4 := by omega
      have e1 : evIx (.sh, sl ns) (.int (k : Int)) = .ok (.sh, .str (gs ns k)) := by rw [ixz (by omega) (by omega), Int.toNat_natCast]
      have e2 : evIx (.ow, .list [.int 1, .int 4, .int 7, .int 10]) (.int (k : Int)) = .ok (.sh, .int (gi [1, 4, 7, 10] k)) := by
        have := ixi (t := .ow) (ns := [1, 4, 7, 10]) (i := (k : Int)) (by omega) (by show (k : Int) < 4; omega)
        rwa [Int.toNat_natCast] at this
      have e3 : evIx (.ow, .list [.int 3, .int 6, .int 9, .int 12]) (.int (k : Int)) = .ok (.sh, .int (gi [3, 6, 9, 12] k)) := by
        have := ixi (t := .ow) (ns := [3, 6, 9, 12]) (i := (k : Int)) (by omega) (by show (k : Int) < 4; omega)
        rwa [Int.toNat_natCast] at this
      have r2 : 0 ≤ gi [1, 4, 7, 10] k ∧ gi [1, 4, 7, 10] k < 13 := by
        have : ∀ n : Nat, n < 4 → 0 ≤ gi [1, 4, 7, 10] n ∧ gi [1, 4, 7, 10] n < 13 := by decide +kernel
        exact this k hk
      have r3 : 0 ≤ gi [3, 6, 9, 12] k ∧ gi [3, 6, 9, 12] k < 13 := by
        have : ∀ n : Nat, n < 4 → 0 ≤ gi [3, 6, 9, 12] n ∧ gi [3, 6, 9, 12] n < 13 := by decide +kernel
        exact this k hk
      have e4 : evIx (.rt, il zs) (.int (k : Int)) = .ok (.sh, .int (gi zs k)) := by rw [ixi (by omega) (by omega), Int.toNat_natCast]
      have e5 : evIx (.rt, il L) (.int (gi [1, 4, 7, 10] k)) = .ok (.sh, .int (gi L (gi [1, 4, 7, 10] k).toNat)) := ixi r2.1 (by omega)
      have e6 : evIx (.rt, il L) (.int (gi [3, 6, 9, 12] k)) = .ok (.sh, .int (gi L (gi [3, 6, 9, 12] k).toNat)) := ixi r3.1 (by omega)
      simp -implicitDefEqProofs [cprItem, wipeE, e1, e2, e3, e4, e5, e6, (hf2 k hk).2])]
    exact ⟨by
      show _ = _
      rw [List.map_map]
      rfl⟩
  rintro _ rfl
  have e7 : evIx (.ow, .list [.int 0, .int 1, .int 1, .int 2, .int 3, .int 4]) (.int (gi L 0)) = .ok (.sh, .int (gi [0, 1, 1, 2, 3, 4] (gi L 0).toNat)) := ixi (ns := [0, 1, 1, 2, 3, 4]) b0.1 b0.2
  have s7 : 0 ≤ gi [0, 1, 1, 2, 3, 4] (gi L 0).toNat := by
    have : ∀ n : Nat, n < 6 → 0 ≤ gi [0, 1, 1, 2, 3, 4] n := by decide +kernel
    exact this _ (by omega)
  generalize gi [0, 1, 1, 2, 3, 4] (gi L 0).toNat = m at e7 s7
  generalize hvs : (List.range 4).map f = vs
  have es := slLt (t := .rt) (xs := vs.map Vr.d) s7
  rw [← List.map_take] at es
  rw [ss_cons]; simp -implicitDefEqProofs [i0, e7, es]
  refine ⟨vs.take m.toNat, by rw [List.map_take], ?_, fun v hv => ?_⟩
  · have : vs.length = 4 := by rw [← hvs, List.length_map, List.length_range]
    rw [List.length_take]
    omega
  · have := List.mem_of_mem_take hv
    rw [← hvs] at this
    obtain ⟨k, hk, rfl⟩ := List.mem_map.mp this
    exact (hf2 k (List.mem_range.mp hk)).1

theorem slS {t : Tag} {ns : List Str} {a b : Int} (h1 : 0 ≤ a) (h2 : a ≤ b) (h3 : b ≤ ns.length) (ht : t.kid.root = .ow) : ∃ ms : List Str, (∀ s ∈ ms, s ∈ ns) ∧ (ms.length : Int) = b - a ∧ evSl (t, sl ns) (some a) (some b) = .ok (.ow, sl ms) := by
  refine ⟨(ns.drop a.toNat).take (b.toNat - a.toNat), fun s hs => List.mem_of_mem_drop (List.mem_of_mem_take hs), ?_, ?_⟩
  · rw [List.length_take, List.length_drop]
    omega
  · rw [slLm h1 h2, ht]
    simp [sl, List.map_take, List.map_drop]
def okK (k : Kd) : Prop := k.ok ∧ (∀ v ∈ k.vs, 1 ≤ v.wd) ∧ k.bd.tot ≤ 140000
def pgI (e0 : List Slot) (i : Nat) (e : PV.Env) : Prop := ∃ (ks : List Kd) (z10 z11 z12 : Slot), e = e0 ++ [.ow (.list (ks.map Kd.d)), z10, z11, z12, .no, .no] ∧ ks.length = i ∧ ∀ k ∈ ks, okK k
def cuI (e0 : List Slot) (n : Nat) (i : Nat) (e : PV.Env) : Prop := ∃ (ks : List Kd) (z10 z11 z12 : Slot), e = e0 ++ [.ow (.list (ks.map Kd.d)), z10, z11, z12, .no, .no] ∧ ks.length = n ∧ (∀ k ∈ ks, okK k) ∧ ((ks.map Kd.room).sum ≤ 96 ∨ ∀ j < i, ∀ k, ks[j]? = some k → k.room = 4)
theorem foldl_ge : ∀ (l : List Int) (a : Int), 0 ≤ a → (∀ x ∈ l, 1 ≤ x) → a ≤ l.foldl (· * ·) a
  | [], a, _, _ => Int.le_refl a
  | x :: r, a, h, hx => by
    have h1 : 1 ≤ x := hx x List.mem_cons_self
    have h2 : a ≤ a * x := by
      have := Int.mul_le_mul_of_nonneg_left h1 h
      rwa [Int.mul_one] at this
    rw [List.foldl_cons]
    exact Int.le_trans h2 (foldl_ge r (a * x) (by omega) fun y hy => hx y (List.mem_cons_of_mem _ hy))
theorem room_ge {k : Kd} (h : okK k) : (k.bd.tot : Int) ≤ k.room := by
  have := foldl_ge (k.vs.map Vr.wd) ((k.bd.tot : Int) + 2 + (k.bd.rst : Int)) (by omega) fun x hx => by
    obtain ⟨v, hv, rfl⟩ := List.mem_map.mp hx
    exact h.2.1 v hv
  unfold Kd.room
  omega
theorem rooms_ge : ∀ {ks : List Kd}, (∀ k ∈ ks, okK k) → (((ks.map fun k => k.bd.tot).sum : Nat) : Int) ≤ (ks.map Kd.room).sum
  | [], _ => Int.le_refl _
  | k :: r, h => by
    have h1 := room_ge (h k List.mem_cons_self)
    have h2 := rooms_ge (ks := r) fun x hx => h x (List.mem_cons_of_mem _ hx)
    simp only [List.map_cons, List.sum_cons]
    omega
theorem rooms_4 : ∀ {ks : List Kd}, (∀ j : Nat, ∀ k, ks[j]? = some k → k.room = 4) → (ks.map Kd.room).sum = 4 * ks.length
  | [], _ => rfl
  | k :: r, h => by
    have h1 := h 0 k rfl
    have h2 := rooms_4 (ks := r) fun j x hx => h (j + 1) x hx
    simp only [List.map_cons, List.sum_cons, List.length_cons]
    omega
def small (nm : Str) (cnt : Option Int) (x : Str) : Kd := ⟨nm, cnt, [], .cons (.sim "skip" []) (.cons (.sim "mark" [.n x]) .nil)⟩
theorem small_room {nm x : Str} {cnt : Option Int} : (small nm cnt x).room = 4 := by
  have h1 : ("skip" : Str) ≠ "rest" := by decide +kernel
  have h2 : ("mark" : Str) ≠ "rest" := by decide +kernel
  unfold Kd.room small
  simp [Bd.tot, St.tot, Bd.rst, St.rst, h1, h2]
theorem small_ok {nm x : Str} {cnt : Option Int} (hn : Fine 25 nm) (hc : ∀ i, cnt = some i → 0 ≤ i ∧ i ≤ 400) (hx : Fine 25 x) : okK (small nm cnt x) := by
  refine ⟨⟨hn, hc, Nat.zero_le _, fun v hv => (nomatch hv), ⟨sim_ok (by simp) (Nat.zero_le _) (fun p hp => (nomatch hp)), sim_ok (by simp) (by show 1 ≤ 2; omega) (fun p hp => ?_), trivial⟩, Nat.zero_le _⟩, fun v hv => (nomatch hv), by show 1 + (1 + 0) ≤ 140000; omega⟩
  rw [List.mem_singleton.mp hp]
  exact hx
def loJ (c more : Int) (L : List Int) (ns : List Str) (V : D) (e : PV.Env) : Prop := ∃ lo : List Str, e = [.sh (.int c), .sh (.int more), .ow (il L), .sh (sl ns), .ow V, .ow (sl lo), .no, .no, .no, .no, .no, .no, .no, .no, .no] ∧ lo.length ≤ 6 ∧ ∀ s ∈ lo, s ∈ ns
def cnJ (e0 : List Slot) (z10 z12 : Slot) (e : PV.Env) : Prop := ∃ cnt : Option Int, e = e0 ++ [z10, .sh (cD cnt), z12, .no, .no] ∧ ∀ i, cnt = some i → 0 ≤ i ∧ i ≤ 400
theorem prog_gen (c more : Int) : ∃ p : Pg, p.ok ∧ g__law_program [.int c, .int more] = .ok (.sh, p.d) := by
  suffices hh : ∃ o e, g__law_program [.int c, .int more] = .ok (o, e) ∧ o = .sh ∧ ∃ p : Pg, e = p.d ∧ p.ok by
    obtain ⟨_, _, e, rfl, k, rfl, q1⟩ := hh
    exact ⟨k, q1, e⟩
  refine def_ret rfl ?_
  unfold b__law_program
  obtain ⟨L, lL, bL, eL⟩ := draws_ok c [1000000000, 5, 5, 8, 5, 10, 4, 1000000000] (by decide) (by decide)
  have lL : L.length = 8 := lL
  have b1 : 0 ≤ gi L 1 ∧ gi L 1 < 5 := bL 1 (by decide)
  have b2 : 0 ≤ gi L 2 ∧ gi L 2 < 5 := bL 2 (by decide)
  have b3 : 0 ≤ gi L 3 ∧ gi L 3 < 8 := bL 3 (by decide)
  have b4 : 0 ≤ gi L 4 ∧ gi L 4 < 5 := bL 4 (by decide)
  have b5 : 0 ≤ gi L 5 ∧ gi L 5 < 10 := bL 5 (by decide)
  have b6 : 0 ≤ gi L 6 ∧ gi L 6 < 4 := bL 6 (by decide)
  have b7 : 0 ≤ gi L 7 ∧ gi L 7 < 1000000000 := bL 7 (by decide)
  simp only [il, List.map_cons, List.map_nil] at eL
  have i0 : ∀ t, evIx (t, il L) (.int 0) = .ok (.sh, .int (gi L 0)) := fun t => ixi (by omega) (by omega)
  have i1 : ∀ t, evIx (t, il L) (.int 1) = .ok (.sh, .int (gi L 1)) := fun t => ixi (by omega) (by omega)
  have i2 : ∀ t, evIx (t, il L) (.int 2) = .ok (.sh, .int (gi L 2)) := fun t => ixi (by omega) (by omega)
  have i3 : ∀ t, evIx (t, il L) (.int 3) = .ok (.sh, .int (gi L 3)) := fun t => ixi (by omega) (by omega)
  have i4 : ∀ t, evIx (t, il L) (.int 4) = .ok (.sh, .int (gi L 4)) := fun t => ixi (by omega) (by omega)
  have i5 : ∀ t, evIx (t, il L) (.int 5) = .ok (.sh, .int (gi L 5)) := fun t => ixi (by omega) (by omega)
  have i6 : ∀ t, evIx (t, il L) (.int 6) = .ok (.sh, .int (gi L 6)) := fun t => ixi (by omega) (by omega)
  have i7 : ∀ t, evIx (t, il L) (.int 7) = .ok (.sh, .int (gi L 7)) := fun t => ixi (by omega) (by omega)
  obtain ⟨ns, nl, nf, en⟩ := names_ok (gi L 7) 30 (by omega) (by omega)
  have nl : ns.length = 30 := nl
  obtain ⟨vs, vl, vok, evS⟩ := shares_ok (c := gi L 0) nl nf
  rw [ss_cons]; simp -implicitDefEqProofs [pow9, frz_cons, eL]
  rw [ss_cons]; simp -implicitDefEqProofs [i7, en]
  rw [ss_cons]; simp -implicitDefEqProofs [frz_cons, i0, evS]
  have e5 : evIx (.ow, .list [.int 0, .int 1, .int 1, .int 2, .int 2]) (.int (gi L 1)) = .ok (.sh, .int (gi [0, 1, 1, 2, 2] (gi L 1).toNat)) := ixi (ns := [0, 1, 1, 2, 2]) b1.1 b1.2
  have s5 : 0 ≤ gi [0, 1, 1, 2, 2] (gi L 1).toNat ∧ gi [0, 1, 1, 2, 2] (gi L 1).toNat ≤ 2 := by
    have : ∀ n : Nat, n < 5 → 0 ≤ gi [0, 1, 1, 2, 2] n ∧ gi [0, 1, 1, 2, 2] n ≤ 2 := by decide +kernel
    exact this _ (by omega)
  generalize gi [0, 1, 1, 2, 2] (gi L 1).toNat = m5 at e5 s5
  obtain ⟨lo, lm, ll, el⟩ := slS (t := .sh) (ns := ns) (a := 16) (b := 16 + m5) (by omega) (by omega) (by omega) rfl
  obtain ⟨lo2, lm2, ll2, el2⟩ := slS (t := .sh) (ns := ns) (a := 16) (b := 19) (by omega) (by omega) (by omega) rfl
  obtain ⟨lo3, lm3, ll3, el3⟩ := slS (t := .sh) (ns := ns) (a := 26) (b := 29) (by omega) (by omega) (by omega) rfl
  rw [ss_cons]; simp -implicitDefEqProofs [i1, e5, el]
  refine s_if1 (t := decide ((vs.length : Int) < 2) && decide (gi L 1 = 4)) (J := loJ c more L ns (.list (vs.map Vr.d))) (by by_cases q : (vs.length : Int) < 2 <;> by_cases q2 : gi L 1 = 4 <;> simp -implicitDefEqProofs [q, q2, i1]) (fun _ => ?_) (fun _ => ?_) ?_
  · rw [ss_cons]; simp -implicitDefEqProofs [el2]
    exact ⟨lo2, rfl, by omega, lm2⟩
  · rw [ss_nil]
    exact ⟨⟨lo, rfl, by omega, lm⟩⟩
  clear el el2 lm ll e5
  rintro _ ⟨lo, rfl, ll, lm⟩
  refine s_if1 (t := decide ((vs.length : Int) = 0) && decide (gi L 1 = 3)) (J := loJ c more L ns (.list (vs.map Vr.d))) (by by_cases q : vs = [] <;> by_cases q2 : gi L 1 = 3 <;> simp -implicitDefEqProofs [q, q2, i1]) (fun _ => ?_) (fun _ => ?_) ?_
  · obtain ⟨lo2, lm2, ll2, el2⟩ := slS (t := .sh) (ns := ns) (a := 16) (b := 19) (by omega) (by omega) (by omega) rfl
    have ct := cat_sl (s := .ow) (t := .ow) (xs := lo2) (ys := lo3) rfl (by omega)
    rw [ss_cons]; simp -implicitDefEqProofs [el2, el3, ct]
    refine ⟨lo2 ++ lo3, by rw [sl_app], by rw [List.length_append]; omega, fun s hs => ?_⟩
    rcases List.mem_append.mp hs with hs | hs
    · exact lm2 s hs
    · exact lm3 s hs
  · rw [ss_nil]
    exact ⟨⟨lo, rfl, ll, lm⟩⟩
  clear el3 lm3 ll3 lm2 ll2 lm ll
  rintro _ ⟨lo, rfl, ll, lm⟩
  have e6 : evIx (.ow, .list [.int 0, .int 1, .int 1, .int 2, .int 3]) (.int (gi L 2)) = .ok (.sh, .int (gi [0, 1, 1, 2, 3] (gi L 2).toNat)) := ixi (ns := [0, 1, 1, 2, 3]) b2.1 b2.2
  have s6 : 0 ≤ gi [0, 1, 1, 2, 3] (gi L 2).toNat ∧ gi [0, 1, 1, 2, 3] (gi L 2).toNat ≤ 3 := by
    have : ∀ n : Nat, n < 5 → 0 ≤ gi [0, 1, 1, 2, 3] n ∧ gi [0, 1, 1, 2, 3] n ≤ 3 := by decide +kernel
    exact this _ (by omega)
  generalize gi [0, 1, 1, 2, 3] (gi L 2).toNat = m6 at e6 s6
  obtain ⟨be, bm, bl, eb⟩ := slS (t := .sh) (ns := ns) (a := 19) (b := 19 + m6) (by omega) (by omega) (by omega) rfl
  rw [ss_cons]; simp -implicitDefEqProofs [i2, e6, eb]
  have e7 : evIx (.ow, .list [.int 0, .int 0, .int 1, .int 1, .int 1, .int 2, .int 2, .int 3]) (.int (gi L 3)) = .ok (.sh, .int (gi [0, 0, 1, 1, 1, 2, 2, 3] (gi L 3).toNat)) := ixi (ns := [0, 0, 1, 1, 1, 2, 2, 3]) b3.1 b3.2
  have s7 : 0 ≤ gi [0, 0, 1, 1, 1, 2, 2, 3] (gi L 3).toNat ∧ gi [0, 0, 1, 1, 1, 2, 2, 3] (gi L 3).toNat ≤ 3 := by
    have : ∀ n : Nat, n < 8 → 0 ≤ gi [0, 0, 1, 1, 1, 2, 2, 3] n ∧ gi [0, 0, 1, 1, 1, 2, 2, 3] n ≤ 3 := by decide +kernel
    exact this _ (by omega)
  generalize gi [0, 0, 1, 1, 1, 2, 2, 3] (gi L 3).toNat = m7 at e7 s7
  obtain ⟨ti, tm, tl, et⟩ := slS (t := .sh) (ns := ns) (a := 22) (b := 23 + m7) (by omega) (by omega) (by omega) rfl
  rw [ss_cons]; simp -implicitDefEqProofs [i3, e7, et]
  obtain ⟨w, ew⟩ : ∃ w : Wk, w = ⟨vs.map Vr.nm, lo, be, ti, ns⟩ := ⟨_, rfl⟩
  have hw : w.ok := by
    rw [ew]
    refine ⟨⟨fun s hs => ?_, ?_⟩, ⟨fun s hs => nf s (lm s hs), by show lo.length ≤ 1000; omega⟩, ⟨fun s hs => nf s (bm s hs), by show be.length ≤ 1000; omega⟩, ⟨⟨fun s hs => nf s (tm s hs), by show ti.length ≤ 1000; omega⟩, by show 0 < ti.length; omega⟩, ⟨nf, by show ns.length ≤ 1000; omega⟩, by show 0 < ns.length; omega⟩
    · obtain ⟨v, hv, rfl⟩ := List.mem_map.mp hs
      exact (vok v hv).1
    · show (vs.map Vr.nm).length ≤ 1000
      rw [List.length_map]; omega
  have wl1 : w.L.length ≤ 6 := by rw [ew]; exact ll
  have wV : w.V.length ≤ 100 := by rw [ew]; show (vs.map Vr.nm).length ≤ 100; rw [List.length_map]; omega
  refine s_step (J := fun e => e = [.sh (.int c), .sh (.int more), .ow (il L), .sh (sl ns), .ow (.list (vs.map Vr.d)), .sh (sl lo), .sh (sl be), .sh (sl ti), .sh w.d, .no, .no, .no, .no, .no, .no]) ?_ ?_
  · have k1 := fun z13 => e_mapS (G := G__law_shares) (own := [("_law_variable_here", 13)]) (tg := .nm 13) (src := .lst (.var 4)) (c := .nil) (e := .ix (.var 13) (.cst (.int 0))) (env := [.sh (.int c), .sh (.int more), .ow (il L), .sh (sl ns), .ow (.list (vs.map Vr.d)), .sh (sl lo), .sh (sl be), .sh (sl ti), .no, .no, .no, .no, .no, z13, .no]) (l := vs) (w := Vr.d) (h := Vr.nm) (t := .rt) (by simp -implicitDefEqProofs) (by omega) fun v hv => by
      have : evIx (.sh, v.d) (.int 0) = .ok (.sh, .str v.nm) := ixt0
      simp -implicitDefEqProofs [cprItem, wipeE, this]
    have ef : frz [3, 5, 6, 7] [.sh (.int c), .sh (.int more), .ow (il L), .sh (sl ns), .ow (.list (vs.map Vr.d)), .ow (sl lo), .ow (sl be), .ow (sl ti), .no, .no, .no, .no, .no, .no, .no] = [.sh (.int c), .sh (.int more), .ow (il L), .sh (sl ns), .ow (.list (vs.map Vr.d)), .sh (sl lo), .sh (sl be), .sh (sl ti), .no, .no, .no, .no, .no, .no, .no] := rfl
    show Sat _ (PV.evS G__law_shares _ _ [.sh (.int c), .sh (.int more), .ow (il L), .sh (sl ns), .ow (.list (vs.map Vr.d)), .ow (sl lo), .ow (sl be), .ow (sl ti), .no, .no, .no, .no, .no, .no, .no])
    simp -implicitDefEqProofs only [y_asg, ef, x_tup, x_cons, x_nil, x_var, at_0, at_s, b_ok, k1]
    rw [ew]
    exact ⟨rfl⟩
  rintro _ rfl
  rw [ss_cons]; simp -implicitDefEqProofs
  refine s_for (t := .sh) (ds := ranged 0 (ti.length : Int)) (I := pgI [.sh (.int c), .sh (.int more), .ow (il L), .sh (sl ns), .ow (.list (vs.map Vr.d)), .sh (sl lo), .sh (sl be), .sh (sl ti), .sh w.d]) rfl (by simp -implicitDefEqProofs (disch := omega) [small_nat]) rfl ⟨[], _, _, _, rfl, rfl, fun k hk => nomatch hk⟩ ?_ ?_
  · rintro i d e hd ⟨ks, z10, z11, z12, rfl, k1, k2⟩
    have hi : i < ti.length := by have := (List.getElem?_eq_some_iff.mp hd).1; rw [ranged_len] at this; omega
    rw [ranged_get (by omega)] at hd
    obtain rfl := Option.some.inj hd
    refine ⟨_, by simp -implicitDefEqProofs; rfl, ?_⟩
    have hb : 0 ≤ Builtin.bitAnd (gi L 4 + (i : Int)) 3 ∧ Builtin.bitAnd (gi L 4 + (i : Int)) 3 < 4 := by
      have := and_3b (gi L 4 + (i : Int)).toNat (by omega)
      rwa [Int.toNat_of_nonneg (by omega)] at this
    have eb : evBin .band (.sh, .int (gi L 4 + (i : Int))) (.sh, .int 3) = .ok (.sh, .int (Builtin.bitAnd (gi L 4 + (i : Int)) 3)) := rfl
    generalize Builtin.bitAnd (gi L 4 + (i : Int)) 3 = z at hb eb
    have ec : evIx (.ow, .list [.int 0, .int 1, .int 2, .int (gi L 5)]) (.int z) = .ok (.sh, .int (gi [0, 1, 2, gi L 5] z.toNat)) := ixi (ns := [0, 1, 2, gi L 5]) hb.1 hb.2
    have sc : 0 ≤ gi [0, 1, 2, gi L 5] z.toNat ∧ gi [0, 1, 2, gi L 5] z.toNat ≤ 400 := by
      have : z = 0 ∨ z = 1 ∨ z = 2 ∨ z = 3 := by omega
      rcases this with rfl | rfl | rfl | rfl
      · exact ⟨by show (0 : Int) ≤ 0; omega, by show (0 : Int) ≤ 400; omega⟩
      · exact ⟨by show (0 : Int) ≤ 1; omega, by show (1 : Int) ≤ 400; omega⟩
      · exact ⟨by show (0 : Int) ≤ 2; omega, by show (2 : Int) ≤ 400; omega⟩
      · exact ⟨by show 0 ≤ gi L 5; omega, by show gi L 5 ≤ 400; omega⟩
    generalize gi [0, 1, 2, gi L 5] z.toNat = cn at ec sc
    rw [ss_cons]; simp -implicitDefEqProofs [i4, i5, eb, ec]
    have t0 : (0 : Int) < (ti.length : Int) := by omega
    refine s_if1 (t := decide ((i : Int) = gi L 6 % (ti.length : Int))) (J := cnJ [.sh (.int c), .sh (.int more), .ow (il L), .sh (sl ns), .ow (.list (vs.map Vr.d)), .sh (sl lo), .sh (sl be), .sh (sl ti), .sh w.d, .ow (.list (ks.map Kd.d))] (.sh (.int i)) z12) (by simp -implicitDefEqProofs [i6, mod_int t0]) (fun _ => ?_) (fun _ => ?_) ?_
    · rw [ss_cons]; simp -implicitDefEqProofs
      exact ⟨none, rfl, fun i h => nomatch h⟩
    · rw [ss_nil]
      exact ⟨⟨some cn, rfl, fun i h => by rw [← Option.some.inj h]; exact sc⟩⟩
    rintro _ ⟨cnt, rfl, hcnt⟩
    have hb1 := and1_ok b7.1
    have eb1 : evBin .band (.sh, .int (gi L 7)) (.sh, .int 1) = .ok (.sh, .int (Builtin.bitAnd (gi L 7) 1)) := rfl
    generalize Builtin.bitAnd (gi L 7) 1 = bb at hb1 eb1
    obtain ⟨fst, f1, f2, f3⟩ : ∃ fst : Int, 0 ≤ fst ∧ fst ≤ 13 ∧ 4 + 3 * (i : Int) * bb = fst := by
      have hi4 : i ≤ 3 := by omega
      have : bb = 0 ∨ bb = 1 := by omega
      rcases this with rfl | rfl
      · exact ⟨4, by omega, by omega, by omega⟩
      · exact ⟨4 + 3 * (i : Int), by omega, by omega, by omega⟩
    rw [ss_cons]; simp -implicitDefEqProofs (disch := omega) [i7, eb1, mul_l, f3]
    obtain ⟨own, om, ol, eo⟩ := slS (t := .sh) (ns := ns) (a := fst) (b := fst + 3) (by omega) (by omega) (by omega) rfl
    have etk : evIx (.sh, sl ti) (.int (i : Int)) = .ok (.sh, .str (gs ti i)) := by rw [ixz (by omega) (by omega), Int.toNat_natCast]
    obtain ⟨k, p1, p2, p3, p4⟩ := kind_ok (c := more / (1 + (i : Int)) + 17 * (i : Int)) (nm := gs ti i) (cnt := cnt) (own := own) hw wl1 wV (nf _ (tm _ (gs_mem hi))) hcnt (by omega) (fun s hs => nf s (om s hs))
    have kl : ks.length < lim := by show _ < 16000000; omega
    have hcd : nt .sh (cD cnt) = .sh := nt_sh
    rw [ss_cons]; simp -implicitDefEqProofs (disch := omega) [frz_cons, fdv_int, mul_l, etk, eo, p4, kl]
    refine ⟨ks ++ [k], _, _, _, by rw [List.map_append]; rfl, by rw [List.length_append, List.length_singleton, k1], fun x hx => ?_⟩
    rcases List.mem_append.mp hx with hx | hx
    · exact k2 x hx
    · rw [List.mem_singleton.mp hx]; exact ⟨p1, p2, p3⟩
  rintro _ ⟨ks, z10, z11, z12, rfl, k1, k2⟩
  rw [ranged_len] at k1
  have n4 : ks.length ≤ 4 := by omega
  refine s_for (t := .sh) (ds := ranged 0 (ks.length : Int)) (I := cuI [.sh (.int c), .sh (.int more), .ow (il L), .sh (sl ns), .ow (.list (vs.map Vr.d)), .sh (sl lo), .sh (sl be), .sh (sl ti), .sh w.d] ks.length) rfl (by simp -implicitDefEqProofs (disch := omega) [small_nat]) rfl ⟨ks, _, _, _, rfl, rfl, k2, Or.inr fun j hj => absurd hj (Nat.not_lt_zero j)⟩ ?_ ?_
  · rintro i d e hd ⟨ks2, z10, z11, z12, rfl, k3, k4, k5⟩
    have hi : i < ks2.length := by have := (List.getElem?_eq_some_iff.mp hd).1; rw [ranged_len] at this; omega
    rw [ranged_get (by omega)] at hd
    obtain rfl := Option.some.inj hd
    refine ⟨_, by simp -implicitDefEqProofs; rfl, ?_⟩
    obtain ⟨k, hk⟩ : ∃ k, ks2[i]? = some k := ⟨_, List.getElem?_eq_getElem hi⟩
    have kok := k4 k (List.mem_of_getElem? hk)
    have ecp : ∀ z14, ev G__law_shares (.cpr [("_law_kind_here", 14)] (.nm 14) (.lst (.var 9)) .nil (.call "_law_room" (.cons (.var 14) .nil))) [.sh (.int c), .sh (.int more), .ow (il L), .sh (sl ns), .ow (.list (vs.map Vr.d)), .sh (sl lo), .sh (sl be), .sh (sl ti), .sh w.d, .ow (.list (ks2.map Kd.d)), .sh (.int i), z11, z12, .no, z14] = .ok (.ow, .list (ks2.map fun k => .int k.room)) := fun z14 =>
      e_map (t := .rt) (l := ks2) (w := Kd.d) (h := fun k => .int k.room) (by simp -implicitDefEqProofs) (by show _ ≤ 16000000; omega) fun k hk => by
        have := room_ok (k4 k hk).1 (by have := (k4 k hk).2.2; omega)
        simp -implicitDefEqProofs [cprItem, wipeE, this]
    have sm : evBi .sum [(.ow, .list (ks2.map fun k => .int k.room))] = .ok (.sh, .int (ks2.map Kd.room).sum) := by
      have := sum_map (t := .ow) (ks2.map Kd.room)
      rwa [show il (ks2.map Kd.room) = .list (ks2.map fun k => .int k.room) by simp [il]] at this
    refine s_if (t := decide (96 < (ks2.map Kd.room).sum)) (by
      simp -implicitDefEqProofs only [x_val, x_cmp, x_bi, x_cons, x_nil, ecp, b_ok, sm, x_cst, cst_int]
      simp -implicitDefEqProofs) (fun q => ?_) (fun q => ?_)
    · have ek : evIx (.rt, .list (ks2.map Kd.d)) (.int (i : Int)) = .ok (.sh, k.d) := ixl_at (xs := ks2.map Kd.d) (d := k.d) (n := i) rfl (by rw [List.getElem?_map, hk]; rfl)
      have j0 : evIx (.sh, k.d) (.int 0) = .ok (.sh, .str k.nm) := ixt0
      have j1 : evIx (.sh, k.d) (.int 1) = .ok (.sh, cD k.cnt) := by rw [show k.d = .tuple [.str k.nm, cD k.cnt, .list (k.vs.map Vr.d), .list k.bd.ds] from rfl, ixt1]; cases k.cnt <;> rfl
      have e26 : evIx (.sh, sl ns) (.int 26) = .ok (.sh, .str (gs ns 26)) := ixz (by omega) (by omega)
      have pl : placed (ks2.map Kd.d) (i : Int) = .ok (i, k.d) := placed_at (n := i) rfl (by rw [List.getElem?_map, hk]; rfl)
      rw [List.cons_append, ss_cons]; simp -implicitDefEqProofs [ek, j0, j1, e26, pl]
      have f26 := nf _ (gs_mem (l := ns) (n := 26) (by omega))
      refine ⟨ks2.set i (small k.nm k.cnt (gs ns 26)), _, _, _, by rw [List.map_set]; rfl, by rw [List.length_set]; exact k3, fun x hx => ?_, Or.inr fun j hj x hx => ?_⟩
      · rcases List.mem_or_eq_of_mem_set hx with hx | rfl
        · exact k4 x hx
        · exact small_ok kok.1.1 kok.1.2.1 f26
      · have q : 96 < (ks2.map Kd.room).sum := of_decide_eq_true q
        rcases k5 with k5 | k5
        · omega
        · by_cases e : j = i
          · subst e
            rw [List.getElem?_set_self hi] at hx
            rw [← Option.some.inj hx]
            exact small_room
          · rw [List.getElem?_set_ne (by omega)] at hx
            exact k5 j (by omega) x hx
    · rw [List.nil_append, ss_nil]
      have q : ¬ 96 < (ks2.map Kd.room).sum := of_decide_eq_false q
      exact ⟨⟨ks2, _, _, _, rfl, k3, k4, Or.inl (by omega)⟩⟩
  · rintro _ ⟨ks2, z10, z11, z12, rfl, k3, k4, k5⟩
    rw [ranged_len] at k5
    have s96 : (ks2.map Kd.room).sum ≤ 96 := by
      rcases k5 with k5 | k5
      · exact k5
      · have := rooms_4 (ks := ks2) fun j x hx => k5 j (by have := (List.getElem?_eq_some_iff.mp hx).1; omega) x hx
        omega
    have st := rooms_ge k4
    rw [ss_cons]; simp -implicitDefEqProofs [frz_cons]
    refine ⟨⟨vs, lo, be, ks2⟩, rfl, vl, vok, ll, fun s hs => nf s (lm s hs), by show be.length ≤ 3; omega, fun s hs => nf s (bm s hs), by show ks2.length ≤ 4; omega, fun k hk => (k4 k hk).1, by show (ks2.map fun k => k.bd.tot).sum ≤ 96; omega⟩

/-! how long the repr of a program is -/
structure Rp (n k : Nat) (d : D) : Prop where
  s : d.showable = true
  l : d.canLay0 = true
  n : d.shown.length ≤ n
  k : d.depth ≤ k
structure RpA (n k : Nat) (xs : List D) : Prop where
  s : PyData.showableAll xs = true
  l : PyData.canLayAll0 xs = true
  n : piled (PyData.shownAll xs) ≤ n
  k : PyData.depthAll xs ≤ k
theorem Rp.le {n m k j : Nat} {d : D} (h : Rp n k d) (h1 : n ≤ m) (h2 : k ≤ j) : Rp m j d := ⟨h.s, h.l, Nat.le_trans h.n h1, Nat.le_trans h.k h2⟩
theorem RpA.le {n m k j : Nat} {d : List D} (h : RpA n k d) (h1 : n ≤ m) (h2 : k ≤ j) : RpA m j d := ⟨h.s, h.l, Nat.le_trans h.n h1, Nat.le_trans h.k h2⟩
theorem rpa_nil {n k : Nat} : RpA n k [] := ⟨by simp [PyData.showableAll], by simp [PyData.canLayAll0], by simp [PyData.shownAll, piled], by simp [PyData.depthAll]⟩
theorem rpa_cons {n m k : Nat} {x : D} {r : List D} (h : Rp n k x) (g : RpA m k r) : RpA (n + 2 + m) k (x :: r) := by
  refine ⟨by simp [PyData.showableAll, h.s, g.s], by simp [PyData.canLayAll0, h.l, g.l], ?_, ?_⟩
  · rw [show PyData.shownAll (x :: r) = PyData.shown x :: PyData.shownAll r from by simp [PyData.shownAll], piled_cons]
    have := h.n
    have := g.n
    omega
  · rw [show PyData.depthAll (x :: r) = max (PyData.depth x) (PyData.depthAll r) from by simp [PyData.depthAll]]
    have := h.k
    have := g.k
    omega
theorem rp_list {n k : Nat} {xs : List D} (h : RpA n k xs) : Rp (n + 2) (k + 1) (.list xs) := by
  refine ⟨by simpa [PyData.showable] using h.s, by simpa [PyData.canLay0] using h.l, ?_, ?_⟩
  · simp only [PyData.shown]
    exact Nat.le_trans (listText_le _) (by have := h.n; omega)
  · simp only [PyData.depth]
    have := h.k
    omega
theorem rp_tuple {n k : Nat} {xs : List D} (h : RpA n k xs) : Rp (n + 3) (k + 1) (.tuple xs) := by
  refine ⟨by simpa [PyData.showable] using h.s, by simpa [PyData.canLay0] using h.l, ?_, ?_⟩
  · simp only [PyData.shown]
    exact Nat.le_trans (tupleText_le _) (by have := h.n; omega)
  · simp only [PyData.depth]
    have := h.k
    omega
theorem rp_str {m k : Nat} {s : Str} (h : Fine m s) : Rp (10 * m + 2) k (.str s) := by
  refine ⟨by simp [PyData.showable], by simpa [PyData.canLay0] using h.1, ?_, by simp [PyData.depth]⟩
  simp only [PyData.shown]
  refine Nat.le_trans (StrLaws.reprText_len s fun c hc => ?_) (by have := h.2; omega)
  have h3 := Array.all_eq_true_iff_forall_mem.mp h.1 c (Array.mem_toList_iff.mp hc)
  have h4 : c < 0x110000 := by simpa using h3
  have e : (16 : Nat) ^ 8 = 4294967296 := by decide
  omega
theorem rp_int {k : Nat} {i : Int} (h1 : -400 ≤ i) (h2 : i ≤ 400) : Rp 252 k (.int i) := by
  refine ⟨by simpa [PyData.showable] using small_log (by omega) (by omega), by simp [PyData.canLay0], ?_, by simp [PyData.depth]⟩
  simp only [PyData.shown]
  exact Nat.le_trans (istr_len i h1 h2) (by decide)
theorem rp_bool {k : Nat} {b : Bool} : Rp 252 k (.bool b) := by
  refine ⟨by simp [PyData.showable], by simp [PyData.canLay0], ?_, by simp [PyData.depth]⟩
  simp only [PyData.shown]
  cases b
  · exact (by decide : 5 ≤ 252)
  · exact (by decide : 4 ≤ 252)
theorem rp_none {k : Nat} : Rp 252 k .none := by
  refine ⟨by simp [PyData.showable], by simp [PyData.canLay0], ?_, by simp [PyData.depth]⟩
  simp only [PyData.shown]
  exact (by decide : 4 ≤ 252)
def rl : Nat → Nat | 0 => 262 | n + 1 => 3 * (rl n + 2) + 3
theorem rl_mono {n m : Nat} (h : n ≤ m) : rl n ≤ rl m := by
  induction h with
  | refl => exact Nat.le_refl _
  | step _ ih => show _ ≤ 3 * (rl _ + 2) + 3; omega
theorem rl_pos (n : Nat) : 262 ≤ rl n := rl_mono (Nat.zero_le n)
theorem rp_three {n k : Nat} {x y z : D} (hx : Rp n k x) (hy : Rp n k y) (hz : Rp n k z) : Rp (3 * (n + 2) + 3) (k + 1) (.tuple [x, y, z]) := (rp_tuple (rpa_cons hx (rpa_cons hy (rpa_cons hz (rpa_nil (n := 0)))))).le (by omega) (Nat.le_refl _)
theorem Va.rp : ∀ {t : Va} {n : Nat}, t.fin → t.dep ≤ n → Rp (rl n) n t.d
  | .nm s, n, h, _ => (rp_str (k := n) (show Fine 25 s from h)).le (by have := rl_pos n; omega) (Nat.le_refl _)
  | .num i, n, h, _ => by
    have h : i.natAbs ≤ 100 := h
    exact (rp_int (k := n) (i := i) (by omega) (by omega)).le (by have := rl_pos n; omega) (Nat.le_refl _)
  | .nd g a b, 0, _, hd => by simp [Va.dep] at hd
  | .nd g a b, n + 1, h, hd => by
    have hd : max a.dep b.dep + 1 ≤ n + 1 := hd
    exact rp_three ((rp_str (k := n) (sgn_fine g)).le (rl_pos n) (Nat.le_refl _)) (Va.rp h.1 (by omega)) (Va.rp h.2 (by omega))
theorem Co.rp : ∀ {t : Co} {n : Nat}, t.fin → t.dep ≤ n → Rp (rl n) n t.d
  | .b x, n, _, _ => (rp_bool (k := n)).le (by have := rl_pos n; omega) (Nat.le_refl _)
  | .no c, 0, _, hd => by simp [Co.dep] at hd
  | .an u v, 0, _, hd => by simp [Co.dep] at hd
  | .orr u v, 0, _, hd => by simp [Co.dep] at hd
  | .cm _ u v, 0, _, hd => by simp [Co.dep] at hd
  | .no c, n + 1, h, hd => by
    have hd : c.dep + 1 ≤ n + 1 := hd
    have hs := (rp_str (k := n) (Fine.of (n := 3) "not" (by decide))).le (m := rl n) (by have := rl_pos n; omega) (Nat.le_refl _)
    exact (rp_tuple (rpa_cons hs (rpa_cons (Co.rp (t := c) h (by omega)) (rpa_nil (n := 0))))).le (by show _ ≤ 3 * (rl n + 2) + 3; omega) (Nat.le_refl _)
  | .an u v, n + 1, h, hd => by
    have hd : max u.dep v.dep + 1 ≤ n + 1 := hd
    exact rp_three ((rp_str (k := n) (Fine.of (n := 3) "and" (by decide))).le (by have := rl_pos n; omega) (Nat.le_refl _)) (Co.rp h.1 (by omega)) (Co.rp h.2 (by omega))
  | .orr u v, n + 1, h, hd => by
    have hd : max u.dep v.dep + 1 ≤ n + 1 := hd
    exact rp_three ((rp_str (k := n) (Fine.of (n := 2) "or" (by decide))).le (by have := rl_pos n; omega) (Nat.le_refl _)) (Co.rp h.1 (by omega)) (Co.rp h.2 (by omega))
  | .cm g u v, n + 1, h, hd => by
    have hd : max u.dep v.dep + 1 ≤ n + 1 := hd
    exact rp_three ((rp_str (k := n) (csg_fine g)).le (rl_pos n) (Nat.le_refl _)) (Va.rp h.1 (by omega)) (Va.rp h.2 (by omega))
theorem rl4 : rl 4 ≤ 22000 := by decide
theorem Pw.rp {p : Pw} (h : p.fin) : Rp 22000 4 p.d := by
  cases p with
  | n s => exact (rp_str (k := 4) (show Fine 25 s from h)).le (by decide) (Nat.le_refl _)
  | v a => exact (Va.rp h.1 h.2).le rl4 (Nat.le_refl _)
  | c a => exact (Co.rp h.1 h.2).le rl4 (Nat.le_refl _)
theorem rp_pws : ∀ {ps : List Pw}, (∀ p ∈ ps, p.fin) → RpA (22002 * ps.length) 4 (ps.map Pw.d)
  | [], _ => rpa_nil
  | p :: r, h => (rpa_cons (Pw.rp (h p List.mem_cons_self)) (rp_pws fun q hq => h q (List.mem_cons_of_mem _ hq))).le (by rw [List.length_cons]; omega) (Nat.le_refl _)
mutual
theorem St.rp : ∀ {s : St}, s.ok → ∃ n, n + 2 ≤ 70000 * s.tot ∧ Rp n (3 * s.nd + 5) s.d
  | .sim w ps, h => by
    obtain ⟨h1, _, h5, h6⟩ := h
    refine ⟨_, ?_, (rp_tuple (rpa_cons ((rp_str (k := 4) h1)) (rp_pws h6))).le (Nat.le_refl _) (by show 4 + 1 ≤ 3 * 0 + 5; omega)⟩
    show _ ≤ 70000 * 1
    omega
  | .ife c a b, h => by
    obtain ⟨h1, h2, h3, h4⟩ := h
    obtain ⟨na, a1, a2⟩ := Bd.rp h3
    obtain ⟨nb, b1, b2⟩ := Bd.rp h4
    have hs := rp_str (k := 3 * max a.nd b.nd + 6) (Fine.of (n := 2) "if" (by decide))
    have hc := (Co.rp h1 h2).le (j := 3 * max a.nd b.nd + 6) rl4 (by omega)
    have ha := (rp_list a2).le (j := 3 * max a.nd b.nd + 6) (Nat.le_refl _) (by omega)
    have hb := (rp_list b2).le (j := 3 * max a.nd b.nd + 6) (Nat.le_refl _) (by omega)
    refine ⟨_, ?_, (rp_tuple (rpa_cons hs (rpa_cons hc (rpa_cons ha (rpa_cons hb (rpa_nil (n := 0))))))).le (Nat.le_refl _) (by show _ ≤ 3 * (max a.nd b.nd + 1) + 5; omega)⟩
    show _ ≤ 70000 * (1 + (a.tot + b.tot))
    omega
  | .lop c a, h => by
    obtain ⟨h1, h2, h3⟩ := h
    obtain ⟨na, a1, a2⟩ := Bd.rp h3
    have hs := rp_str (k := 3 * a.nd + 6) (Fine.of (n := 4) "loop" (by decide))
    have hc := (Co.rp h1 h2).le (j := 3 * a.nd + 6) rl4 (by omega)
    have ha := (rp_list a2).le (j := 3 * a.nd + 6) (Nat.le_refl _) (by omega)
    refine ⟨_, ?_, (rp_tuple (rpa_cons hs (rpa_cons hc (rpa_cons ha (rpa_nil (n := 0)))))).le (Nat.le_refl _) (by show _ ≤ 3 * (a.nd + 1) + 5; omega)⟩
    show _ ≤ 70000 * (1 + a.tot)
    omega
  | .cho bs, h => by
    obtain ⟨h1, h2, h3⟩ := h
    obtain ⟨na, a1, a2⟩ := Bds.rp h3
    have hs := rp_str (k := 3 * bs.nd + 7) (Fine.of (n := 6) "choose" (by decide))
    have ha := (rp_list a2).le (j := 3 * bs.nd + 7) (Nat.le_refl _) (by omega)
    refine ⟨_, ?_, (rp_tuple (rpa_cons hs (rpa_cons ha (rpa_nil (n := 0))))).le (Nat.le_refl _) (by show _ ≤ 3 * (bs.nd + 1) + 5; omega)⟩
    show _ ≤ 70000 * (1 + bs.tot)
    omega
theorem Bd.rp : ∀ {b : Bd}, b.ok → ∃ n, n ≤ 70000 * b.tot ∧ RpA n (3 * b.nd + 5) b.ds
  | .nil, _ => ⟨0, Nat.zero_le _, rpa_nil⟩
  | .cons s r, h => by
    obtain ⟨na, a1, a2⟩ := St.rp h.1
    obtain ⟨nb, b1, b2⟩ := Bd.rp h.2
    refine ⟨_, ?_, rpa_cons (a2.le (j := 3 * max s.nd r.nd + 5) (Nat.le_refl _) (by omega)) (b2.le (Nat.le_refl _) (by show _ ≤ 3 * max s.nd r.nd + 5; omega))⟩
    show _ ≤ 70000 * (s.tot + r.tot)
    omega
theorem Bds.rp : ∀ {b : Bds}, b.ok → ∃ n, n ≤ 70000 * b.tot + 4 * b.toL.length ∧ RpA n (3 * b.nd + 6) b.ds
  | .nil, _ => ⟨0, Nat.zero_le _, rpa_nil⟩
  | .cons s r, h => by
    obtain ⟨na, a1, a2⟩ := Bd.rp h.1
    obtain ⟨nb, b1, b2⟩ := Bds.rp h.2
    refine ⟨_, ?_, rpa_cons ((rp_list a2).le (j := 3 * max s.nd r.nd + 6) (Nat.le_refl _) (by omega)) (b2.le (Nat.le_refl _) (by show _ ≤ 3 * max s.nd r.nd + 6; omega))⟩
    show _ ≤ 70000 * (s.tot + r.tot) + 4 * (r.toL.length + 1)
    omega
end
theorem Vr.rp {v : Vr} (h : v.ok) : Rp 1100 1 v.d := by
  obtain ⟨h1, ⟨a1, a2⟩, ⟨b1, b2⟩, c1, c2⟩ := h
  exact (rp_tuple (rpa_cons (rp_str (k := 0) h1) (rpa_cons (rp_int a1 a2) (rpa_cons (rp_int b1 b2) (rpa_cons (rp_int c1 c2) (rpa_nil (n := 0))))))).le (by decide) (Nat.le_refl _)
theorem rp_vrs : ∀ {l : List Vr}, (∀ v ∈ l, v.ok) → RpA (1102 * l.length) 1 (l.map Vr.d)
  | [], _ => rpa_nil
  | p :: r, h => (rpa_cons (Vr.rp (h p List.mem_cons_self)) (rp_vrs fun q hq => h q (List.mem_cons_of_mem _ hq))).le (by rw [List.length_cons]; omega) (Nat.le_refl _)
theorem rp_nms : ∀ {l : List Str}, (∀ v ∈ l, Fine 25 v) → RpA (254 * l.length) 0 (l.map .str)
  | [], _ => rpa_nil
  | p :: r, h => (rpa_cons (rp_str (k := 0) (h p List.mem_cons_self)) (rp_nms fun q hq => h q (List.mem_cons_of_mem _ hq))).le (by rw [List.length_cons]; omega) (Nat.le_refl _)
theorem cD_rp {k : Nat} {c : Option Int} (h : ∀ i, c = some i → 0 ≤ i ∧ i ≤ 400) : Rp 252 k (cD c) := by
  cases c with
  | none => exact rp_none
  | some i => have := h i rfl; exact rp_int (by omega) (by omega)
theorem Kd.rp {k : Kd} (h : k.ok) : Rp (70000 * k.bd.tot + 5000) 32 k.d := by
  obtain ⟨h1, h2, h3, h4, h5, h6⟩ := h
  obtain ⟨n, n1, n2⟩ := Bd.rp h5
  exact (rp_tuple (rpa_cons ((rp_str (k := 31) h1)) (rpa_cons (cD_rp h2) (rpa_cons ((rp_list (rp_vrs h4)).le (Nat.le_refl _) (by omega)) (rpa_cons ((rp_list n2).le (Nat.le_refl _) (by omega)) (rpa_nil (n := 0))))))).le (by omega) (Nat.le_refl _)
theorem rp_kds : ∀ {l : List Kd}, (∀ v ∈ l, v.ok) → RpA (70000 * (l.map fun k => k.bd.tot).sum + 5002 * l.length) 32 (l.map Kd.d)
  | [], _ => rpa_nil
  | p :: r, h => (rpa_cons (Kd.rp (h p List.mem_cons_self)) (rp_kds fun q hq => h q (List.mem_cons_of_mem _ hq))).le (by simp only [List.map_cons, List.sum_cons, List.length_cons]; omega) (Nat.le_refl _)
theorem Pg.rp {p : Pg} (h : p.ok) : reprOk p.d = true := by
  obtain ⟨h1, h2, h3, h4, h5, h6, h7, h8, h9⟩ := h
  have a := (rp_list (rp_vrs h2)).le (j := 33) (Nat.le_refl _) (by decide)
  have b := (rp_list (rp_nms h4)).le (j := 33) (Nat.le_refl _) (by decide)
  have c := (rp_list (rp_nms h6)).le (j := 33) (Nat.le_refl _) (by decide)
  have d := rp_list (rp_kds h8)
  have r := rp_tuple (rpa_cons a (rpa_cons b (rpa_cons c (rpa_cons d (rpa_nil (n := 0))))))
  have r : Rp 15000000 34 p.d := r.le (by omega) (Nat.le_refl _)
  unfold reprOk
  rw [r.s, r.l, decide_eq_true (show p.d.shown.length ≤ lim from Nat.le_trans r.n (by decide)), decide_eq_true (show p.d.depth ≤ 60 from Nat.le_trans r.k (by decide))]
  rfl
theorem Pg.repr {p : Pg} (h : p.ok) (t : Tag) : evBi .repr [(t, p.d)] = .ok (.sh, .str (PyData.shown p.d)) := repr_tuple (Pg.rp h)

/-! the law -/
def lwI (ns : List Int) (i : Nat) (e : PV.Env) : Prop := ∃ a1 a2 a3 a4 : Slot, e = [.sh (il ns), a1, a2, a3, a4]
theorem law_holds (ns : List Int) (hl : ns.length ≤ 63) : g_law [il ns] = .ok (.sh, .bool true) := by
  refine def_is rfl ?_
  unfold b_law
  refine s_for (t := .sh) (ds := ranged 0 3) (I := lwI ns) rfl (by simp -implicitDefEqProofs (disch := omega) [small_nat]) rfl ⟨_, _, _, _, rfl⟩ ?_ ?_
  · rintro i d e hd ⟨a1, a2, a3, a4, rfl⟩
    have hi : i < 3 := by have := (List.getElem?_eq_some_iff.mp hd).1; rwa [ranged_len] at this
    rw [ranged_get (by rw [Int.sub_zero]; exact hi)] at hd
    obtain rfl := Option.some.inj hd
    refine ⟨_, by simp -implicitDefEqProofs; rfl, ?_⟩
    obtain ⟨p, pok, ep⟩ := prog_gen (cell ns (2 * (i : Int)) + (i : Int)) (cell ns (2 * (i : Int) + 1))
    have hp : nt .sh p.d = .sh := nt_sh
    have pf : p.d = .tuple [.list (p.sh.map Vr.d), sl p.lo, sl p.be, .list (p.ki.map Kd.d)] := rfl
    rw [ss_cons]; simp -implicitDefEqProofs (disch := omega) [mul_l, cell_ok, ep]
    rw [ss_cons]; simp -implicitDefEqProofs [Pg.repr pok]
    rw [ss_cons]; simp -implicitDefEqProofs [frz_cons, format_ok pok]
    refine s_if (t := false) (by simp -implicitDefEqProofs [isT, lawtext_ok pok, Pg.repr pok]) (fun z => by cases z) fun _ => ?_
    rw [List.nil_append, ss_nil]
    exact ⟨⟨_, _, _, _, rfl⟩⟩
  · rintro _ ⟨a1, a2, a3, a4, rfl⟩
    rw [ss_cons]; simp -implicitDefEqProofs

end K07

open PySem PySem.W PyProof.Rows
set_option maxRecDepth 100000 in
set_option maxHeartbeats 0 in
theorem PySem.Challenge.cw_legion_k07_programs_written_holds : PySem.Challenge.rw_legion_k07_programs_written.Holds := by
  w_on; o_law; k_head; (case hw => w_witness2)
  k_fill
  refine PV.walk_g (l := PySem.Challenge.rw_legion_k07_programs_written) (n := 63) (k := 136) (x := "_law_script") (g := K07.g_law) rfl (by decide) rfl ⟨rfl, by decide, by decide⟩ (fun w h Y => PySem.W.kIn_of Y) K07.law_holds ?F
  case F =>
    intro w mg fa h KX Gl hmg
    refine' K07.all_mk KX Gl hmg ?a1 ?l1 ?c1 ?k1 ?a2 ?l2 ?c2 ?k2 ?a3 ?l3 ?c3 ?k3 ?a4 ?l4 ?c4 ?k4 ?a5 ?l5 ?c5 ?k5 ?a6 ?l6 ?c6 ?k6 ?a7 ?l7 ?c7 ?k7 ?a8 ?l8 ?c8 ?k8 ?a9 ?l9 ?c9 ?k9 ?a10 ?l10 ?c10 ?k10 ?a11 ?l11 ?c11 ?k11 ?a12 ?l12 ?c12 ?k12 ?a13 ?l13 ?c13 ?k13 ?a14 ?l14 ?c14 ?k14 ?a15 ?l15 ?c15 ?k15 ?a16 ?l16 ?c16 ?k16 ?a17 ?l17 ?c17 ?k17 ?a18 ?l18 ?c18 ?k18 ?a19 ?l19 ?c19 ?k19 ?a20 ?l20 ?c20 ?k20 ?a21 ?l21 ?c21 ?k21 ?a22 ?l22 ?c22 ?k22 ?a23 ?l23 ?c23 ?k23 ?a24 ?l24 ?c24 ?k24 ?a25 ?l25 ?c25 ?k25 ?a26 ?l26 ?c26 ?k26  ?z_abs ?z_bool ?z_enumerate ?z_int ?z_isinstance ?z_len ?z_min ?z_range ?z_repr ?z_str ?z_sum ?z_tuple  
    (case a1 => k_is); (case l1 => k_is); (case c1 => k_is); (case k1 => k_is)
    (case a2 => k_is); (case l2 => k_is); (case c2 => k_is); (case k2 => k_is)
    (case a3 => k_is); (case l3 => k_is); (case c3 => k_is); (case k3 => k_is)
    (case a4 => k_is); (case l4 => k_is); (case c4 => k_is); (case k4 => k_is)
    (case a5 => k_is); (case l5 => k_is); (case c5 => k_is); (case k5 => k_is)
    (case a6 => k_is); (case l6 => k_is); (case c6 => k_is); (case k6 => k_is)
    (case a7 => k_is); (case l7 => k_is); (case c7 => k_is); (case k7 => k_is)
    (case a8 => k_is); (case l8 => k_is); (case c8 => k_is); (case k8 => k_is)
    (case a9 => k_is); (case l9 => k_is); (case c9 => k_is); (case k9 => k_is)
    (case a10 => k_is); (case l10 => k_is); (case c10 => k_is); (case k10 => k_is)
    (case a11 => k_is); (case l11 => k_is); (case c11 => k_is); (case k11 => k_is)
    (case a12 => k_is); (case l12 => k_is); (case c12 => k_is); (case k12 => k_is)
    (case a13 => k_is); (case l13 => k_is); (case c13 => k_is); (case k13 => k_is)
    (case a14 => k_is); (case l14 => k_is); (case c14 => k_is); (case k14 => k_is)
    (case a15 => k_is); (case l15 => k_is); (case c15 => k_is); (case k15 => k_is)
    (case a16 => k_is); (case l16 => k_is); (case c16 => k_is); (case k16 => k_is)
    (case a17 => k_is); (case l17 => k_is); (case c17 => k_is); (case k17 => k_is)
    (case a18 => k_is); (case l18 => k_is); (case c18 => k_is); (case k18 => k_is)
    (case a19 => k_is); (case l19 => k_is); (case c19 => k_is); (case k19 => k_is)
    (case a20 => k_is); (case l20 => k_is); (case c20 => k_is); (case k20 => k_is)
    (case a21 => k_is); (case l21 => k_is); (case c21 => k_is); (case k21 => k_is)
    (case a22 => k_is); (case l22 => k_is); (case c22 => k_is); (case k22 => k_is)
    (case a23 => k_is); (case l23 => k_is); (case c23 => k_is); (case k23 => k_is)
    (case a24 => k_is); (case l24 => k_is); (case c24 => k_is); (case k24 => k_is)
    (case a25 => k_is); (case l25 => k_is); (case c25 => k_is); (case k25 => k_is)
    (case a26 => k_is); (case l26 => k_is); (case c26 => k_is); (case k26 => k_is)
    (case z_abs => k_is)
    (case z_bool => k_is)
    (case z_enumerate => k_is)
    (case z_int => k_is)
    (case z_isinstance => k_is)
    (case z_len => k_is)
    (case z_min => k_is)
    (case z_range => k_is)
    (case z_repr => k_is)
    (case z_str => k_is)
    (case z_sum => k_is)
    (case z_tuple => k_is)
